import PyProof.Rows.All
import Wide.All
import OpenK.AllK
import Wide.FinOn
import HandS.ForMost
import HandS.Deep
import KE.KDictKeyed
import KE.SortData
import HandS.TupAny
import HandS.IsInst
import HandS.Conv
import HandS.Zip
import HandS.Strs
import KE.KIndexOf
import HandS.Defaults
import HandS.Words
import HandS.TupSets
import HandS.SetKeys
import KE.KDictPairs
import HandS.DictComp
import KE.DataMinMax
import HandS.SortKw
import HandS.Style
import HandS.Head0
import HandS.Head1
import HandS.Head2
import HandS.HeadEnd
import HandS.HeadHook1
import HandS.HeadHook2
import PySem.Challenge.RW_pairlands_k39_thi_things
set_option Elab.async false
set_option linter.all false
set_option maxRecDepth 100000
set_option autoImplicit false
set_option maxHeartbeats 40000000
/-! T-layer, part A: tree values, own heap, the relation to the hand layer's heap, pending results. -/
namespace TL
open PySem PySem.Spec PyProof.Rows L2

/-- a value as a tree; ref n: the n-th mutable object made; scr: the script -/
inductive T where
  | non | bl (b : Bool) | int (i : Int) | str (x : Str) | tup (ts : List T) | ref (n : Nat) | scr (ns : List Int)
instance : Inhabited T := ⟨.non⟩
/-- a mutable object -/
inductive TO where
  | lst (xs : List T) | dic (kvs : List (T × T)) | dit (kvs : List (T × T)) | lck (kvs : List (T × T)) | lct (kvs : List (T × T)) | ins (C : Str) (fs : List (Str × T))
abbrev TH := List TO
inductive Res (α : Type) where
  | ok (a : α) (h : TH) | exc (c : Str) (fs : List (Str × T)) (h : TH) | stuck
def Res.bind {α β : Type} (r : Res α) (f : α → TH → Res β) : Res β := match r with
  | .ok a h => f a h
  | .exc c fs h => .exc c fs h
  | .stuck => .stuck
@[simp] theorem bind_ok {α β : Type} (a : α) (h : TH) (f : α → TH → Res β) : (Res.ok a h).bind f = f a h := rfl
@[simp] theorem bind_exc {α β : Type} (c : Str) (fs : List (Str × T)) (h : TH) (f : α → TH → Res β) : (Res.exc c fs h : Res α).bind f = .exc c fs h := rfl
@[simp] theorem bind_stuck {α β : Type} (f : α → TH → Res β) : (Res.stuck : Res α).bind f = .stuck := rfl
abbrev Sl := List (Option T)
abbrev ME := Sl → TH → Res T

/-! ### values -/
def SqS (K : PySem.W.Frag) (H : Hp) (a : Addr) (xs : List V) : Prop :=
  (∃ o, H a = some (.frz o (.lst xs))) ∨
    ∃ (o : Obj) (its : Array Value) (n : Nat), K.lookup a = some o ∧ o.cls = .type "list" ∧ o.dict = none ∧ o.data = .seq its n ∧ its.size ≤ sizeLine ∧ Vals xs its.toList
theorem SqS.l {K : PySem.W.Frag} {H : Hp} {a : Addr} {xs : List V} (h : SqS K H a xs) : SqL K H a xs := by
  rcases h with h | h
  · exact .inl (.inr h)
  · exact .inr h
/-- a tuple, its object known to bear no dict -/
def TpS (K : PySem.W.Frag) (H : Hp) (a : Addr) (xs : List V) : Prop :=
  (∃ o, H a = some (.frz o (.tup xs)) ∧ o.dict = none) ∨
    ∃ (o : Obj) (its : Array Value) (n : Nat), K.lookup a = some o ∧ o.cls = .type "tuple" ∧ o.dict = none ∧ o.data = .seq its n ∧ its.size ≤ sizeLine ∧ Vals xs its.toList
theorem TpS.t {K : PySem.W.Frag} {H : Hp} {a : Addr} {xs : List V} (h : TpS K H a xs) : SqT K H a xs := by
  rcases h with ⟨o, h, _⟩ | ⟨o, its, n, h1, h2, _, h4, h5, h6⟩
  · exact .inl (.inr ⟨o, h⟩)
  · exact .inr ⟨o, its, n, h1, h2, h4, h5, h6⟩
mutual
inductive VR (K : PySem.W.Frag) (m : List Addr) (H : Hp) : T → V → Prop
  | non : VR K m H .non .non
  | bl (b : Bool) : VR K m H (.bl b) (.bl b)
  | int (i : Int) : VR K m H (.int i) (.int i)
  | str (x : Str) : VR K m H (.str x) (.str x)
  | tup {ts : List T} {a : Addr} {xs : List V} : TpS K H a xs → VRs K m H ts xs → VR K m H (.tup ts) (.ref a)
  | ref {n : Nat} {a : Addr} : m[n]? = some a → VR K m H (.ref n) (.ref a)
  | scr {ns : List Int} {a : Addr} : SqS K H a (ns.map V.int) → VR K m H (.scr ns) (.ref a)
inductive VRs (K : PySem.W.Frag) (m : List Addr) (H : Hp) : List T → List V → Prop
  | nil : VRs K m H [] []
  | cons {t : T} {ts : List T} {v : V} {vs : List V} : VR K m H t v → VRs K m H ts vs → VRs K m H (t :: ts) (v :: vs)
end
/-- what stays so that values stay -/
structure Keep (H H' : Hp) : Prop where
  tup : ∀ a o xs, H a = some (.frz o (.tup xs)) → H' a = some (.frz o (.tup xs))
  scr : ∀ a o xs, H a = some (.frz o (.lst xs)) → H' a = some (.frz o (.lst xs))
theorem Keep.refl (H : Hp) : Keep H H := ⟨fun _ _ _ h => h, fun _ _ _ h => h⟩
theorem Keep.trans {H H1 H2 : Hp} (a : Keep H H1) (b : Keep H1 H2) : Keep H H2 := ⟨fun c o xs h => b.tup c o xs (a.tup c o xs h), fun c o xs h => b.scr c o xs (a.scr c o xs h)⟩
section
variable {K : PySem.W.Frag} {m m' : List Addr} {H H' : Hp}
theorem TpS.keep (k : Keep H H') {a : Addr} {xs : List V} (h : TpS K H a xs) : TpS K H' a xs := by
  rcases h with ⟨o, h, d⟩ | h
  · exact .inl ⟨o, k.tup _ _ _ h, d⟩
  · exact .inr h
theorem SqS.keep (k : Keep H H') {a : Addr} {xs : List V} (h : SqS K H a xs) : SqS K H' a xs := by
  rcases h with ⟨o, h⟩ | h
  · exact .inl ⟨o, k.scr _ _ _ h⟩
  · exact .inr h
theorem pre_get {α : Type} {l l' : List α} (p : l <+: l') {i : Nat} {x : α} (h : l[i]? = some x) : l'[i]? = some x := by
  obtain ⟨r, rfl⟩ := p
  have : i < l.length := (List.getElem?_eq_some_iff.mp h).1
  rw [List.getElem?_append_left this]; exact h
mutual
theorem VR.mono (p : m <+: m') (k : Keep H H') : ∀ {t : T} {v : V}, VR K m H t v → VR K m' H' t v
  | _, _, .non => .non
  | _, _, .bl b => .bl b
  | _, _, .int i => .int i
  | _, _, .str x => .str x
  | _, _, .tup h1 h2 => .tup (TpS.keep k h1) (VRs.mono p k h2)
  | _, _, .ref h => .ref (pre_get p h)
  | _, _, .scr h => .scr (SqS.keep k h)
theorem VRs.mono (p : m <+: m') (k : Keep H H') : ∀ {ts : List T} {vs : List V}, VRs K m H ts vs → VRs K m' H' ts vs
  | _, _, .nil => .nil
  | _, _, .cons h1 h2 => .cons (VR.mono p k h1) (VRs.mono p k h2)
end
theorem VRs.length : ∀ {ts : List T} {vs : List V}, VRs K m H ts vs → ts.length = vs.length
  | _, _, .nil => rfl
  | _, _, .cons _ h => by simp [VRs.length h]
theorem VRs.get : ∀ {ts : List T} {vs : List V} {i : Nat} {t : T}, VRs K m H ts vs → ts[i]? = some t → ∃ v, vs[i]? = some v ∧ VR K m H t v
  | _, _, _, _, .nil, e => by simp at e
  | _, _, 0, _, .cons r _, e => by simp at e; subst e; exact ⟨_, rfl, r⟩
  | _, _, i + 1, t, .cons _ rs, e => by
    obtain ⟨v, h1, h2⟩ := VRs.get (i := i) (t := t) rs (by simpa using e)
    exact ⟨v, by simpa using h1, h2⟩
theorem VRs.get' : ∀ {ts : List T} {vs : List V} {i : Nat} {v : V}, VRs K m H ts vs → vs[i]? = some v → ∃ t, ts[i]? = some t ∧ VR K m H t v
  | _, _, _, _, .nil, e => by simp at e
  | _, _, 0, _, .cons r _, e => by simp at e; subst e; exact ⟨_, rfl, r⟩
  | _, _, i + 1, v, .cons _ rs, e => by
    obtain ⟨t, h1, h2⟩ := VRs.get' (i := i) (v := v) rs (by simpa using e)
    exact ⟨t, by simpa using h1, h2⟩
theorem VRs.append : ∀ {ts ts' : List T} {vs vs' : List V}, VRs K m H ts vs → VRs K m H ts' vs' → VRs K m H (ts ++ ts') (vs ++ vs')
  | _, _, _, _, .nil, h => h
  | _, _, _, _, .cons a b, h => .cons a (VRs.append b h)
theorem VRs.take : ∀ {ts : List T} {vs : List V} (n : Nat), VRs K m H ts vs → VRs K m H (ts.take n) (vs.take n)
  | _, _, 0, _ => by simpa using VRs.nil
  | _, _, _ + 1, .nil => by simpa using VRs.nil
  | _, _, n + 1, .cons a b => by simpa using VRs.cons a (VRs.take n b)
theorem VRs.drop : ∀ {ts : List T} {vs : List V} (n : Nat), VRs K m H ts vs → VRs K m H (ts.drop n) (vs.drop n)
  | _, _, 0, h => by simpa using h
  | _, _, _ + 1, .nil => by simpa using VRs.nil
  | _, _, n + 1, .cons a b => by simpa using VRs.drop n b
theorem VRs.set : ∀ {ts : List T} {vs : List V} (i : Nat) {t : T} {v : V}, VRs K m H ts vs → VR K m H t v → VRs K m H (ts.set i t) (vs.set i v)
  | _, _, _, _, _, .nil, _ => by simpa using VRs.nil
  | _, _, 0, _, _, .cons _ b, r => by simpa using VRs.cons r b
  | _, _, i + 1, _, _, .cons a b, r => by simpa using VRs.cons a (VRs.set i b r)
theorem VRs.eraseIdx : ∀ {ts : List T} {vs : List V} (i : Nat), VRs K m H ts vs → VRs K m H (ts.eraseIdx i) (vs.eraseIdx i)
  | _, _, _, .nil => by simpa using VRs.nil
  | _, _, 0, .cons _ b => by simpa using b
  | _, _, i + 1, .cons a b => by simpa using VRs.cons a (VRs.eraseIdx i b)
theorem VRs.dropLast : ∀ {ts : List T} {vs : List V}, VRs K m H ts vs → VRs K m H ts.dropLast vs.dropLast
  | _, _, .nil => .nil
  | _, _, .cons a .nil => .nil
  | _, _, .cons a (.cons b c) => .cons a (VRs.dropLast (.cons b c))
theorem VRs.reverse : ∀ {ts : List T} {vs : List V}, VRs K m H ts vs → VRs K m H ts.reverse vs.reverse
  | _, _, .nil => .nil
  | _, _, .cons a b => by simpa using VRs.append (VRs.reverse b) (.cons a .nil)
theorem VRs.ints : ∀ ns : List Int, VRs K m H (ns.map T.int) (ns.map V.int)
  | [] => .nil
  | n :: ns => .cons (.int n) (VRs.ints ns)
theorem VRs.strs : ∀ ns : List Str, VRs K m H (ns.map T.str) (ns.map V.str)
  | [] => .nil
  | n :: ns => .cons (.str n) (VRs.strs ns)
end

theorem nodup_at {α : Type} {N : List α} (hN : N.Nodup) {i j : Nat} {x : α} (a : N[i]? = some x) (b : N[j]? = some x) : i = j := by
  obtain ⟨h1, e1⟩ := List.getElem?_eq_some_iff.mp a
  obtain ⟨h2, e2⟩ := List.getElem?_eq_some_iff.mp b
  exact (List.getElem_inj hN).mp (e1.trans e2.symm)
/-! ### slots -/
inductive SR (K : PySem.W.Frag) (m : List Addr) (H : Hp) : Sl → L2.St → Prop
  | nil : SR K m H [] []
  | cons {ot : Option T} {ov : Option V} {ts : Sl} {vs : L2.St} : (∀ t, ot = some t → ∃ v, ov = some v ∧ VR K m H t v) → SR K m H ts vs → SR K m H (ot :: ts) (ov :: vs)
section
variable {K : PySem.W.Frag} {m m' : List Addr} {H H' : Hp}
theorem SR.mono (p : m <+: m') (k : Keep H H') : ∀ {σt : Sl} {σ : L2.St}, SR K m H σt σ → SR K m' H' σt σ
  | _, _, .nil => .nil
  | _, _, .cons h r => .cons (fun t e => let ⟨v, a, b⟩ := h t e; ⟨v, a, b.mono p k⟩) (SR.mono p k r)
theorem SR.get : ∀ {σt : Sl} {σ : L2.St} {i : Nat} {t : T}, SR K m H σt σ → σt[i]? = some (some t) → ∃ v, σ[i]? = some (some v) ∧ VR K m H t v
  | _, _, _, _, .nil, e => by simp at e
  | _, _, 0, t, .cons h _, e => by
    simp only [List.getElem?_cons_zero, Option.some.injEq] at e
    obtain ⟨v, a, b⟩ := h t e
    exact ⟨v, by simp [a], b⟩
  | _, _, i + 1, t, .cons _ r, e => by
    obtain ⟨v, a, b⟩ := SR.get (i := i) (t := t) r (by simpa using e)
    exact ⟨v, by simpa using a, b⟩
theorem SR.set : ∀ {σt : Sl} {σ : L2.St} (i : Nat) {t : T} {v : V}, SR K m H σt σ → VR K m H t v → SR K m H (σt.set i (some t)) (σ.set i (some v))
  | _, _, _, _, _, .nil, _ => by simpa using SR.nil
  | _, _, 0, _, _, .cons _ r, q => by simpa using SR.cons (fun t' e => by cases e; exact ⟨_, rfl, q⟩) r
  | _, _, i + 1, _, _, .cons h r, q => by simpa using SR.cons h (SR.set i r q)
theorem SR.setN : ∀ {σt : Sl} {σ : L2.St} (i : Nat), SR K m H σt σ → SR K m H (σt.set i none) (σ.set i none)
  | _, _, _, .nil => by simpa using SR.nil
  | _, _, 0, .cons _ r => by simpa using SR.cons (fun t' e => by cases e) r
  | _, _, i + 1, .cons h r => by simpa using SR.cons h (SR.setN i r)
def wipeT (σ : Sl) : List Nat → Sl
  | [] => σ
  | v :: vs => (wipeT σ vs).set v none
theorem SR.wipe {σt : Sl} {σ : L2.St} (h : SR K m H σt σ) : ∀ vs : List Nat, SR K m H (wipeT σt vs) (L2.wipe σ vs)
  | [] => h
  | v :: vs => (SR.wipe h vs).setN v
theorem SR.start : ∀ (n : Nat) {ts : List T} {vs : List V}, VRs K m H ts vs → SR K m H (ts.map some ++ List.replicate n none) (vs.map some ++ List.replicate n none)
  | 0, _, _, .nil => by simpa using SR.nil
  | n + 1, _, _, .nil => by
    have h : SR K m H (([] : List T).map some ++ List.replicate n none) (([] : List V).map some ++ List.replicate n none) := SR.start n .nil
    simp only [List.map_nil, List.nil_append] at h ⊢
    rw [List.replicate_succ, List.replicate_succ]
    exact .cons (fun t e => by cases e) h
  | n, _, _, .cons a b => by
    have h := SR.start n b
    simp only [List.map_cons, List.cons_append]
    exact .cons (fun t e => by cases e; exact ⟨_, rfl, a⟩) h
end

/-! ### the heap -/
structure Gc where
  P : Program
  w : World
  K : PySem.W.Frag
  mg : Str → Option Value
abbrev gc (X : Cx) : Gc := ⟨X.prog, X.w, X.K, X.mg⟩

def keyT : Key → T
  | .inl i => .int i
  | .inr x => .str x
mutual
/-- the key that a tuple (or what stands in one) is -/
def T.key : T → Option NestedKey
  | .non => some .none
  | .bl b => some (.num (if b = true then 1 else 0))
  | .int i => some (.num i)
  | .str x => some (.text x)
  | .tup ts => (T.keys ts).map .tup
  | .ref _ => none
  | .scr _ => none
def T.keys : List T → Option (List NestedKey)
  | [] => some []
  | t :: ts => match T.key t, T.keys ts with
    | some k, some ks => some (k :: ks)
    | _, _ => none
end
def KR (K : PySem.W.Frag) (m : List Addr) (H : Hp) : List (T × T) → List (Key × V) → Prop := Paired fun p q => p.1 = keyT q.1 ∧ VR K m H p.2 q.2
def TR (K : PySem.W.Frag) (m : List Addr) (H : Hp) : List (T × T) → List (NestedKey × Addr × Value) → Prop :=
  Paired fun p q => p.1.key = some q.1 ∧ (∃ ts, p.1 = .tup ts) ∧ q.1.depth ≤ 8 ∧ VR K [] H p.1 (.ref q.2.1) ∧ ∃ v, RelV v q.2.2 ∧ VR K m H p.2 v
def FR (K : PySem.W.Frag) (m : List Addr) (H : Hp) : List (Str × T) → List (Str × V) → Prop := Paired fun p q => p.1 = q.1 ∧ VR K m H p.2 q.2
/-- the object of a dict whose keys are tuples -/
structure DtO (G : Gc) (m : List Addr) (H : Hp) (a : Addr) (kvs : List (T × T)) (o : Obj) : Prop where
  ne : (a == sysModules) = false
  sz : kvs.length ≤ sizeLine
  ex : o.ExactDict
  en : ∃ es ep xs, o.data = .dict es ep ∧ es.toList = xs.map (entryOfKey (nestedKind G.P G.w)) ∧ (xs.map (·.1)).Nodup ∧ TR G.K m H kvs xs
def HOd (a : Addr) (o : Obj) : HO := .ext fun h => h.get? a = some o
/-- what stands at an object's address -/
def OR (G : Gc) (m : List Addr) (H : Hp) (a : Addr) : TO → Prop
  | .lst ts => ∃ xs, H a = some (.lst xs) ∧ VRs G.K m H ts xs
  | .dic kvs => ∃ xs, H a = some (.dK xs) ∧ KR G.K m H kvs xs
  | .dit kvs => ∃ o, H a = some (HOd a o) ∧ DtO G m H a kvs o
  | .lck kvs => ∃ od xs, H a = some (.frz od (.dK xs)) ∧ KR G.K m H kvs xs
  | .lct kvs => ∃ od o, H a = some (.frz od (HOd a o)) ∧ DtO G m H a kvs o
  | .ins C fs => ∃ Ca dx xs, G.mg C = some (.ref Ca) ∧ H a = some (.ins Ca dx xs) ∧ FR G.K m H fs xs
section
variable {G : Gc} {m m' : List Addr} {H H' : Hp} {a : Addr}
theorem KR.mono (p : m <+: m') (k : Keep H H') {kvs : List (T × T)} {xs : List (Key × V)} (h : KR G.K m H kvs xs) : KR G.K m' H' kvs xs := Paired.mapP h fun _ _ q => ⟨q.1, q.2.mono p k⟩
theorem FR.mono (p : m <+: m') (k : Keep H H') {kvs : List (Str × T)} {xs : List (Str × V)} (h : FR G.K m H kvs xs) : FR G.K m' H' kvs xs := Paired.mapP h fun _ _ q => ⟨q.1, q.2.mono p k⟩
theorem TR.mono (p : m <+: m') (k : Keep H H') {kvs : List (T × T)} {xs : List (NestedKey × Addr × Value)} (h : TR G.K m H kvs xs) : TR G.K m' H' kvs xs :=
  Paired.mapP h fun _ _ q => ⟨q.1, q.2.1, q.2.2.1, q.2.2.2.1.mono (List.prefix_refl _) k, let ⟨v, a, b⟩ := q.2.2.2.2; ⟨v, a, b.mono p k⟩⟩
theorem DtO.mono (p : m <+: m') (k : Keep H H') {kvs : List (T × T)} {o : Obj} (h : DtO G m H a kvs o) : DtO G m' H' a kvs o :=
  ⟨h.ne, h.sz, h.ex, let ⟨es, ep, xs, e1, e2, e3, e4⟩ := h.en; ⟨es, ep, xs, e1, e2, e3, e4.mono (G := G) p k⟩⟩
theorem OR.mono (p : m <+: m') (k : Keep H H') (e : H' a = H a) : ∀ {o : TO}, OR G m H a o → OR G m' H' a o
  | .lst _, ⟨xs, h, r⟩ => ⟨xs, e.trans h, r.mono p k⟩
  | .dic _, ⟨xs, h, r⟩ => ⟨xs, e.trans h, r.mono (G := G) p k⟩
  | .dit _, ⟨o, h, r⟩ => ⟨o, e.trans h, r.mono p k⟩
  | .lck _, ⟨od, xs, h, r⟩ => ⟨od, xs, e.trans h, r.mono (G := G) p k⟩
  | .lct _, ⟨od, o, h, r⟩ => ⟨od, o, e.trans h, r.mono p k⟩
  | .ins _ _, ⟨Ca, dx, xs, h1, h, r⟩ => ⟨Ca, dx, xs, h1, e.trans h, r.mono (G := G) p k⟩
/-- such an address is no tuple's, nor the script's -/
theorem OR.not {o : TO} (h : OR G m H a o) : (∀ ob xs, H a ≠ some (.frz ob (.tup xs))) ∧ (∀ ob xs, H a ≠ some (.frz ob (.lst xs))) ∧ ∃ u, H a = some u := by
  have key : ∀ u, H a = some u → (∀ ob xs, u ≠ .frz ob (.tup xs)) → (∀ ob xs, u ≠ .frz ob (.lst xs)) → (∀ ob xs, H a ≠ some (.frz ob (.tup xs))) ∧ (∀ ob xs, H a ≠ some (.frz ob (.lst xs))) ∧ ∃ u, H a = some u := by
    intro u e h2 h3
    exact ⟨fun ob xs z => by rw [e] at z; exact h2 ob xs (Option.some.inj z), fun ob xs z => by rw [e] at z; exact h3 ob xs (Option.some.inj z), u, e⟩
  cases o with
  | lst _ => obtain ⟨_, e, _⟩ := h; exact key _ e (fun _ _ z => by cases z) (fun _ _ z => by cases z)
  | dic _ => obtain ⟨_, e, _⟩ := h; exact key _ e (fun _ _ z => by cases z) (fun _ _ z => by cases z)
  | dit _ => obtain ⟨_, e, _⟩ := h; exact key _ e (fun _ _ z => by cases z) (fun _ _ z => by cases z)
  | lck _ => obtain ⟨_, _, e, _⟩ := h; exact key _ e (fun _ _ z => by cases z) (fun _ _ z => by cases z)
  | lct _ => obtain ⟨_, _, e, _⟩ := h; exact key _ e (fun _ _ z => by cases z) (fun _ _ z => by cases z)
  | ins _ _ => obtain ⟨_, _, _, _, e, _⟩ := h; exact key _ e (fun _ _ z => by cases z) (fun _ _ z => by cases z)
end
/-- the objects stand where m says -/
structure Rel (G : Gc) (m : List Addr) (th : TH) (H : Hp) : Prop where
  len : m.length = th.length
  nd : m.Nodup
  at_ : ∀ (i : Nat) (a : Addr) (o : TO), m[i]? = some a → th[i]? = some o → OR G m H a o
/-- m, H grow to m', H': new objects stand at new places; what is not of m stays -/
structure Ext (m : List Addr) (H : Hp) (m' : List Addr) (H' : Hp) : Prop where
  pre : m <+: m'
  new : ∀ a ∈ m', a ∉ m → H a = none
  fr : ∀ a o, H a = some o → a ∉ m → H' a = some o
  kp : Keep H H'
section
variable {G : Gc} {m m' m1 m2 : List Addr} {H H' H1 H2 : Hp} {a p : Addr} {th : TH}
theorem Ext.refl (m : List Addr) (H : Hp) : Ext m H m H := ⟨List.prefix_refl _, fun _ h1 h2 => absurd h1 h2, fun _ _ h _ => h, Keep.refl H⟩
theorem Ext.trans (x : Ext m H m1 H1) (y : Ext m1 H1 m2 H2) : Ext m H m2 H2 := by
  refine ⟨x.pre.trans y.pre, fun a h2 h => ?_, fun a o h h0 => ?_, x.kp.trans y.kp⟩
  · by_cases h1 : a ∈ m1
    · exact x.new a h1 h
    · have q := y.new a h2 h1
      cases e : H a with
      | none => rfl
      | some o => rw [x.fr a o e h] at q; cases q
  · have q := x.fr a o h h0
    refine y.fr a o q fun h1 => ?_
    rw [x.new a h1 h0] at h; cases h
theorem Rel.get (R : Rel G m th H) {i : Nat} {o : TO} (h : th[i]? = some o) : ∃ a, m[i]? = some a ∧ OR G m H a o := by
  have hi : i < th.length := (List.getElem?_eq_some_iff.mp h).1
  have hi' : i < m.length := by rw [R.len]; exact hi
  have e : m[i]? = some m[i] := List.getElem?_eq_getElem hi'
  exact ⟨m[i], e, R.at_ i _ o e h⟩
theorem Rel.mem (R : Rel G m th H) (h : a ∈ m) : ∃ (i : Nat) (o : TO), m[i]? = Option.some a ∧ th[i]? = Option.some o ∧ OR G m H a o := by
  obtain ⟨i, hi, e⟩ := List.getElem_of_mem h
  have e' : m[i]? = some a := by rw [List.getElem?_eq_getElem hi, e]
  have hi' : i < th.length := by rw [← R.len]; exact hi
  exact ⟨i, th[i], e', List.getElem?_eq_getElem hi', R.at_ i a _ e' (List.getElem?_eq_getElem hi')⟩
theorem Rel.some (R : Rel G m th H) (h : a ∈ m) : ∃ u, H a = some u := let ⟨_, _, _, _, q⟩ := R.mem h; q.not.2.2
theorem Rel.fresh (R : Rel G m th H) (h : H p = none) : p ∉ m := fun hm => by
  obtain ⟨u, e⟩ := R.some hm
  rw [h] at e; cases e
/-- a store at an object: nothing but it changes -/
theorem keep_upd (h1 : ∀ ob xs, H a ≠ Option.some (.frz ob (.tup xs))) (h2 : ∀ ob xs, H a ≠ Option.some (.frz ob (.lst xs))) (o : HO) : Keep H (upd H a o) := by
  refine ⟨fun b ob xs h => ?_, fun b ob xs h => ?_⟩
  · have hb : b ≠ a := fun e => by subst e; exact h1 ob xs h
    rw [upd_ne hb]; exact h
  · have hb : b ≠ a := fun e => by subst e; exact h2 ob xs h
    rw [upd_ne hb]; exact h
theorem keep_new (h : H p = none) (o : HO) : Keep H (upd H p o) := by
  refine ⟨fun b ob xs q => ?_, fun b ob xs q => ?_⟩
  · have hb : b ≠ p := fun e => by subst e; rw [h] at q; cases q
    rw [upd_ne hb]; exact q
  · have hb : b ≠ p := fun e => by subst e; rw [h] at q; cases q
    rw [upd_ne hb]; exact q
theorem Rel.store (R : Rel G m th H) {i : Nat} (hm : m[i]? = Option.some a) {o o' : TO} (ho : th[i]? = Option.some o) (u : HO) (new : OR G m (upd H a u) a o') : Rel G m (th.set i o') (upd H a u) ∧ Ext m H m (upd H a u) := by
  obtain ⟨n1, n2, n3⟩ := (R.at_ i a o hm ho).not
  have k := keep_upd n1 n2 u
  refine ⟨⟨by simp [R.len], R.nd, fun j b q hb hq => ?_⟩, ⟨List.prefix_refl _, fun _ h1 h2 => absurd h1 h2, fun b q h1 h2 => ?_, k⟩⟩
  · by_cases hj : j = i
    · subst hj
      rw [hm] at hb; cases hb
      rw [List.getElem?_set_self (List.getElem?_eq_some_iff.mp ho).1] at hq
      cases hq
      exact new
    · rw [List.getElem?_set_ne (Ne.symm hj)] at hq
      have hba : b ≠ a := fun e => by
        subst e
        exact hj (nodup_at R.nd hb hm)
      exact (R.at_ j b q hb hq).mono (List.prefix_refl _) k (upd_ne hba)
  · have hb : b ≠ a := fun e => h2 (by rw [e]; exact List.mem_of_getElem? hm)
    rw [upd_ne hb]; exact h1
theorem Rel.push (R : Rel G m th H) (hp : H p = none) (u : HO) (o : TO) (new : OR G (m ++ [p]) (upd H p u) p o) : Rel G (m ++ [p]) (th ++ [o]) (upd H p u) ∧ Ext m H (m ++ [p]) (upd H p u) := by
  have k := keep_new hp u
  have pf : p ∉ m := R.fresh hp
  refine ⟨⟨by simp [R.len], ?_, fun j b q hb hq => ?_⟩, ⟨List.prefix_append _ _, fun b h1 h2 => ?_, fun b q h1 h2 => ?_, k⟩⟩
  · rw [List.nodup_append]
    refine ⟨R.nd, by simp, fun b hb c hc => ?_⟩
    have : c = p := by simpa using hc
    subst this
    exact fun e => pf (e ▸ hb)
  · by_cases hj : j < m.length
    · rw [List.getElem?_append_left hj] at hb
      rw [List.getElem?_append_left (by rw [← R.len]; exact hj)] at hq
      have hba : b ≠ p := fun e => pf (e ▸ List.mem_of_getElem? hb)
      exact (R.at_ j b q hb hq).mono (List.prefix_append _ _) k (upd_ne hba)
    · rw [List.getElem?_append_right (by omega)] at hb
      rw [List.getElem?_append_right (by rw [← R.len]; omega)] at hq
      have e0 : j - m.length = 0 := by
        by_cases h : j - m.length = 0
        · exact h
        · rw [List.getElem?_eq_none (by simp; omega)] at hb; cases hb
      rw [e0] at hb
      have e1 : j - th.length = 0 := by rw [← R.len]; exact e0
      rw [e1] at hq
      simp only [List.getElem?_cons_zero, Option.some.injEq] at hb hq
      subst hb hq
      exact new
  · have h3 : b ∈ m ∨ b = p := by simpa using h1
    rcases h3 with h3 | h3
    · exact absurd h3 h2
    · rw [h3]; exact hp
  · rw [upd_ne (fun e => by rw [e, hp] at h1; cases h1)]; exact h1
/-- a new thing that is none of ours (a tuple) -/
theorem Rel.aside (R : Rel G m th H) (hp : H p = none) (u : HO) : Rel G m th (upd H p u) ∧ Ext m H m (upd H p u) := by
  have k := keep_new hp u
  have pf : p ∉ m := R.fresh hp
  refine ⟨⟨R.len, R.nd, fun j b q hb hq => ?_⟩, ⟨List.prefix_refl _, fun b h1 h2 => absurd h1 h2, fun b q h1 h2 => ?_, k⟩⟩
  · exact (R.at_ j b q hb hq).mono (List.prefix_refl _) k (upd_ne fun e => pf (e ▸ List.mem_of_getElem? hb))
  · rw [upd_ne (fun e => by rw [e, hp] at h1; cases h1)]; exact h1
theorem push_at : (m ++ [p])[m.length]? = Option.some p := by simp
end

/-! ### pending results -/
abbrev EOb := Str → List (Str × T) → List Addr → TH → Hp → Prop
abbrev EO0 : EOb := fun _ _ _ _ _ => False
/-- what is wanted of a result: Φ of a value, EO of an exception -/
def Pn {α : Type} (G : Gc) (EO : EOb) (m : List Addr) (H : Hp) (r : Res α) (Φ : α → TH → List Addr → Hp → Prop) : Prop := match r with
  | .ok t th => ∀ m' H', Ext m H m' H' → Rel G m' th H' → Φ t th m' H'
  | .exc c fs th => ∀ m' H', Ext m H m' H' → Rel G m' th H' → EO c fs m' th H'
  | .stuck => False
section
variable {α β : Type} {G : Gc} {EO : EOb} {m m1 : List Addr} {H H1 : Hp}
theorem Pn.bind {r : Res α} {f : α → TH → Res β} {Φ : β → TH → List Addr → Hp → Prop} (h : Pn G EO m H (r.bind f) Φ) : Pn G EO m H r fun t th m1 H1 => Pn G EO m1 H1 (f t th) Φ := by
  cases r with
  | ok t th =>
    intro m1 H1 x _
    have h : Pn G EO m H (f t th) Φ := h
    cases e : f t th with
    | ok u th2 => rw [e] at h; exact fun m2 H2 y R => h m2 H2 (x.trans y) R
    | exc c fs th2 => rw [e] at h; exact fun m2 H2 y R => h m2 H2 (x.trans y) R
    | stuck => rw [e] at h; exact h
  | exc c fs th => exact h
  | stuck => exact h
theorem Pn.imp {r : Res α} {Φ Ψ : α → TH → List Addr → Hp → Prop} (h : Pn G EO m H r Φ) (f : ∀ t th m' H', Ext m H m' H' → Rel G m' th H' → Φ t th m' H' → Ψ t th m' H') : Pn G EO m H r Ψ := by
  cases r with
  | ok t th => exact fun m' H' x R => f t th m' H' x R (h m' H' x R)
  | exc c fs th => exact h
  | stuck => exact h
theorem Pn.ext {r : Res α} {Φ : α → TH → List Addr → Hp → Prop} (h : Pn G EO m H r Φ) (x : Ext m H m1 H1) : Pn G EO m1 H1 r Φ := by
  cases r with
  | ok t th => exact fun m' H' y R => h m' H' (x.trans y) R
  | exc c fs th => exact fun m' H' y R => h m' H' (x.trans y) R
  | stuck => exact h
theorem Pn.done {t : α} {th : TH} {Φ : α → TH → List Addr → Hp → Prop} (h : Pn G EO m H (.ok t th) Φ) (R : Rel G m th H) : Φ t th m H := h m H (Ext.refl m H) R
end
/-- the reading of an expression by its denotation -/
def tD (G : Gc) (EO : EOb) (d : ME) : TE := fun σ H Q => ∃ m σt th, SR G.K m H σt σ ∧ Rel G m th H ∧ Pn G EO m H (d σt th) fun t _ m' H' => ∀ v, VR G.K m' H' t v → Q v H'
structure DE (X : Cx) (EO : EOb) (e : Expr) (d : ME) : Prop where
  pe : PE X e (tD (gc X) EO d)
/-- a test -/
abbrev MB := Sl → TH → Res Bool
def tDT (G : Gc) (EO : EOb) (d : MB) : TT := fun σ H Q => ∃ m σt th, SR G.K m H σt σ ∧ Rel G m th H ∧ Pn G EO m H (d σt th) fun b _ _ H' => Q b H'
structure DT (X : Cx) (EO : EOb) (e : Expr) (d : MB) : Prop where
  pt : PT X e (tDT (gc X) EO d)
/-- arguments -/
abbrev ML := Sl → TH → Res (List T)
def tDA (G : Gc) (EO : EOb) (d : ML) : TA := fun σ H Q => ∃ m σt th, SR G.K m H σt σ ∧ Rel G m th H ∧ Pn G EO m H (d σt th) fun ts _ m' H' => ∀ vs, VRs G.K m' H' ts vs → Q vs H'
structure DA (X : Cx) (EO : EOb) (es : List Expr) (d : ML) : Prop where
  pa : PA X es (tDA (gc X) EO d)
/-- statements -/
inductive SRes where
  | nx (σ : Sl) (h : TH) | rt (t : T) (h : TH) | bk (σ : Sl) (h : TH) | ct (σ : Sl) (h : TH) | exc (c : Str) (fs : List (Str × T)) (h : TH) | stuck
abbrev MS := Sl → TH → SRes
def PnS (G : Gc) (EO : EOb) (m : List Addr) (H : Hp) (r : SRes) (D : Ends) : Prop := match r with
  | .nx σt th => ∀ m' H' σ, Ext m H m' H' → Rel G m' th H' → SR G.K m' H' σt σ → D.nx σ H'
  | .rt t th => ∀ m' H' v, Ext m H m' H' → Rel G m' th H' → VR G.K m' H' t v → D.rt v H'
  | .bk σt th => ∀ m' H' σ, Ext m H m' H' → Rel G m' th H' → SR G.K m' H' σt σ → D.bk σ H'
  | .ct σt th => ∀ m' H' σ, Ext m H m' H' → Rel G m' th H' → SR G.K m' H' σt σ → D.ct σ H'
  | .exc c fs th => ∀ m' H', Ext m H m' H' → Rel G m' th H' → EO c fs m' th H'
  | .stuck => False
def tDS (G : Gc) (EO : EOb) (d : MS) : TS := fun D σ H => ∃ m σt th, SR G.K m H σt σ ∧ Rel G m th H ∧ PnS G EO m H (d σt th) D
structure DS (X : Cx) (EO : EOb) (s : Stmt) (d : MS) : Prop where
  ps : PS X s (tDS (gc X) EO d)
structure DSs (X : Cx) (EO : EOb) (s : List Stmt) (d : MS) : Prop where
  pss : PSs X s (tDS (gc X) EO d)
def SRes.of {α : Type} (r : Res α) (f : α → TH → SRes) : SRes := match r with
  | .ok a h => f a h
  | .exc c fs h => .exc c fs h
  | .stuck => .stuck
@[simp] theorem of_ok {α : Type} (a : α) (h : TH) (f : α → TH → SRes) : SRes.of (.ok a h) f = f a h := rfl
@[simp] theorem of_exc {α : Type} (c : Str) (fs : List (Str × T)) (h : TH) (f : α → TH → SRes) : SRes.of (.exc c fs h : Res α) f = .exc c fs h := rfl
@[simp] theorem of_stuck {α : Type} (f : α → TH → SRes) : SRes.of (.stuck : Res α) f = .stuck := rfl
def SRes.then (r : SRes) (f : Sl → TH → SRes) : SRes := match r with
  | .nx σ h => f σ h
  | r => r
section
variable {α : Type} {G : Gc} {EO : EOb} {m m1 : List Addr} {H H1 : Hp} {D : Ends}
theorem PnS.ext {r : SRes} (h : PnS G EO m H r D) (x : Ext m H m1 H1) : PnS G EO m1 H1 r D := by
  cases r with
  | nx => exact fun m' H' v y R q => h m' H' v (x.trans y) R q
  | rt => exact fun m' H' v y R q => h m' H' v (x.trans y) R q
  | bk => exact fun m' H' v y R q => h m' H' v (x.trans y) R q
  | ct => exact fun m' H' v y R q => h m' H' v (x.trans y) R q
  | exc => exact fun m' H' y R => h m' H' (x.trans y) R
  | stuck => exact h
theorem PnS.of {r : Res α} {f : α → TH → SRes} (h : PnS G EO m H (SRes.of r f) D) : Pn G EO m H r fun t th m1 H1 => PnS G EO m1 H1 (f t th) D := by
  cases r with
  | ok t th => exact fun m1 H1 x _ => PnS.ext (show PnS G EO m H (f t th) D from h) x
  | exc => exact h
  | stuck => exact h
theorem PnS.seq {r : SRes} {f : Sl → TH → SRes} (h : PnS G EO m H (r.then f) D) : PnS G EO m H r { D with nx := fun σ H1 => ∃ m1 σt th, SR G.K m1 H1 σt σ ∧ Rel G m1 th H1 ∧ PnS G EO m1 H1 (f σt th) D } := by
  cases r with
  | nx σt th => exact fun m1 H1 σ x R q => ⟨m1, σt, th, q, R, PnS.ext (show PnS G EO m H (f σt th) D from h) x⟩
  | rt => exact h
  | bk => exact h
  | ct => exact h
  | exc => exact h
  | stuck => exact h
end
end TL

/-! T-layer, part B: expressions by their denotations. -/
namespace TL
open PySem PySem.Spec PyProof.Rows L2

theorem _root_.L2.PE.of {X : Cx} {e : Expr} {t t' : TE} (h : PE X e t) (f : ∀ σ H Q, t' σ H Q → t σ H Q) : PE X e t' := ⟨fun pins s σ H Q I w => h.run pins s σ H Q I (f σ H Q w)⟩
theorem _root_.L2.PT.of {X : Cx} {e : Expr} {t t' : TT} (h : PT X e t) (f : ∀ σ H Q, t' σ H Q → t σ H Q) : PT X e t' := ⟨fun pins s σ H Q I w => h.run pins s σ H Q I (f σ H Q w)⟩
theorem _root_.L2.PW.of {X : Cx} {e : Expr} {t t' : TT} (h : PW X e t) (f : ∀ σ H Q, t' σ H Q → t σ H Q) : PW X e t' := ⟨fun wh pins s σ H Q I w => h.run wh pins s σ H Q I (f σ H Q w)⟩
theorem _root_.L2.PA.of {X : Cx} {e : List Expr} {t t' : TA} (h : PA X e t) (f : ∀ σ H Q, t' σ H Q → t σ H Q) : PA X e t' := ⟨fun p pins s σ H Q I w => h.run p pins s σ H Q I (f σ H Q w)⟩
theorem _root_.L2.PS.of {X : Cx} {e : Stmt} {t t' : TS} (h : PS X e t) (f : ∀ D σ H, t' D σ H → t D σ H) : PS X e t' := ⟨fun pins s σ H D I w => h.run pins s σ H D I (f D σ H w)⟩
theorem _root_.L2.PSs.of {X : Cx} {e : List Stmt} {t t' : TS} (h : PSs X e t) (f : ∀ D σ H, t' D σ H → t D σ H) : PSs X e t' := ⟨fun pins s σ H D I w => h.run pins s σ H D I (f D σ H w)⟩

section
variable {X : Cx} {EO : EOb} {pos : Pos}
/-! ### names, constants -/
def eVar (i : Nat) : ME := fun σ h => match σ[i]? with
  | some (some t) => .ok t h
  | _ => .stuck
theorem de_var {i : Nat} {x : Str} (hN : X.N[i]? = some x := by rfl) (hv : Vis X.env.scope x := by first | exact Or.inl rfl | exact Or.inr (Or.inl rfl) | exact Or.inr (Or.inr rfl)) (hd : (x == ("__debug__" : Str)) = false := by decide)
    (hcd : (x == ("__classdict__" : Str)) = false := by decide) : DE X EO (.Name x pos) (eVar i) := by
  refine ⟨(pe_var hN hv hd hcd).of fun σ H Q ⟨m, σt, th, sr, R, h⟩ => ?_⟩
  unfold eVar at h
  split at h
  · rename_i t e
    obtain ⟨v, e2, vr⟩ := sr.get e
    exact ⟨v, e2, h.done R v vr⟩
  · exact h.elim
def eC (t : T) : ME := fun _ h => .ok t h
theorem de_c {e : Expr} {v : V} {t : T} (h : PE X e (tC v)) (r : ∀ m H, VR X.K m H t v) : DE X EO e (eC t) :=
  ⟨h.of fun σ H Q ⟨m, σt, th, sr, R, h⟩ => h.done R v (r m H)⟩
theorem de_int {i : Int} {j : Nat} : DE X EO (.Constant (.int i) j pos) (eC (.int i)) := de_c pe_int fun _ _ => .int i
theorem de_bl {b : Bool} {j : Nat} : DE X EO (.Constant (.bool b) j pos) (eC (.bl b)) := de_c pe_bl fun _ _ => .bl b
theorem de_non {j : Nat} : DE X EO (.Constant .none j pos) (eC .non) := de_c pe_non fun _ _ => .non
theorem de_str {x : Str} {j : Nat} : DE X EO (.Constant (.str x) j pos) (eC (.str x)) := de_c pe_str fun _ _ => .str x
/-- a module's constant -/
def GlV (K : PySem.W.Frag) (mg : Str → Option Value) (x : Str) (t : T) : Prop := ∃ u v, mg x = some u ∧ RelV v u ∧ ∀ m H, VR K m H t v
theorem de_glob {x : Str} {t : T} (g : GlV X.K X.mg x t) (hg : Gl X x := by rfl) (hd : (x == ("__debug__" : Str)) = false := by decide) : DE X EO (.Name x pos) (eC t) := by
  obtain ⟨u, v, hm, r, vr⟩ := g
  exact de_c (pe_glob hg hm r hd) vr

/-! ### two-place operations -/
abbrev Op2 := T → T → TH → Res T
abbrev WT (G : Gc) (EO : EOb) (m : List Addr) (H : Hp) (r : Res T) (Q : VK) : Prop := Pn G EO m H r fun t _ m' H' => ∀ v, VR G.K m' H' t v → Q v H'
def rT (G : Gc) (EO : EOb) (f : Op2) : R2 := fun x y H Q => ∃ m th a b, Rel G m th H ∧ VR G.K m H a x ∧ VR G.K m H b y ∧ WT G EO m H (f a b th) Q
abbrev OpF (X : Cx) (EO : EOb) (F : Value → Value → Sem Value) (f : Op2) : Prop := OpR X F (rT (gc X) EO f)
def eBin (f : Op2) (a b : ME) : ME := fun σ h => (a σ h).bind fun x h1 => (b σ h1).bind fun y h2 => f x y h2
theorem tOp_of {G : Gc} {f : Op2} {da db : ME} (σ : L2.St) (H : Hp) (Q : VK) (w : tD G EO (eBin f da db) σ H Q) : tOp (rT G EO f) (tD G EO da) (tD G EO db) σ H Q := by
  obtain ⟨m, σt, th, sr, R, h⟩ := w
  refine ⟨m, σt, th, sr, R, h.bind.imp fun t th1 m1 H1 x R1 h1 v vr => ⟨m1, σt, th1, sr.mono x.pre x.kp, R1, h1.bind.imp fun t2 th2 m2 H2 x2 R2 h2 v2 vr2 => ⟨m2, th2, t, t2, R2, vr.mono x2.pre x2.kp, vr2, h2⟩⟩⟩
variable {a b c : Expr} {da db dc : ME} {f f' : Op2}
theorem de_bin {op : Operator} (ho : OpF X EO (binaryOp op) f) (ha : DE X EO a da) (hb : DE X EO b db) : DE X EO (.BinOp a op b pos) (eBin f da db) := ⟨(pe_op ho ha.pe hb.pe).of tOp_of⟩
theorem de_cmp {op : CmpOp} (ho : OpF X EO (compareOp op) f) (ha : DE X EO a da) (hb : DE X EO b db) (hm : behindInMarks op b = false := by first | exact nomark _ | with_unfolding_all rfl) : DE X EO (.Compare a [op] [b] pos) (eBin f da db) := ⟨(pe_cmpR ho ha.pe hb.pe hm).of tOp_of⟩
/-- a value that is a bool, as a test -/
def mB (a : ME) : MB := fun σ h => (a σ h).bind fun t h => match t with
  | .bl b => .ok b h
  | _ => .stuck
theorem tB_of {G : Gc} {d : ME} (σ : L2.St) (H : Hp) (Q : Bool → Hp → Prop) (w : tDT G EO (mB d) σ H Q) : tD G EO d σ H fun x H' => ∃ k, x = .bl k ∧ Q k H' := by
  obtain ⟨m, σt, th, sr, R, h⟩ := w
  refine ⟨m, σt, th, sr, R, h.bind.imp fun t th1 m1 H1 x R1 h1 v vr => ?_⟩
  cases vr with
  | bl b => exact ⟨b, rfl, h1.done R1⟩
  | _ => exact h1.elim
theorem dt_cmp {op : CmpOp} (ho : OpF X EO (compareOp op) f) (ha : DE X EO a da) (hb : DE X EO b db) (hm : behindInMarks op b = false := by first | exact nomark _ | with_unfolding_all rfl) : DT X EO (.Compare a [op] [b] pos) (mB (eBin f da db)) :=
  ⟨(pt_cmpR ho ha.pe hb.pe hm).of fun σ H Q w => tOp_of _ _ _ (tB_of σ H Q w)⟩
theorem dt_val {e : Expr} {d : ME} (h : DE X EO e d) (he : ∀ whole, isTrue e X.env whole = (do let v ← whole; standAt e.pos; holding [v] (truthy v)) := by intro _; rfl) : DT X EO e (mB d) :=
  ⟨(pt_val h.pe he).of fun σ H Q w => tB_of σ H Q w⟩
/-- a chain of two comparisons -/
def eChain (f f' : Op2) (a b c : ME) : ME := fun σ h => (a σ h).bind fun x h1 => (b σ h1).bind fun y h2 => (f x y h2).bind fun z h3 => match z with
  | .bl true => (c σ h3).bind fun w h4 => f' y w h4
  | .bl false => .ok (.bl false) h3
  | _ => .stuck
theorem tChain_of {G : Gc} (σ : L2.St) (H : Hp) (Q : VK) (w : tD G EO (eChain f f' da db dc) σ H Q) : tChain (rT G EO f) (rT G EO f') (tD G EO da) (tD G EO db) (tD G EO dc) σ H Q := by
  obtain ⟨m, σt, th, sr, R, h⟩ := w
  refine ⟨m, σt, th, sr, R, h.bind.imp fun t th1 m1 H1 x R1 h1 v vr => ⟨m1, σt, th1, sr.mono x.pre x.kp, R1, h1.bind.imp fun t2 th2 m2 H2 x2 R2 h2 v2 vr2 =>
    ⟨m2, th2, t, t2, R2, vr.mono x2.pre x2.kp, vr2, h2.bind.imp fun t3 th3 m3 H3 x3 R3 h3 v3 vr3 => ?_⟩⟩⟩
  cases vr3 with
  | bl k =>
    refine ⟨k, rfl, ?_⟩
    have x13 := x2.trans x3
    cases k with
    | true => exact iteT ⟨m3, σt, th3, (sr.mono x.pre x.kp).mono x13.pre x13.kp, R3, Pn.imp (Pn.bind h3) fun t4 th4 m4 H4 x4 R4 h4 v4 vr4 => ⟨m4, th4, t2, t4, R4, (vr2.mono x3.pre x3.kp).mono x4.pre x4.kp, vr4, h4⟩⟩
    | false => exact iteF (Pn.done h3 R3 _ (.bl false))
  | _ => exact h3.elim
theorem de_chain {op op' : CmpOp} (ho : OpF X EO (compareOp op) f) (ho' : OpF X EO (compareOp op') f') (ha : DE X EO a da) (hb : DE X EO b db) (hc : DE X EO c dc) (hm : lastMarks [op, op'] [b, c] = false := by with_unfolding_all rfl) :
    DE X EO (.Compare a [op, op'] [b, c] pos) (eChain f f' da db dc) := ⟨(pe_chain ho ho' ha.pe hb.pe hc.pe hm).of tChain_of⟩
theorem dt_chain {op op' : CmpOp} (ho : OpF X EO (compareOp op) f) (ho' : OpF X EO (compareOp op') f') (ha : DE X EO a da) (hb : DE X EO b db) (hc : DE X EO c dc) (hm : lastMarks [op, op'] [b, c] = false := by with_unfolding_all rfl) :
    DT X EO (.Compare a [op, op'] [b, c] pos) (mB (eChain f f' da db dc)) := ⟨(pt_chain ho ho' ha.pe hb.pe hc.pe hm).of fun σ H Q w => tChain_of _ _ _ (tB_of σ H Q w)⟩
def eUn (f : T → TH → Res T) (a : ME) : ME := fun σ h => (a σ h).bind f
def fNeg : T → TH → Res T := fun t h => match t with
  | .int i => .ok (.int (-i)) h
  | _ => .stuck
theorem de_neg (ha : DE X EO a da) : DE X EO (.UnaryOp .USub a pos) (eUn fNeg da) := by
  refine ⟨(pe_un un_neg ha.pe).of fun σ H Q ⟨m, σt, th, sr, R, h⟩ => ⟨m, σt, th, sr, R, h.bind.imp fun t th1 m1 H1 x R1 h1 v vr => ?_⟩⟩
  cases vr with
  | int i => exact ⟨i, rfl, Pn.done h1 R1 _ (.int _)⟩
  | _ => exact h1.elim

/-! ### tests -/
variable {rest : List Expr} {ta tb : MB}
structure DW (X : Cx) (EO : EOb) (e : Expr) (d : MB) : Prop where
  pw : PW X e (tDT (gc X) EO d)
theorem DW.dt {e : Expr} {d : MB} (h : DW X EO e d) : DT X EO e d := ⟨h.pw.pt⟩
def mAnd (a b : MB) : MB := fun σ h => (a σ h).bind fun c h1 => if c = true then b σ h1 else .ok false h1
def mOr (a b : MB) : MB := fun σ h => (a σ h).bind fun c h1 => if c = true then .ok true h1 else b σ h1
def mNot (a : MB) : MB := fun σ h => (a σ h).bind fun c h1 => .ok (!c) h1
theorem tAnd_of {G : Gc} (σ : L2.St) (H : Hp) (Q : Bool → Hp → Prop) (w : tDT G EO (mAnd ta tb) σ H Q) : tAnd (tDT G EO ta) (tDT G EO tb) σ H Q := by
  obtain ⟨m, σt, th, sr, R, h⟩ := w
  refine ⟨m, σt, th, sr, R, h.bind.imp fun c th1 m1 H1 x R1 h1 => ?_⟩
  cases c with
  | true => exact iteT ⟨m1, σt, th1, sr.mono x.pre x.kp, R1, h1⟩
  | false => exact iteF (Pn.done h1 R1)
theorem tOr_of {G : Gc} (σ : L2.St) (H : Hp) (Q : Bool → Hp → Prop) (w : tDT G EO (mOr ta tb) σ H Q) : tOr (tDT G EO ta) (tDT G EO tb) σ H Q := by
  obtain ⟨m, σt, th, sr, R, h⟩ := w
  refine ⟨m, σt, th, sr, R, h.bind.imp fun c th1 m1 H1 x R1 h1 => ?_⟩
  cases c with
  | true => exact iteT (Pn.done h1 R1)
  | false => exact iteF ⟨m1, σt, th1, sr.mono x.pre x.kp, R1, h1⟩
theorem dw_and1 (h : DT X EO a ta) : DW X EO (.BoolOp .And [a] pos) ta := ⟨pw_and1 h.pt⟩
theorem dw_or1 (h : DT X EO a ta) : DW X EO (.BoolOp .Or [a] pos) ta := ⟨pw_or1 h.pt⟩
theorem dw_and (h : DT X EO a ta) (h2 : DW X EO (.BoolOp .And (b :: rest) pos) tb) : DW X EO (.BoolOp .And (a :: b :: rest) pos) (mAnd ta tb) := ⟨(pw_and h.pt h2.pw).of tAnd_of⟩
theorem dw_or (h : DT X EO a ta) (h2 : DW X EO (.BoolOp .Or (b :: rest) pos) tb) : DW X EO (.BoolOp .Or (a :: b :: rest) pos) (mOr ta tb) := ⟨(pw_or h.pt h2.pw).of tOr_of⟩
theorem dt_not (h : DT X EO a ta) : DT X EO (.UnaryOp .Not a pos) (mNot ta) := by
  refine ⟨(pt_not h.pt).of fun σ H Q ⟨m, σt, th, sr, R, h⟩ => ⟨m, σt, th, sr, R, h.bind.imp fun c th1 m1 H1 x R1 h1 => ?_⟩⟩
  exact Pn.done h1 R1
/-- a test as a value: and, or, not where all parts are bools -/
def eB (t : MB) : ME := fun σ h => (t σ h).bind fun b h => .ok (.bl b) h
def eAnd (a b : ME) : ME := fun σ h => (mB a σ h).bind fun c h1 => if c = true then b σ h1 else .ok (.bl false) h1
def eOr (a b : ME) : ME := fun σ h => (mB a σ h).bind fun c h1 => if c = true then .ok (.bl true) h1 else b σ h1
def eNot (a : ME) : ME := fun σ h => (mB a σ h).bind fun c h1 => .ok (.bl (!c)) h1
theorem de_one {op : BoolOp} (h : DE X EO a da) : DE X EO (.BoolOp op [a] pos) da := ⟨pe_one h.pe⟩
theorem mB_bl {G : Gc} {m : List Addr} {H : Hp} {d : ME} {σt : Sl} {th : TH} {α : Type} {k : Bool → TH → Res α} {Φ : α → TH → List Addr → Hp → Prop} (h : Pn G EO m H ((mB d σt th).bind k) Φ) :
    Pn G EO m H (d σt th) fun t th1 m1 H1 => ∀ v, VR G.K m1 H1 t v → ∃ c, v = .bl c ∧ Pn G EO m1 H1 (k c th1) Φ := by
  have h2 : Pn G EO m H ((d σt th).bind fun t h1 => (match t with | .bl b => Res.ok b h1 | _ => Res.stuck).bind k) Φ := by
    unfold mB at h
    cases e : d σt th with
    | ok t th1 => rw [e] at h; exact h
    | exc c fs th1 => rw [e] at h; exact h
    | stuck => rw [e] at h; exact h
  refine h2.bind.imp fun t th1 m1 H1 x R1 h1 v vr => ?_
  cases vr with
  | bl b => exact ⟨b, rfl, h1⟩
  | _ => exact h1.elim
theorem de_and (ha : DE X EO a da) (hb : DE X EO (.BoolOp .And (b :: rest) pos) db) : DE X EO (.BoolOp .And (a :: b :: rest) pos) (eAnd da db) := by
  refine ⟨(pe_and ha.pe hb.pe).of fun σ H Q ⟨m, σt, th, sr, R, h⟩ => ⟨m, σt, th, sr, R, (mB_bl h).imp fun t th1 m1 H1 x R1 h1 v vr => ?_⟩⟩
  obtain ⟨c, e, h2⟩ := h1 v vr
  refine ⟨c, e, ?_⟩
  cases c with
  | true => exact iteT ⟨m1, σt, th1, sr.mono x.pre x.kp, R1, h2⟩
  | false => exact iteF (Pn.done h2 R1 _ (.bl false))
theorem de_or (ha : DE X EO a da) (hb : DE X EO (.BoolOp .Or (b :: rest) pos) db) : DE X EO (.BoolOp .Or (a :: b :: rest) pos) (eOr da db) := by
  refine ⟨(pe_or ha.pe hb.pe).of fun σ H Q ⟨m, σt, th, sr, R, h⟩ => ⟨m, σt, th, sr, R, (mB_bl h).imp fun t th1 m1 H1 x R1 h1 v vr => ?_⟩⟩
  obtain ⟨c, e, h2⟩ := h1 v vr
  refine ⟨c, e, ?_⟩
  cases c with
  | true => exact iteT (Pn.done h2 R1 _ (.bl true))
  | false => exact iteF ⟨m1, σt, th1, sr.mono x.pre x.kp, R1, h2⟩
theorem de_not (ha : DE X EO a da) : DE X EO (.UnaryOp .Not a pos) (eNot da) := by
  refine ⟨(pe_not ha.pe).of fun σ H Q ⟨m, σt, th, sr, R, h⟩ => ⟨m, σt, th, sr, R, (mB_bl h).imp fun t th1 m1 H1 x R1 h1 v vr => ?_⟩⟩
  obtain ⟨c, e, h2⟩ := h1 v vr
  exact ⟨c, e, Pn.done h2 R1 _ (.bl (!c))⟩
def eIf (t : MB) (a b : ME) : ME := fun σ h => (t σ h).bind fun c h1 => if c = true then a σ h1 else b σ h1
theorem de_if (hc : DT X EO c ta) (ha : DE X EO a da) (hb : DE X EO b db) : DE X EO (.IfExp c a b pos) (eIf ta da db) := by
  refine ⟨(pe_ifExp hc.pt ha.pe hb.pe).of fun σ H Q ⟨m, σt, th, sr, R, h⟩ => ⟨m, σt, th, sr, R, h.bind.imp fun c th1 m1 H1 x R1 h1 => ?_⟩⟩
  cases c with
  | true => exact iteT ⟨m1, σt, th1, sr.mono x.pre x.kp, R1, h1⟩
  | false => exact iteF ⟨m1, σt, th1, sr.mono x.pre x.kp, R1, h1⟩

/-! ### arguments, displays -/
def aNil : ML := fun _ h => .ok [] h
def aCons (a : ME) (r : ML) : ML := fun σ h => (a σ h).bind fun t h1 => (r σ h1).bind fun ts h2 => .ok (t :: ts) h2
variable {e : Expr} {es : List Expr} {de : ME} {dr : ML}
theorem da_nil : DA X EO [] aNil := ⟨pa_nil.of fun σ H Q ⟨m, σt, th, sr, R, h⟩ => h.done R [] .nil⟩
theorem da_cons (ha : DE X EO e de) (hr : DA X EO es dr) (hs : starEach (e :: es) X.env = (false, eval e X.env) :: starEach es X.env := by rfl) : DA X EO (e :: es) (aCons de dr) := by
  refine ⟨(pa_cons ha.pe hr.pa hs).of fun σ H Q ⟨m, σt, th, sr, R, h⟩ => ⟨m, σt, th, sr, R, h.bind.imp fun t th1 m1 H1 x R1 h1 v vr => ⟨m1, σt, th1, sr.mono x.pre x.kp, R1, h1.bind.imp fun ts th2 m2 H2 x2 R2 h2 vs vrs => ?_⟩⟩⟩
  exact Pn.done h2 R2 _ (.cons (vr.mono x2.pre x2.kp) vrs)
def eTup (as : ML) : ME := fun σ h => (as σ h).bind fun ts h1 => if ts.length ≤ sizeLine then .ok (.tup ts) h1 else .stuck
def eLst (as : ML) : ME := fun σ h => (as σ h).bind fun ts h1 => if ts.length ≤ sizeLine then .ok (.ref h1.length) (h1 ++ [.lst ts]) else .stuck
abbrev obT (its : List Value) : Obj := { cls := .type "tuple", data := .seq its.toArray }
/-- a new tuple, its object known -/
theorem tup_laid {pins : List (Addr × Obj)} {σ : L2.St} {H : Hp} {s : Shared} {h' : Heap} {t' : Nat} {xs : List V} {its : List Value} (I : Inv X pins σ H { s with heap := h' }) (z : xs.length ≤ sizeLine) (r : Vals xs its) :
    Inv X pins σ (upd H h'.objs.size (.frz (obT its) (.tup xs))) { s with heap := h'.push (obT its), toks := t' } ∧ H h'.objs.size = none := by
  have hf : H h'.objs.size = none := I.hok.fresh (Nat.le_refl _)
  refine ⟨I.laid (a := h'.objs.size) (t' := t') (fun b u e => Heap.get?_push_of_some _ e) (Nat.le_refl _) ⟨Heap.get?_push_size _ rfl, z, its, r, ⟨_, Heap.get?_push_size _ rfl, rfl, _, rfl⟩⟩, hf⟩
theorem tup_new {G : Gc} {m : List Addr} {H : Hp} {th : TH} {p : Addr} {o : Obj} {xs : List V} {ts : List T} {Φ : T → TH → List Addr → Hp → Prop} (R : Rel G m th H) (hp : H p = none) (hd : o.dict = none) (vr : VRs G.K m H ts xs)
    (h : Pn G EO m H (.ok (.tup ts) th) Φ) : Φ (.tup ts) th m (upd H p (.frz o (.tup xs))) ∧ VR G.K m (upd H p (.frz o (.tup xs))) (.tup ts) (.ref p) := by
  obtain ⟨R2, x⟩ := R.aside hp (.frz o (.tup xs))
  exact ⟨h m _ x R2, .tup (.inl ⟨o, upd_same, hd⟩) (vr.mono x.pre x.kp)⟩
theorem lst_new {G : Gc} {m : List Addr} {H : Hp} {th : TH} {p : Addr} {xs : List V} {ts : List T} {Φ : T → TH → List Addr → Hp → Prop} (R : Rel G m th H) (hp : H p = none) (vr : VRs G.K m H ts xs)
    (h : Pn G EO m H (.ok (.ref th.length) (th ++ [.lst ts])) Φ) : Φ (.ref th.length) (th ++ [.lst ts]) (m ++ [p]) (upd H p (.lst xs)) ∧ VR G.K (m ++ [p]) (upd H p (.lst xs)) (.ref th.length) (.ref p) := by
  have k := keep_new hp (.lst xs)
  obtain ⟨R2, x⟩ := R.push hp (.lst xs) (.lst ts) ⟨xs, upd_same, vr.mono (List.prefix_append _ _) k⟩
  exact ⟨h _ _ x R2, .ref (by rw [← R.len]; exact push_at)⟩
theorem de_tup {k : Nat} (h : DA X EO es dr) : DE X EO (.Tuple es k pos) (eTup dr) := by
  refine ⟨⟨fun pins s σ H Q I ⟨m, σt, th, sr, R, hq⟩ => ?_⟩⟩
  refine wpAny_Tuple_spliced (thn (h.pa.run pos pins s σ H (fun xs H1 => ∃ m1 th1 ts, Rel (gc X) m1 th1 H1 ∧ VRs X.K m1 H1 ts xs ∧ WT (gc X) EO m1 H1 (if ts.length ≤ sizeLine then .ok (.tup ts) th1 else .stuck) Q) I
    ⟨m, σt, th, sr, R, hq.bind.imp fun ts th1 m1 H1 x R1 h1 vs vrs => ⟨m1, th1, ts, R1, vrs, h1⟩⟩) fun us s1 ⟨xs, H1, I1, r, m1, th1, ts, R1, vrs, w⟩ => ?_)
  have hl := vrs.length
  have hr := r.length
  split at w
  · rename_i hz
    obtain ⟨I2, hp⟩ := tup_laid (X := X) (t' := s1.toks) (h' := s1.heap) (s := s1) I1 (by omega) r
    obtain ⟨w1, w2⟩ := tup_new (o := obT us) R1 hp rfl vrs w
    exact ⟨by omega, .ref s1.heap.objs.size, _, I2, rfl, w1 _ w2⟩
  · exact w.elim
theorem de_lst (h : DA X EO es dr) : DE X EO (.List es pos) (eLst dr) := by
  refine ⟨(pe_lst h.pa).of fun σ H Q ⟨m, σt, th, sr, R, h⟩ => ⟨m, σt, th, sr, R, h.bind.imp fun ts th1 m1 H1 x R1 h1 vs vrs => ?_⟩⟩
  have hl := vrs.length
  split at h1
  · rename_i hz
    refine ⟨by omega, fun p hp => ?_⟩
    obtain ⟨w1, w2⟩ := lst_new R1 hp vrs h1
    exact w1 _ w2
  · exact h1.elim

/-! ### calls of built-ins by values -/
abbrev Fn := List T → TH → Res T
def rTL (G : Gc) (EO : EOb) (g : Fn) : List V → Hp → VK → Prop := fun xs H Q => ∃ m th ts, Rel G m th H ∧ VRs G.K m H ts xs ∧ WT G EO m H (g ts th) Q
abbrev CallF (X : Cx) (EO : EOb) (F : Value) (g : Fn) : Prop := CallR X F (rTL (gc X) EO g)
def eCall (g : Fn) (as : ML) : ME := fun σ h => (as σ h).bind g
theorem tCB_of {G : Gc} {g : Fn} (σ : L2.St) (H : Hp) (Q : VK) (w : tD G EO (eCall g dr) σ H Q) : tCB (rTL G EO g) (tDA G EO dr) σ H Q := by
  obtain ⟨m, σt, th, sr, R, h⟩ := w
  exact ⟨m, σt, th, sr, R, h.bind.imp fun ts th1 m1 H1 x R1 h1 vs vrs => ⟨m1, th1, ts, R1, vrs, h1⟩⟩
variable {x : Str} {p : Pos} {id : String} {g : Fn}
theorem de_callB (hc : CallF X EO (.builtin id) g) (hm : X.mg x = none) (hv : bootBuiltins x = some (.builtin id)) (ha : DA X EO (e :: es) dr) (hg : Gl X x := by rfl) (hn : x ≠ "__name__" := by decide) (hdb : (x == ("__debug__" : Str)) = false := by decide)
    (he : starEach (e :: es) X.env = (false, eval e X.env) :: starEach es X.env := by rfl) (hpl : (backTo pos (starEach es X.env)).any (·.1) = false := by rfl) : DE X EO (.Call (.Name x p) (e :: es) [] pos) (eCall g dr) :=
  ⟨(pe_callB hc hg hm hv ha.pa hn hdb he hpl).of tCB_of⟩
theorem de_callTy (hc : CallF X EO (.type id) g) (hm : X.mg x = none) (hv : bootBuiltins x = some (.type id)) (ha : DA X EO (e :: es) dr) (hg : Gl X x := by rfl) (hn : x ≠ "__name__" := by decide) (hdb : (x == ("__debug__" : Str)) = false := by decide)
    (he : starEach (e :: es) X.env = (false, eval e X.env) :: starEach es X.env := by rfl) (hpl : (backTo pos (starEach es X.env)).any (·.1) = false := by rfl) : DE X EO (.Call (.Name x p) (e :: es) [] pos) (eCall g dr) :=
  ⟨(pe_callTy hc hg hm hv ha.pa hn hdb he hpl).of tCB_of⟩

/-! ### defs of one's own -/
def spT (G : Gc) (n : Nat) (F : Fn) : Sp := fun vs H Q _ => ∃ m ts th, VRs G.K m H ts vs ∧ ts.length = n ∧ Rel G m th H ∧ WT G EO0 m H (F ts th) Q
def GoodFn (P : Program) (w : World) (K : PySem.W.Frag) (mg : Str → Option Value) (base : Heap) (k : Nat) (x : Str) (ps : List Str) (F : Fn) : Prop :=
  ∃ f fd, mg x = some (.ref f) ∧ PySem.W.keepIn K (.ref f) = true ∧ Binds K fd ps [] ∧ FnOk P w K mg base CX0 k f fd ps (spT ⟨P, w, K, mg⟩ ps.length F)
theorem GoodFn.mono {P : Program} {w : World} {K : PySem.W.Frag} {mg : Str → Option Value} {base : Heap} {j k : Nat} {x : Str} {ps : List Str} {F : Fn} (h : GoodFn P w K mg base j x ps F) (l : j ≤ k) : GoodFn P w K mg base k x ps F :=
  let ⟨f, fd, h1, h2, h3, h4⟩ := h; ⟨f, fd, h1, h2, h3, h4.mono l⟩
variable {k : Nat} {ps : List Str}
/-- f(..): as many arguments as parameters -/
def eCallF (n : Nat) (F : Fn) (as : ML) : ME := fun σ h => (as σ h).bind fun ts h1 => if ts.length = n then F ts h1 else .stuck
theorem de_call {n : Nat} (F : GoodFn X.prog X.w X.K X.mg X.base k x ps g) (hr : Room k X.A) (ha : DA X EO0 (e :: es) dr) (hn : ps.length = n := by rfl) (hg : Gl X x := by rfl) (hdb : (x == ("__debug__" : Str)) = false := by decide) (he : starEach (e :: es) X.env = (false, eval e X.env) :: starEach es X.env := by rfl)
    (hpl : (backTo pos (starEach es X.env)).any (·.1) = false := by rfl) : DE X EO0 (.Call (.Name x p) (e :: es) [] pos) (eCallF n g dr) := by
  subst hn
  obtain ⟨f, fd, hm, hk, hb, F⟩ := F
  refine ⟨(pe_call (dvs := []) F hr hg hm hk hb .nil pass0 ha.pa hdb he hpl).of fun σ H Q ⟨m, σt, th, sr, R, h⟩ => ⟨m, σt, th, sr, R, h.bind.imp fun ts th1 m1 H1 x R1 h1 vs vrs => ?_⟩⟩
  show spT _ _ _ (vs ++ []) _ _ _
  rw [List.append_nil]
  split at h1
  · rename_i hl
    exact ⟨m1, ts, th1, vrs, hl, R1, h1⟩
  · exact h1.elim
theorem de_call0 (F : GoodFn X.prog X.w X.K X.mg X.base k x [] g) (hr : Room k X.A) (hg : Gl X x := by rfl) (hdb : (x == ("__debug__" : Str)) = false := by decide) : DE X EO0 (.Call (.Name x p) [] [] pos) (eCallF 0 g aNil) := by
  obtain ⟨f, fd, hm, hk, hb, F⟩ := F
  refine ⟨(pe_call0 (dvs := []) F hr hg hm hk hb .nil pass0 hdb).of fun σ H Q ⟨m, σt, th, sr, R, h⟩ => ?_⟩
  exact ⟨m, [], th, .nil, rfl, R, h⟩
end
end TL

/-! T-layer, part C: operators and built-in functions. -/
namespace TL
open PySem PySem.Spec PyProof.Rows L2

/-! ### what a value reads as -/
instance (d : PyData) : Decidable (d = .none) := match d with
  | .none => isTrue rfl
  | .bool _ => isFalse (fun z => nomatch z)
  | .int _ => isFalse (fun z => nomatch z)
  | .str _ => isFalse (fun z => nomatch z)
  | .list _ => isFalse (fun z => nomatch z)
  | .tuple _ => isFalse (fun z => nomatch z)
  | .dict _ => isFalse (fun z => nomatch z)

def dat : Nat → TH → T → Option PyData
  | 0, _, _ => none
  | n + 1, h, t => match t with
    | .non => some .none
    | .bl b => some (.bool b)
    | .int i => some (.int i)
    | .str x => some (.str x)
    | .tup ts => (ts.mapM (dat n h)).map .tuple
    | .ref k => match h[k]? with
      | some (.lst ts) => (ts.mapM (dat n h)).map .list
      | _ => none
    | .scr ns => some (.list (ns.map .int))
theorem dp_ints {K : PySem.W.Frag} {H : Hp} : ∀ ns : List Int, DpAll K H (ns.map V.int) (ns.map PyData.int)
  | [] => .nil
  | n :: ns => .cons (.int n) (dp_ints ns)
theorem mapM_some {α β : Type} {f : α → Option β} : ∀ {l : List α} {r : List β}, l.mapM f = some r → l.length = r.length ∧ ∀ (i : Nat) (a : α), l[i]? = some a → ∃ b, r[i]? = some b ∧ f a = some b
  | [], r, h => by
    have : r = [] := by simpa using h.symm
    subst this; simp
  | a :: l, r, h => by
    rw [List.mapM_cons] at h
    cases e : f a with
    | none => rw [e] at h; simp at h
    | some b =>
      rw [e] at h
      cases e2 : l.mapM f with
      | none => rw [e2] at h; simp at h
      | some bs =>
        rw [e2] at h
        have hr : r = b :: bs := by simpa using h.symm
        subst hr
        obtain ⟨h1, h2⟩ := mapM_some e2
        refine ⟨by simp [h1], fun i x hx => ?_⟩
        cases i with
        | zero => exact ⟨b, rfl, by simp at hx; subst hx; exact e⟩
        | succ i => exact h2 i x (by simpa using hx)
section
variable {G : Gc} {m : List Addr} {th : TH} {H : Hp}
theorem dp_all {n : Nat} (ih : ∀ (t : T) (v : V) (d : PyData), VR G.K m H t v → dat n th t = some d → Dp G.K H v d) : ∀ {ts : List T} {vs : List V} {ds : List PyData}, VRs G.K m H ts vs → ts.mapM (dat n th) = some ds → DpAll G.K H vs ds
  | _, _, ds, .nil, e => by
    have : ds = [] := by simpa using e.symm
    subst this; exact .nil
  | t :: ts, _, ds, .cons a b, e => by
    rw [List.mapM_cons] at e
    cases e1 : dat n th t with
    | none => rw [e1] at e; simp at e
    | some d =>
      rw [e1] at e
      cases e2 : ts.mapM (dat n th) with
      | none => rw [e2] at e; simp at e
      | some bs =>
        rw [e2] at e
        have hr : ds = d :: bs := by simpa using e.symm
        subst hr
        exact .cons (ih _ _ _ a e1) (dp_all ih b e2)
theorem dat_dp (R : Rel G m th H) : ∀ (n : Nat) (t : T) (v : V) (d : PyData), VR G.K m H t v → dat n th t = some d → Dp G.K H v d
  | 0, _, _, _, _, e => by simp [dat] at e
  | n + 1, t, v, d, r, e => by
    cases r with
    | non => simp [dat] at e; subst e; exact .non
    | bl b => simp [dat] at e; subst e; exact .bl b
    | int i => simp [dat] at e; subst e; exact .int i
    | str x => simp [dat] at e; subst e; exact .str x
    | @tup ts a xs h1 h2 =>
      simp only [dat] at e
      obtain ⟨ds, e1, e2⟩ := Option.map_eq_some_iff.mp e
      subst e2
      exact .tup h1.t (dp_all (dat_dp R n) h2 e1)
    | @ref k a h1 =>
      simp only [dat] at e
      split at e
      · rename_i ts hk
        obtain ⟨ds, e1, e2⟩ := Option.map_eq_some_iff.mp e
        subst e2
        obtain ⟨xs, h2, h3⟩ := R.at_ k a _ h1 hk
        exact .lst (.of h2) (dp_all (dat_dp R n) h3 e1)
      · cases e
    | @scr ns a h1 =>
      simp [dat] at e; subst e
      exact .lst h1.l (dp_ints ns)
end
theorem reads_dat {X : Cx} {m : List Addr} {th : TH} {H : Hp} {pins : List (Addr × Obj)} {σ : L2.St} {s : Shared} {t : T} {v : V} {u : Value} {d : PyData} {n : Nat} (I : Inv X pins σ H s) (R : Rel (gc X) m th H) (r : VR X.K m H t v) (ru : RelV v u) (e : dat n th t = some d) :
    ∃ as, Reads s.heap u d as := Dp.reads I d v u (dat_dp (G := gc X) R n t v d r e) ru

section
variable {X : Cx} {EO : EOb}
/-- what is handed back as a bool, an int .. -/
theorem fin_t {pins : List (Addr × Obj)} {σ : L2.St} {H : Hp} {s : Shared} {Q : VK} {m : List Addr} {th : TH} {t : T} {v : V} {u : Value} (I : Inv X pins σ H s) (R : Rel (gc X) m th H) (w : WT (gc X) EO m H (.ok t th) Q) (r : VR X.K m H t v) (ru : RelV v u) : EP X pins σ Q u s :=
  ⟨v, H, I, ru, Pn.done w R v r⟩

/-! ### arithmetic -/
def fAdd : Op2 := fun x y h => match x, y with
  | .int i, .int j => .ok (.int (i + j)) h
  | .str a, .str b => if a.length + b.length ≤ sizeLine then .ok (.str (a ++ b)) h else .stuck
  | .tup a, .tup b => if a.length + b.length ≤ sizeLine then .ok (.tup (a ++ b)) h else .stuck
  | .ref p, .ref q => match h[p]?, h[q]? with
    | some (.lst a), some (.lst b) => if a.length + b.length ≤ sizeLine then .ok (.ref h.length) (h ++ [.lst (a ++ b)]) else .stuck
    | _, _ => .stuck
  | _, _ => .stuck
theorem of_add : OpF X EO (binaryOp .Add) fAdd := by
  intro pins s σ H x y v u Q I rx ry ⟨m, th, a, b, R, ra, rb, w⟩
  unfold fAdd at w
  split at w
  · cases ra; cases rb
    exact op_add pins s σ H _ _ v u Q I rx ry ⟨_, _, rfl, rfl, Pn.done w R _ (.int _)⟩
  · cases ra; cases rb
    split at w
    · rename_i hz
      exact op_add_str pins s σ H _ _ v u Q I rx ry ⟨_, _, rfl, rfl, hz, Pn.done w R _ (.str _)⟩
    · exact w.elim
  · rename_i ts us
    cases ra with
    | @tup _ p xs h1 h2 =>
    cases rb with
    | @tup _ q ys h3 h4 =>
    split at w
    · rename_i hz
      have l1 := h2.length
      have l2 := h4.length
      by_cases hx : xs = []
      · subst hx
        have et : ts = [] := List.eq_nil_of_length_eq_zero (by simpa using l1)
        subst et
        refine op_catA pins s σ H _ _ v u Q I rx ry ⟨p, q, [], ys, rfl, rfl, h1.t, h3.t, by simp; omega, fun _ => Pn.done w R _ (.tup h3 h4), fun z => absurd rfl z, fun z => absurd rfl z⟩
      · by_cases hy : ys = []
        · subst hy
          have et : us = [] := List.eq_nil_of_length_eq_zero (by simpa using l2)
          subst et
          refine op_catA pins s σ H _ _ v u Q I rx ry ⟨p, q, xs, [], rfl, rfl, h1.t, h3.t, by simp; omega, fun z => absurd z hx, fun _ _ => Pn.done w R _ (.tup h1 (by rw [List.append_nil]; exact h2)), fun _ z => absurd rfl z⟩
        · cases rx
          cases ry
          obtain ⟨its, r1, p1, _⟩ := I.tuple h1.t
          obtain ⟨its2, r2, p2, _⟩ := I.tuple h3.t
          refine HT.cat_tup p1 p2 (fun z => hx (r1.nil_iff.mp z)) (fun z => absurd (r2.nil_iff.mp z) hy) (fun z => ?_) (by rw [← r1.length, ← r2.length]; omega)
          obtain ⟨I2, hp⟩ := tup_laid (X := X) (t' := s.toks) (h' := s.heap) (s := s) (xs := xs ++ ys) I (by simp; omega) (r1.append r2)
          obtain ⟨w1, w2⟩ := tup_new (o := obT (its ++ its2)) R hp rfl (h2.append h4) w
          exact ⟨.ref s.heap.objs.size, _, I2, rfl, w1 _ w2⟩
    · exact w.elim
  · rename_i i j
    split at w
    · rename_i as bs e1 e2
      cases ra with
      | @ref _ p h1 =>
      cases rb with
      | @ref _ q h2 =>
      obtain ⟨xs, hx, rx'⟩ := R.at_ _ _ _ h1 e1
      obtain ⟨ys, hy, ry'⟩ := R.at_ _ _ _ h2 e2
      have l1 := rx'.length
      have l2 := ry'.length
      split at w
      · rename_i hz
        refine op_cat pins s σ H _ _ v u Q I rx ry ⟨p, q, xs, ys, rfl, rfl, hx, hy, by omega, fun a ha => ?_⟩
        obtain ⟨w1, w2⟩ := lst_new R ha (rx'.append ry') w
        exact w1 _ w2
      · exact w.elim
    · exact w.elim
  · exact w.elim
def fSub : Op2 := fun x y h => match x, y with
  | .int i, .int j => .ok (.int (i - j)) h
  | _, _ => .stuck
def fMul : Op2 := fun x y h => match x, y with
  | .int i, .int j => if (-(2 ^ 64) < i ∧ i < 2 ^ 64) ∨ (-(2 ^ 64) < j ∧ j < 2 ^ 64) then .ok (.int (i * j)) h else .stuck
  | _, _ => .stuck
def fDiv : Op2 := fun x y h => match x, y with
  | .int i, .int j => if 0 < j ∧ j < 1073741824 then .ok (.int (i / j)) h else .stuck
  | _, _ => .stuck
def fMod : Op2 := fun x y h => match x, y with
  | .int i, .int j => if 0 < j then .ok (.int (i % j)) h else .stuck
  | _, _ => .stuck
def fPow : Op2 := fun x y h => match x, y with
  | .int i, .int j => if 0 ≤ j ∧ j ≤ 1000000 ∧ i.natAbs < 2 ^ 64 then .ok (.int (i ^ j.toNat)) h else .stuck
  | _, _ => .stuck
theorem of_int {F : Value → Value → Sem Value} {f : Op2} {C : Int → Int → Prop} {g : Int → Int → Int} (ho : OpR X F (rI C fun i j => .int (g i j)))
    (hf : ∀ a b h r, f a b h = r → r = .stuck ∨ ∃ i j, a = .int i ∧ b = .int j ∧ C i j ∧ r = .ok (.int (g i j)) h) : OpF X EO F f := by
  intro pins s σ H x y v u Q I rx ry ⟨m, th, a, b, R, ra, rb, w⟩
  rcases hf a b th _ rfl with e | ⟨i, j, rfl, rfl, hc, e⟩
  · rw [e] at w; exact w.elim
  · rw [e] at w
    cases ra; cases rb
    exact ho pins s σ H _ _ v u Q I rx ry ⟨i, j, rfl, rfl, hc, Pn.done w R _ (.int _)⟩
theorem OpR.noC {F : Value → Value → Sem Value} {g : Int → Int → V} (ho : OpR X F (rI0 g)) : OpR X F (rI (fun _ _ => True) g) := fun pins s σ H x y v u Q I rx ry ⟨i, j, h1, h2, _, q⟩ => ho pins s σ H x y v u Q I rx ry ⟨i, j, h1, h2, q⟩
theorem of_sub : OpF X EO (binaryOp .Sub) fSub := of_int (OpR.noC op_sub) fun a b h r e => by
  subst e; unfold fSub; split
  · exact .inr ⟨_, _, rfl, rfl, trivial, rfl⟩
  · exact .inl rfl
theorem of_mul : OpF X EO (binaryOp .Mult) fMul := of_int op_mul fun a b h r e => by
  subst e; unfold fMul; split
  · split
    · rename_i hc; exact .inr ⟨_, _, rfl, rfl, hc, rfl⟩
    · exact .inl rfl
  · exact .inl rfl
theorem of_div : OpF X EO (binaryOp .FloorDiv) fDiv := of_int op_fdiv fun a b h r e => by
  subst e; unfold fDiv; split
  · split
    · rename_i hc; exact .inr ⟨_, _, rfl, rfl, hc, rfl⟩
    · exact .inl rfl
  · exact .inl rfl
theorem of_mod : OpF X EO (binaryOp .Mod) fMod := of_int op_mod fun a b h r e => by
  subst e; unfold fMod; split
  · split
    · rename_i hc; exact .inr ⟨_, _, rfl, rfl, hc, rfl⟩
    · exact .inl rfl
  · exact .inl rfl
theorem of_pow : OpF X EO (binaryOp .Pow) fPow := of_int op_pow fun a b h r e => by
  subst e; unfold fPow; split
  · split
    · rename_i hc; exact .inr ⟨_, _, rfl, rfl, hc, rfl⟩
    · exact .inl rfl
  · exact .inl rfl

/-! ### comparisons -/
def fEqB (x y : T) (h : TH) : Res Bool := match x, y with
  | .int i, .int j => .ok (decide (i = j)) h
  | .str a, .str b => .ok (decide (a = b)) h
  | _, _ => match dat 66 h x, dat 66 h y with
    | some d, some e => if SeqAt.shaped d = true ∧ SeqAt.shaped e = true then .ok (PyData.eqv d e) h else .stuck
    | _, _ => .stuck
def fEq : Op2 := fun x y h => (fEqB x y h).bind fun b h => .ok (.bl b) h
def fNe : Op2 := fun x y h => (fEqB x y h).bind fun b h => .ok (.bl (!b)) h
theorem of_eq (hu : X.A.units + 64 < cLine) : OpF X EO (compareOp .Eq) fEq := by
  intro pins s σ H x y v u Q I rx ry ⟨m, th, a, b, R, ra, rb, w⟩
  unfold fEq fEqB at w
  split at w
  · cases ra; cases rb
    exact op_eq pins s σ H _ _ v u Q I rx ry ⟨rfl, by
      have q := Pn.done w R _ (.bl _)
      have e : decide (V.int ‹Int› = V.int ‹Int›) = _ := dec_int
      simpa [dec_int, Bool.beq_eq_decide_eq] using q⟩
  · cases ra; cases rb
    exact op_eq pins s σ H _ _ v u Q I rx ry ⟨rfl, by
      have q := Pn.done w R _ (.bl _)
      simpa [dec_str, Bool.beq_eq_decide_eq] using q⟩
  · split at w
    · rename_i d e hd he
      split at w
      · rename_i hs
        exact op_eqD hu pins s σ H _ _ v u Q I rx ry ⟨d, e, dat_dp (G := gc X) R _ _ _ _ ra hd, dat_dp (G := gc X) R _ _ _ _ rb he, hs.1, hs.2, Pn.done w R _ (.bl _)⟩
      · exact w.elim
    · exact w.elim
theorem of_ne (hu : X.A.units + 64 < cLine) : OpF X EO (compareOp .NotEq) fNe := by
  intro pins s σ H x y v u Q I rx ry ⟨m, th, a, b, R, ra, rb, w⟩
  unfold fNe fEqB at w
  split at w
  · cases ra; cases rb
    exact op_ne pins s σ H _ _ v u Q I rx ry ⟨rfl, by
      have q := Pn.done w R _ (.bl _)
      simpa [dec_int, Bool.beq_eq_decide_eq] using q⟩
  · cases ra; cases rb
    exact op_ne pins s σ H _ _ v u Q I rx ry ⟨rfl, by
      have q := Pn.done w R _ (.bl _)
      simpa [dec_str, Bool.beq_eq_decide_eq] using q⟩
  · split at w
    · rename_i d e hd he
      split at w
      · rename_i hs
        exact op_neD hu pins s σ H _ _ v u Q I rx ry ⟨d, e, dat_dp (G := gc X) R _ _ _ _ ra hd, dat_dp (G := gc X) R _ _ _ _ rb he, hs.1, hs.2, Pn.done w R _ (.bl _)⟩
      · exact w.elim
    · exact w.elim
def fLtB (x y : T) (h : TH) : Res Bool := match x, y with
  | .int i, .int j => .ok (decide (i < j)) h
  | .str a, .str b => .ok (decide (a.cps.toList < b.cps.toList)) h
  | _, _ => match dat 66 h x, dat 66 h y with
    | some d, some e => if PySem.W.alike d e = true ∧ d ≠ .none ∧ d.depth ≤ 63 then .ok (PySem.W.dataLt d e) h else .stuck
    | _, _ => .stuck
def fLt : Op2 := fun x y h => (fLtB x y h).bind fun b h => .ok (.bl b) h
theorem of_lt (hu : X.A.units + 64 < cLine) : OpF X EO (compareOp .Lt) fLt := by
  intro pins s σ H x y v u Q I rx ry ⟨m, th, a, b, R, ra, rb, w⟩
  unfold fLt fLtB at w
  split at w
  · cases ra; cases rb
    exact op_lt pins s σ H _ _ v u Q I rx ry ⟨_, _, rfl, rfl, Pn.done w R _ (.bl _)⟩
  · cases ra; cases rb
    exact op_lt_str pins s σ H _ _ v u Q I rx ry ⟨_, _, rfl, rfl, Pn.done w R _ (.bl _)⟩
  · split at w
    · rename_i d e hd he
      split at w
      · rename_i hs
        obtain ⟨as, r1⟩ := reads_dat I R ra rx hd
        obtain ⟨bs, r2⟩ := reads_dat I R rb ry he
        exact PySem.W.rcLt_alike d e X.A s v u as bs r1 r2 hs.1 hs.2.1 (by have := hs.2.2; omega) _ _ _ _ (fin_t I R w (.bl _) rfl)
      · exact w.elim
    · exact w.elim
def fLe : Op2 := fun x y h => match x, y with
  | .int i, .int j => .ok (.bl (decide (i ≤ j))) h
  | .str a, .str b => .ok (.bl (!decide (b.cps.toList < a.cps.toList))) h
  | _, _ => .stuck
def fGt : Op2 := fun x y h => match x, y with
  | .int i, .int j => .ok (.bl (decide (j < i))) h
  | .str a, .str b => .ok (.bl (decide (b.cps.toList < a.cps.toList))) h
  | _, _ => .stuck
def fGe : Op2 := fun x y h => match x, y with
  | .int i, .int j => .ok (.bl (decide (j ≤ i))) h
  | .str a, .str b => .ok (.bl (!decide (a.cps.toList < b.cps.toList))) h
  | _, _ => .stuck
theorem of_le : OpF X EO (compareOp .LtE) fLe := by
  intro pins s σ H x y v u Q I rx ry ⟨m, th, a, b, R, ra, rb, w⟩
  unfold fLe at w
  split at w
  · cases ra; cases rb
    exact op_le pins s σ H _ _ v u Q I rx ry ⟨_, _, rfl, rfl, Pn.done w R _ (.bl _)⟩
  · cases ra; cases rb
    exact op_le_str pins s σ H _ _ v u Q I rx ry ⟨_, _, rfl, rfl, Pn.done w R _ (.bl _)⟩
  · exact w.elim
theorem of_gt : OpF X EO (compareOp .Gt) fGt := by
  intro pins s σ H x y v u Q I rx ry ⟨m, th, a, b, R, ra, rb, w⟩
  unfold fGt at w
  split at w
  · cases ra; cases rb
    exact op_gt pins s σ H _ _ v u Q I rx ry ⟨_, _, rfl, rfl, Pn.done w R _ (.bl _)⟩
  · cases ra; cases rb
    exact op_gt_str pins s σ H _ _ v u Q I rx ry ⟨_, _, rfl, rfl, Pn.done w R _ (.bl _)⟩
  · exact w.elim
theorem of_ge : OpF X EO (compareOp .GtE) fGe := by
  intro pins s σ H x y v u Q I rx ry ⟨m, th, a, b, R, ra, rb, w⟩
  unfold fGe at w
  split at w
  · cases ra; cases rb
    exact op_ge pins s σ H _ _ v u Q I rx ry ⟨_, _, rfl, rfl, Pn.done w R _ (.bl _)⟩
  · cases ra; cases rb
    exact op_ge_str pins s σ H _ _ v u Q I rx ry ⟨_, _, rfl, rfl, Pn.done w R _ (.bl _)⟩
  · exact w.elim

/-! ### is None, is True, is False -/
def isN : T → Bool
  | .non => true
  | _ => false
def isBl (b : Bool) : T → Bool
  | .bl a => decide (a = b)
  | _ => false
def fIsB (x y : T) : Option Bool := match y with
  | .non => some (isN x)
  | .bl b => some (isBl b x)
  | _ => none
def fIs : Op2 := fun x y h => match fIsB x y with
  | some b => .ok (.bl b) h
  | none => .stuck
def fIsNot : Op2 := fun x y h => match fIsB x y with
  | some b => .ok (.bl (!b)) h
  | none => .stuck
theorem isN_of {K : PySem.W.Frag} {m : List Addr} {H : Hp} {t : T} {v : V} (r : VR K m H t v) : decide (v = .non) = isN t := by cases r <;> simp [isN]
theorem isBl_of {K : PySem.W.Frag} {m : List Addr} {H : Hp} {t : T} {v : V} {u : Value} {b : Bool} (r : VR K m H t v) (ru : RelV v u) : (u == Value.bool b) = isBl b t ∧ plainIs u (.bool b) = true := by
  cases r with
  | non => cases ru; exact ⟨rfl, rfl⟩
  | bl a => cases ru; cases a <;> cases b <;> exact ⟨rfl, rfl⟩
  | int i => obtain ⟨t, rfl⟩ := ru; exact ⟨rfl, rfl⟩
  | str x => obtain ⟨t, rfl⟩ := ru; exact ⟨rfl, rfl⟩
  | tup _ _ => cases ru; exact ⟨rfl, rfl⟩
  | ref _ => cases ru; exact ⟨rfl, rfl⟩
  | scr _ => cases ru; exact ⟨rfl, rfl⟩
theorem of_is : OpF X EO (compareOp .Is) fIs := by
  intro pins s σ H x y v u Q I rx ry ⟨m, th, a, b, R, ra, rb, w⟩
  unfold fIs fIsB at w
  cases rb with
  | non =>
    refine op_isN pins s σ H _ _ v u Q I rx ry ⟨rfl, ?_⟩
    rw [isN_of ra]
    exact Pn.done w R _ (.bl _)
  | bl b =>
    cases ry
    obtain ⟨e, p⟩ := isBl_of (b := b) ra rx
    refine wpAny_is_plain p ?_
    rw [e]
    exact fin_t I R w (.bl _) rfl
  | _ => exact w.elim
theorem of_isNot : OpF X EO (compareOp .IsNot) fIsNot := by
  intro pins s σ H x y v u Q I rx ry ⟨m, th, a, b, R, ra, rb, w⟩
  unfold fIsNot fIsB at w
  cases rb with
  | non =>
    refine op_notN pins s σ H _ _ v u Q I rx ry ⟨rfl, ?_⟩
    rw [isN_of ra]
    exact Pn.done w R _ (.bl _)
  | bl b =>
    cases ry
    obtain ⟨e, p⟩ := isBl_of (b := b) ra rx
    refine wpAny_isNot_plain p ?_
    rw [e]
    exact fin_t I R w (.bl _) rfl
  | _ => exact w.elim
/-! ### in -/
/-- the items of a list or a tuple -/
def itemsOf (h : TH) : T → Option (List T)
  | .tup ts => some ts
  | .ref k => match h[k]? with
    | some (.lst ts) => some ts
    | _ => none
  | .scr ns => some (ns.map .int)
  | _ => none
def fInB (x y : T) (h : TH) : Res Bool := match y with
  | .str b => match x with
    | .str a => .ok (!(Builtin.Str.occurrences b a 0 b.length 1).isEmpty) h
    | _ => .stuck
  | _ => match itemsOf h y with
    | some ts => match dat 66 h x, ts.mapM (dat 66 h) with
      | some d, some ds => if d.canLay0 = true ∧ d.depth ≤ 62 ∧ PyData.canLayAll0 ds = true then .ok (ds.any fun z => PyData.eqv z d) h else .stuck
      | _, _ => .stuck
    | none => .stuck
theorem Vals.reads {G : Gc} {m : List Addr} {th : TH} {H : Hp} (R : Rel G m th H) {ts : List T} {vs : List V} {ds : List PyData} (r : VRs G.K m H ts vs) (e : ts.mapM (dat 66 th) = some ds) : DpAll G.K H vs ds :=
  dp_all (G := G) (fun t v d a b => dat_dp R 66 t v d a b) r e
theorem seq_reads {pins : List (Addr × Obj)} {σ : L2.St} {H : Hp} {s : Shared} {m : List Addr} {th : TH} {y : T} {v : V} {u : Value} {ts : List T} {ds : List PyData} (I : Inv X pins σ H s) (R : Rel (gc X) m th H) (r : VR X.K m H y v) (ru : RelV v u) (e : itemsOf th y = some ts)
    (e2 : ts.mapM (dat 66 th) = some ds) : ∃ as, Reads s.heap u (.list ds) as ∨ Reads s.heap u (.tuple ds) as := by
  cases r with
  | @tup us a xs h1 h2 =>
    have e : us = ts := by simpa [itemsOf] using e
    subst e
    obtain ⟨as, r⟩ := Dp.reads I (.tuple ds) _ u (.tup h1.t (Vals.reads (G := gc X) R h2 e2)) ru
    exact ⟨as, .inr r⟩
  | @ref k a h1 =>
    simp only [itemsOf] at e
    split at e
    · rename_i us hk
      cases e
      obtain ⟨xs, h2, h3⟩ := R.at_ k a _ h1 hk
      obtain ⟨as, r⟩ := Dp.reads I (.list ds) _ u (.lst (.of h2) (Vals.reads (G := gc X) R h3 e2)) ru
      exact ⟨as, .inl r⟩
    · cases e
  | @scr ns a h1 =>
    have e : ns.map T.int = ts := by simpa [itemsOf] using e
    subst e
    obtain ⟨as, r⟩ := Dp.reads I (.list ds) _ u (.lst h1.l (Vals.reads (G := gc X) R (VRs.ints ns) e2)) ru
    exact ⟨as, .inl r⟩
  | _ => simp [itemsOf] at e
def fIn : Op2 := fun x y h => (fInB x y h).bind fun b h => .ok (.bl b) h
def fNotIn : Op2 := fun x y h => (fInB x y h).bind fun b h => .ok (.bl (!b)) h
theorem of_in (hu : X.A.units + 64 < cLine) : OpF X EO (compareOp .In) fIn := by
  intro pins s σ H x y v u Q I rx ry ⟨m, th, a, b, R, ra, rb, w⟩
  unfold fIn fInB at w
  split at w
  · cases rb
    split at w
    · cases ra
      exact op_in_str pins s σ H _ _ v u Q I rx ry ⟨_, _, rfl, rfl, Pn.done w R _ (.bl _)⟩
    · exact w.elim
  · split at w
    · rename_i ts e1
      split at w
      · rename_i d ds hd hds
        split at w
        · rename_i hs
          obtain ⟨bs, r2⟩ := reads_dat I R ra rx hd
          obtain ⟨as, r1⟩ := seq_reads I R rb ry e1 hds
          have hm : X.A.units + 1 + min (PyData.depthAll ds) d.depth < cLine := by have := hs.2.1; omega
          rcases r1 with r1 | r1
          · exact SeqAt.in_list_reads r1 r2 hs.2.2 hs.1 hm (fin_t I R w (.bl _) rfl)
          · exact SeqAt.in_tuple_reads r1 r2 hs.2.2 hs.1 hm (fin_t I R w (.bl _) rfl)
        · exact w.elim
      · exact w.elim
    · exact w.elim
theorem of_notIn (hu : X.A.units + 64 < cLine) : OpF X EO (compareOp .NotIn) fNotIn := by
  intro pins s σ H x y v u Q I rx ry ⟨m, th, a, b, R, ra, rb, w⟩
  unfold fNotIn fInB at w
  split at w
  · cases rb
    split at w
    · cases ra
      exact op_notin_str pins s σ H _ _ v u Q I rx ry ⟨_, _, rfl, rfl, Pn.done w R _ (.bl _)⟩
    · exact w.elim
  · split at w
    · rename_i ts e1
      split at w
      · rename_i d ds hd hds
        split at w
        · rename_i hs
          obtain ⟨bs, r2⟩ := reads_dat I R ra rx hd
          obtain ⟨as, r1⟩ := seq_reads I R rb ry e1 hds
          have hm : X.A.units + 1 + min (PyData.depthAll ds) d.depth < cLine := by have := hs.2.1; omega
          rcases r1 with r1 | r1
          · exact SeqAt.notIn_list_reads r1 r2 hs.2.2 hs.1 hm (fin_t I R w (.bl _) rfl)
          · exact SeqAt.notIn_tuple_reads r1 r2 hs.2.2 hs.1 hm (fin_t I R w (.bl _) rfl)
        · exact w.elim
      · exact w.elim
    · exact w.elim

/-! ### subscripts -/
def fIx : Op2 := fun x y h => match y with
  | .int i => match x with
    | .str z => if z.length ≤ sizeLine then (match atI z.cps.toList i with
      | some c => .ok (.str ⟨#[c]⟩) h
      | none => .stuck) else .stuck
    | _ => match itemsOf h x with
      | some ts => match atI ts i with
        | some t => .ok t h
        | none => .stuck
      | none => .stuck
  | _ => .stuck
/-- what is to be read of a list, a tuple -/
theorem items_sq {G : Gc} {H : Hp} {m : List Addr} {th : TH} {y : T} {v : V} {ts : List T} (R : Rel G m th H) (r : VR G.K m H y v) (e : itemsOf th y = some ts) :
    ∃ a xs, v = .ref a ∧ (SqL G.K H a xs ∨ SqT G.K H a xs) ∧ VRs G.K m H ts xs := by
  cases r with
  | @tup us a xs h1 h2 =>
    have e : us = ts := by simpa [itemsOf] using e
    subst e
    exact ⟨a, xs, rfl, .inr h1.t, h2⟩
  | @ref k a h1 =>
    simp only [itemsOf] at e
    split at e
    · rename_i us hk
      cases e
      obtain ⟨xs, h2, h3⟩ := R.at_ k a _ h1 hk
      exact ⟨a, xs, rfl, .inl (.of h2), h3⟩
    · cases e
  | @scr ns a h1 =>
    have e : ns.map T.int = ts := by simpa [itemsOf] using e
    subst e
    exact ⟨a, _, rfl, .inl h1.l, VRs.ints ns⟩
  | _ => simp [itemsOf] at e
theorem atI_vr {K : PySem.W.Frag} {m : List Addr} {H : Hp} {ts : List T} {xs : List V} {i : Int} {t : T} (r : VRs K m H ts xs) (e : atI ts i = some t) : ∃ v, atI xs i = some v ∧ VR K m H t v := by
  unfold atI at e ⊢
  rw [← r.length]
  cases q : ixN ts.length i with
  | none => rw [q] at e; cases e
  | some j =>
    rw [q] at e
    exact r.get e
theorem ix_T : IxR X (rT (gc X) EO fIx) := by
  intro value slice pins s σ H x y v u Q I rx ry ⟨m, th, a, b, R, ra, rb, w⟩ hs
  unfold fIx at w
  split at w
  · rename_i i
    cases rb
    split at w
    · rename_i z
      cases ra
      split at w
      · rename_i hz
        split at w
        · rename_i c hc
          exact ix_str value slice pins s σ H _ _ v u Q I rx ry ⟨_, _, c, rfl, rfl, hz, hc, Pn.done w R _ (.str _)⟩ hs
        · exact w.elim
      · exact w.elim
    · split at w
      · rename_i ts e1
        split at w
        · rename_i t e2
          obtain ⟨p, xs, rfl, hq, rs⟩ := items_sq (G := gc X) R ra e1
          obtain ⟨z, e3, rz⟩ := atI_vr rs e2
          rcases hq with hq | hq
          · exact ix_list value slice pins s σ H _ _ v u Q I rx ry ⟨p, xs, _, z, rfl, rfl, hq, e3, Pn.done w R _ rz⟩ hs
          · exact ix_tup value slice pins s σ H _ _ v u Q I rx ry ⟨p, xs, _, z, rfl, rfl, hq, e3, Pn.done w R _ rz⟩ hs
        · exact w.elim
      · exact w.elim
  · exact w.elim
variable {a b : Expr} {da db : ME} {pos : Pos}
/-- a[b] of a list, a tuple, a text -/
theorem de_ix (ha : DE X EO a da) (hb : DE X EO b db) (hs : PlainIx b := by intro _ _; rfl) : DE X EO (.Subscript a b pos) (eBin fIx da db) := ⟨(pe_ix ix_T ha.pe hb.pe hs).of tOp_of⟩
end
end TL

/-! T-layer, part D: slices, len, isinstance, conversions, sums, sorted. -/
namespace TL
open PySem PySem.Spec PyProof.Rows L2
section
variable {X : Cx} {EO : EOb}

/-! ### slices -/
abbrev MO := Sl → TH → Res (Option Int)
def tDO (G : Gc) (EO : EOb) (d : MO) : L2.TO := fun σ H Q => ∃ m σt th, SR G.K m H σt σ ∧ Rel G m th H ∧ Pn G EO m H (d σt th) fun o _ _ H' => Q o H'
structure DO (X : Cx) (EO : EOb) (e : Option Expr) (d : MO) : Prop where
  po : PO X e (tDO (gc X) EO d)
theorem _root_.L2.PO.of {X : Cx} {e : Option Expr} {t t' : L2.TO} (h : PO X e t) (f : ∀ σ H Q, t' σ H Q → t σ H Q) : PO X e t' := ⟨fun pins s σ H Q I w => h.run pins s σ H Q I (f σ H Q w)⟩
def oNone : MO := fun _ h => .ok none h
def oSome (d : ME) : MO := fun σ h => (d σ h).bind fun t h1 => match t with
  | .int i => .ok (some i) h1
  | _ => .stuck
theorem do_none : DO X EO none oNone := ⟨po_none.of fun σ H Q ⟨m, σt, th, sr, R, h⟩ => Pn.done h R⟩
theorem do_some {e : Expr} {d : ME} (h : DE X EO e d) : DO X EO (some e) (oSome d) := by
  refine ⟨(po_some h.pe).of fun σ H Q ⟨m, σt, th, sr, R, h⟩ => ⟨m, σt, th, sr, R, h.bind.imp fun t th1 m1 H1 x R1 h1 v vr => ?_⟩⟩
  cases vr with
  | int i => exact ⟨i, rfl, Pn.done h1 R1⟩
  | _ => exact h1.elim
def cutL {α : Type} (xs : List α) (lo hi : Option Int) : List α := (xs.drop (HT.sIx xs.length 0 lo)).take (HT.sIx xs.length xs.length hi - HT.sIx xs.length 0 lo)
theorem cutL_vr {K : PySem.W.Frag} {m : List Addr} {H : Hp} {ts : List T} {xs : List V} (r : VRs K m H ts xs) (lo hi : Option Int) : VRs K m H (cutL ts lo hi) (cutV xs lo hi) := by
  unfold cutL cutV
  rw [r.length]
  exact (r.drop _).take _
def fSlice : T → Option Int → Option Int → TH → Res T := fun x lo hi h => match x with
  | .str z => if z.length ≤ sizeLine then .ok (.str (cutS z lo hi)) h else .stuck
  | .tup ts => .ok (.tup (cutL ts lo hi)) h
  | _ => match itemsOf h x with
    | some ts => .ok (.ref h.length) (h ++ [.lst (cutL ts lo hi)])
    | none => .stuck
theorem cutL_whole {α : Type} {xs : List α} {lo hi : Option Int} (h : HT.sIx xs.length 0 lo = 0 ∧ HT.sIx xs.length xs.length hi = xs.length) : cutL xs lo hi = xs := by
  unfold cutL
  rw [h.1, h.2]; simp
theorem sl_T : SlR X (fun x lo hi H Q => ∃ m th a, Rel (gc X) m th H ∧ VR X.K m H a x ∧ WT (gc X) EO m H (fSlice a lo hi th) Q) := by
  intro pins s σ H x v vl vu lo hi sl Q I rx hs pl pu ⟨m, th, a, R, ra, w⟩
  unfold fSlice at w
  split at w
  · cases ra
    split at w
    · rename_i hz
      exact sl_str pins s σ H _ v vl vu lo hi sl Q I rx hs pl pu ⟨_, rfl, hz, Pn.done w R _ (.str _)⟩
    · exact w.elim
  · rename_i ts
    cases ra with
    | @tup _ p xs h1 h2 =>
    by_cases hw : HT.sIx xs.length 0 lo = 0 ∧ HT.sIx xs.length xs.length hi = xs.length
    · refine sl_tupA pins s σ H _ v vl vu lo hi sl Q I rx hs pl pu ⟨p, xs, rfl, h1.t, fun _ => ?_, fun z => absurd hw z⟩
      have e : cutL ts lo hi = ts := cutL_whole (by rw [h2.length]; exact hw)
      rw [e] at w
      exact Pn.done w R _ (.tup h1 h2)
    · cases rx
      obtain ⟨its, r, ht, hz⟩ := I.tuple h1.t
      have hlen : its.toArray.size = xs.length := by rw [List.size_toArray]; exact r.length.symm
      refine ⟨"tuple", _, PyProof.Rows.slot_tuple_getitem.lookup, ht.typeIs, ?_⟩
      refine HT.getItem_tuple_cut ht hs pl pu (by rw [hlen]; exact hw) ?_ (by rw [hlen]; exact hz)
      rw [hlen]
      obtain ⟨I2, hp⟩ := tup_laid (X := X) (t' := s.toks) (h' := s.heap) (s := s) (xs := cutV xs lo hi) I (Nat.le_trans (cutV_length xs lo hi) hz) ((r.drop (HT.sIx xs.length 0 lo)).take (HT.sIx xs.length xs.length hi - HT.sIx xs.length 0 lo))
      obtain ⟨w1, w2⟩ := tup_new (o := obT ((its.drop (HT.sIx xs.length 0 lo)).take (HT.sIx xs.length xs.length hi - HT.sIx xs.length 0 lo))) R hp rfl (cutL_vr h2 lo hi) w
      exact ⟨.ref s.heap.objs.size, _, I2, rfl, w1 _ w2⟩
  · split at w
    · rename_i ts e1
      obtain ⟨p, xs, rfl, hq, rs⟩ := items_sq (G := gc X) R ra e1
      rcases hq with hq | hq
      · refine sl_list pins s σ H _ v vl vu lo hi sl Q I rx hs pl pu ⟨p, xs, rfl, hq, fun q hq => ?_⟩
        obtain ⟨w1, w2⟩ := lst_new R hq (cutL_vr rs lo hi) w
        exact w1 _ w2
      · cases ra with
        | tup _ _ => simp_all
        | @ref k _ h1 =>
          simp only [itemsOf] at e1
          split at e1
          · rename_i us hk
            obtain ⟨xs2, h2, h3⟩ := R.at_ k _ _ h1 hk
            cases e1
            refine sl_list pins s σ H _ v vl vu lo hi sl Q I rx hs pl pu ⟨p, xs2, rfl, .of h2, fun q hq => ?_⟩
            obtain ⟨w1, w2⟩ := lst_new R hq (cutL_vr h3 lo hi) w
            exact w1 _ w2
          · cases e1
        | @scr ns _ h1 =>
          have e : ns.map T.int = ts := by simpa [itemsOf] using e1
          subst e
          refine sl_list pins s σ H _ v vl vu lo hi sl Q I rx hs pl pu ⟨p, _, rfl, h1.l, fun q hq => ?_⟩
          obtain ⟨w1, w2⟩ := lst_new R hq (cutL_vr (VRs.ints ns) lo hi) w
          exact w1 _ w2
    · exact w.elim
def eSlice (a : ME) (l u : MO) : ME := fun σ h => (a σ h).bind fun x h1 => (l σ h1).bind fun lo h2 => (u σ h2).bind fun hi h3 => fSlice x lo hi h3
theorem de_slice {e : Expr} {lo hi : Option Expr} {d : ME} {dl du : MO} {pos p2 : Pos} (he : DE X EO e d) (hl : DO X EO lo dl) (hu : DO X EO hi du) : DE X EO (.Subscript e (.Slice lo hi none p2) pos) (eSlice d dl du) := by
  refine ⟨(pe_slice (sl_T (EO := EO)) he.pe hl.po hu.po).of fun σ H Q ⟨m, σt, th, sr, R, h⟩ => ⟨m, σt, th, sr, R, h.bind.imp fun t th1 m1 H1 x R1 h1 v vr => ⟨m1, σt, th1, sr.mono x.pre x.kp, R1, h1.bind.imp fun o th2 m2 H2 x2 R2 h2 =>
    ⟨m2, σt, th2, (sr.mono x.pre x.kp).mono x2.pre x2.kp, R2, h2.bind.imp fun o2 th3 m3 H3 x3 R3 h3 => ⟨m3, th3, t, R3, (vr.mono x2.pre x2.kp).mono x3.pre x3.kp, h3⟩⟩⟩⟩⟩

/-! ### len -/
def fLen : Fn := fun ts h => match ts with
  | [x] => match x with
    | .str z => if z.length ≤ sizeLine then .ok (.int z.length) h else .stuck
    | .ref k => match h[k]? with
      | some (.lst ts) => .ok (.int ts.length) h
      | some (.dic kvs) => .ok (.int kvs.length) h
      | _ => .stuck
    | _ => match itemsOf h x with
      | some ts => .ok (.int ts.length) h
      | none => .stuck
  | _ => .stuck
theorem KR.length {K : PySem.W.Frag} {m : List Addr} {H : Hp} {kvs : List (T × T)} {xs : List (Key × V)} (r : KR K m H kvs xs) : kvs.length = xs.length := Paired.length r
theorem cf_len : CallF X EO (.builtin "len") fLen := by
  intro pins s σ H xs us Q I r ⟨m, th, ts, R, rs, w⟩
  have seq : ∀ {t : T} {v : V} {l : List T}, VR X.K m H t v → itemsOf th t = some l → xs = [v] → WT (gc X) EO m H (.ok (.int l.length) th) Q → wpAny (model X.prog X.w) X.A (call (.builtin "len") us) (EP X pins σ Q) X.xe s := by
    intro t v l vr e1 ex w
    subst ex
    obtain ⟨p, ys, rfl, hq, rs⟩ := items_sq (G := gc X) R vr e1
    refine call_len_seq pins s σ H _ us Q I r ⟨p, ys, rfl, hq, ?_⟩
    rw [← rs.length]
    exact Pn.done w R _ (.int _)
  unfold fLen at w
  split at w
  · rename_i t
    cases rs with
    | cons vr rr =>
    cases rr
    split at w
    · cases vr
      split at w
      · rename_i hz
        exact call_len_str pins s σ H _ us Q I r ⟨_, rfl, hz, Pn.done w R _ (.int _)⟩
      · exact w.elim
    · rename_i k
      split at w
      · rename_i l hk
        exact seq vr (show itemsOf th (.ref k) = some l by simp [itemsOf, hk]) rfl w
      · rename_i kvs hk
        cases vr with
        | @ref _ a h1 =>
        obtain ⟨ys, h2, h3⟩ := R.at_ k a _ h1 hk
        obtain ⟨u, rfl, rx⟩ := r.one
        cases (show u = Value.ref a from rx)
        exact d_len I (.inl h2) fun t s' I' => ⟨.int ys.length, H, I', ⟨_, rfl⟩, by rw [← KR.length h3]; exact Pn.done w R _ (.int _)⟩
      · exact w.elim
    · split at w
      · rename_i l e1
        exact seq vr e1 rfl w
      · exact w.elim
  · exact w.elim

/-! ### isinstance -/
inductive Ty where
  | non | bl | int | str | tup | lst | dic
  deriving DecidableEq
def Ty.nm : Ty → String
  | .non => "NoneType"
  | .bl => "bool"
  | .int => "int"
  | .str => "str"
  | .tup => "tuple"
  | .lst => "list"
  | .dic => "dict"
/-- is an instance of the first one of the second -/
def Ty.is : Ty → Ty → Bool
  | .bl, .int => true
  | a, b => decide (a = b)
def tyT (h : TH) : T → Option Ty
  | .non => some .non
  | .bl _ => some .bl
  | .int _ => some .int
  | .str _ => some .str
  | .tup _ => some .tup
  | .scr _ => some .lst
  | .ref k => match h[k]? with
    | some (.lst _) => some .lst
    | some (.dic _) => some .dic
    | _ => none
theorem ty_is : ∀ a b : Ty, kitB a.nm b.nm = some (a.is b) := by
  intro a b
  cases a <;> cases b <;> decide +kernel
theorem tyX_of {G : Gc} {m : List Addr} {th : TH} {H : Hp} {t : T} {v : V} {ty : Ty} (R : Rel G m th H) (r : VR G.K m H t v) (e : tyT th t = some ty) : TyX G.K H v (.type ty.nm) := by
  cases r with
  | non => cases e; exact .base .non
  | bl b => cases e; exact .base (.bl b)
  | int i => cases e; exact .base (.int i)
  | str x => cases e; exact .base (.str x)
  | @tup _ a _ h1 _ =>
    cases e
    rcases h1 with ⟨o, h1, _⟩ | ⟨o, _, _, h1, h2, _⟩
    · exact .fTuple h1
    · exact .kTuple h1 h2
  | @ref k a h1 =>
    simp only [tyT] at e
    split at e
    · rename_i l hk
      cases e
      obtain ⟨xs, h2, _⟩ := R.at_ k a _ h1 hk
      exact .base (.lst h2)
    · rename_i l hk
      cases e
      obtain ⟨xs, h2, _⟩ := R.at_ k a _ h1 hk
      exact .base (.dK h2)
    · cases e
  | @scr ns a h1 =>
    cases e
    rcases h1 with ⟨o, h1⟩ | ⟨o, _, _, h1, h2, _⟩
    · exact .base (.frz h1)
    · exact .kList h1 h2
def fIsInst (c : Ty) (t : T) (h : TH) : Res T := match tyT h t with
  | some ty => .ok (.bl (ty.is c)) h
  | none => .stuck
theorem de_isinst {e : Expr} {d : ME} {c : Ty} {x : Str} {p p2 pos : Pos} (hm : X.mg "isinstance" = none) (he : DE X EO e d) (hm2 : X.mg x = none) (hv2 : bootBuiltins x = some (.type c.nm)) (hg : Gl X "isinstance" := by rfl) (hg2 : Gl X x := by rfl)
    (hn2 : x ≠ "__name__" := by decide) (hd2 : (x == ("__debug__" : Str)) = false := by decide) (he2 : starEach [e, .Name x p2] X.env = (false, eval e X.env) :: starEach [.Name x p2] X.env := by rfl)
    (hpl : (backTo pos (starEach [.Name x p2] X.env)).any (·.1) = false := by rfl) (he3 : starEach [.Name x p2] X.env = (false, eval (.Name x p2) X.env) :: starEach [] X.env := by rfl) :
    DE X EO (.Call (.Name "isinstance" p) [e, .Name x p2] [] pos) (eUn (fIsInst c) d) := by
  have hb : bootBuiltins ("isinstance" : Str) = some (.builtin "isinstance") := by decide +kernel
  refine ⟨(pe_callB call_isi hg hm hb (pa_cons he.pe (pa_cons (pe_bltn (v := .ty c.nm) hg2 hm2 hv2 rfl hn2 hd2) pa_nil he3) he2) (by decide) (by decide) he2 hpl).of fun σ H Q ⟨m, σt, th, sr, R, h⟩ => ⟨m, σt, th, sr, R, h.bind.imp fun t th1 m1 H1 x R1 h1 v vr => ?_⟩⟩
  unfold fIsInst at h1
  split at h1
  · rename_i ty e1
    exact ⟨v, .ty c.nm, .type ty.nm, .type c.nm, ty.is c, rfl, .ty _, tyX_of (G := gc X) R1 vr e1, kit_ty (ty_is ty c), Pn.done h1 R1 _ (.bl _)⟩
  · exact h1.elim

/-! ### tuple(x), list(x), int(x), str(x) -/
def fTuple : Fn := fun ts h => match ts with
  | [x] => match itemsOf h x with
    | some l => .ok (.tup l) h
    | none => .stuck
  | _ => .stuck
theorem cf_tuple : CallF X EO (.type "tuple") fTuple := by
  intro pins s σ H xs us Q I r ⟨m, th, ts, R, rs, w⟩
  unfold fTuple at w
  split at w
  · rename_i t
    cases rs with
    | cons vr rr =>
    cases rr
    split at w
    · rename_i l e1
      have mk : ∀ {a : Addr} {ys : List V}, SqL X.K H a ys → VRs X.K m H l ys → us = [Value.ref a] → wpAny (model X.prog X.w) X.A (call (.type "tuple") us) (EP X pins σ Q) X.xe s := by
        intro a ys hq rs e
        subst e
        obtain ⟨its, r', pl, hz⟩ := I.list hq
        have hlen := r'.length
        refine call_tuple_list pl.isList (fun h' kp => ?_) (by simp only [List.size_toArray] <;> omega)
        have I1 : Inv X pins σ H { s with heap := h' } := I.kept (t' := s.toks) kp
        obtain ⟨I2, hp⟩ := tup_laid (X := X) (t' := s.toks) (h' := h') (s := s) (xs := ys) I1 hz r'
        obtain ⟨w1, w2⟩ := tup_new (o := obT its) R hp rfl rs w
        exact ⟨.ref h'.objs.size, _, I2, rfl, w1 _ w2⟩
      obtain ⟨u, rfl, rx⟩ := r.one
      cases vr with
      | @tup us2 a ys h1 h2 =>
        have e : us2 = l := by simpa [itemsOf] using e1
        subst e
        exact call_tuple_of pins s σ H _ _ Q I r ⟨a, ys, rfl, .inr ⟨h1.t, Pn.done w R _ (.tup h1 h2)⟩⟩
      | @ref k a h1 =>
        simp only [itemsOf] at e1
        split at e1
        · rename_i us2 hk
          cases e1
          obtain ⟨ys, h2, h3⟩ := R.at_ k a _ h1 hk
          exact mk (.of h2) h3 (by rw [show u = Value.ref a from rx])
        · cases e1
      | @scr ns a h1 =>
        have e : ns.map T.int = l := by simpa [itemsOf] using e1
        subst e
        exact mk h1.l (VRs.ints ns) (by rw [show u = Value.ref a from rx])
      | _ => simp [itemsOf] at e1
    · exact w.elim
  · exact w.elim
def fList : Fn := fun ts h => match ts with
  | [x] => match itemsOf h x with
    | some l => .ok (.ref h.length) (h ++ [.lst l])
    | none => match x with
      | .ref k => match h[k]? with
        | some (.dic kvs) => .ok (.ref h.length) (h ++ [.lst (kvs.map (·.1))])
        | _ => .stuck
      | _ => .stuck
  | _ => .stuck
theorem KR.keys {K : PySem.W.Frag} {m : List Addr} {H : Hp} : ∀ {kvs : List (T × T)} {xs : List (Key × V)}, KR K m H kvs xs → VRs K m H (kvs.map (·.1)) (xs.map fun kv => kV kv.1)
  | _, _, .nil => .nil
  | _, _, .cons (a := p) (b := q) h t => by
    simp only [List.map_cons]
    refine .cons ?_ (KR.keys t)
    rw [h.1]
    cases q.1 with
    | inl i => exact .int i
    | inr x => exact .str x
theorem KR.vals {K : PySem.W.Frag} {m : List Addr} {H : Hp} : ∀ {kvs : List (T × T)} {xs : List (Key × V)}, KR K m H kvs xs → VRs K m H (kvs.map (·.2)) (xs.map (·.2))
  | _, _, .nil => .nil
  | _, _, .cons (a := p) (b := q) h t => .cons h.2 (KR.vals t)
theorem cf_list (hc : X.calm = true) : CallF X EO (.type "list") fList := by
  intro pins s σ H xs us Q I r ⟨m, th, ts, R, rs, w⟩
  unfold fList at w
  split at w
  · rename_i t
    cases rs with
    | cons vr rr =>
    cases rr
    split at w
    · rename_i l e1
      obtain ⟨p, ys, rfl, hq, rs⟩ := items_sq (G := gc X) R vr e1
      refine call_list_of pins s σ H _ us Q I r ⟨p, ys, rfl, hq, fun q hq => ?_⟩
      obtain ⟨w1, w2⟩ := lst_new R hq rs w
      exact w1 _ w2
    · split at w
      · rename_i k _
        split at w
        · rename_i kvs hk
          cases vr with
          | @ref _ a h1 =>
          obtain ⟨ys, h2, h3⟩ := R.at_ k a _ h1 hk
          refine call_list_dK hc pins s σ H _ us Q I r ⟨a, ys, rfl, h2, fun q hq => ?_⟩
          obtain ⟨w1, w2⟩ := lst_new R hq (KR.keys h3) w
          exact w1 _ w2
        · exact w.elim
      · exact w.elim
  · exact w.elim
def fInt : Fn := fun ts h => match ts with
  | [.int i] => .ok (.int i) h
  | [.bl k] => .ok (.int (if k then 1 else 0)) h
  | [.str a] => match PySem.intText? a with
    | some n => if a.length ≤ 640 then .ok (.int n) h else .stuck
    | none => .stuck
  | _ => .stuck
theorem cf_int : CallF X EO (.type "int") fInt := by
  intro pins s σ H xs us Q I r ⟨m, th, ts, R, rs, w⟩
  unfold fInt at w
  split at w
  · cases rs with
    | cons vr rr =>
    cases rr; cases vr
    exact call_int1 pins s σ H _ us Q I r (.inl ⟨_, rfl, Pn.done w R _ (.int _)⟩)
  · cases rs with
    | cons vr rr =>
    cases rr; cases vr
    exact call_int1 pins s σ H _ us Q I r (.inr ⟨_, rfl, Pn.done w R _ (.int _)⟩)
  · cases rs with
    | cons vr rr =>
    cases rr; cases vr
    split at w
    · rename_i n e
      split at w
      · rename_i hz
        exact call_int_str pins s σ H _ us Q I r ⟨_, n, rfl, e, hz, Pn.done w R _ (.int _)⟩
      · exact w.elim
    · exact w.elim
  · exact w.elim
def fStr : Fn := fun ts h => match ts with
  | [.int i] => if i.natAbs.log2 < 1920 then .ok (.str (toString i)) h else .stuck
  | _ => .stuck
theorem cf_str : CallF X EO (.type "str") fStr := by
  intro pins s σ H xs us Q I r ⟨m, th, ts, R, rs, w⟩
  unfold fStr at w
  split at w
  · cases rs with
    | cons vr rr =>
    cases rr; cases vr
    split at w
    · rename_i hz
      exact call_str_int pins s σ H _ us Q I r ⟨_, rfl, hz, Pn.done w R _ (.str _)⟩
    · exact w.elim
  · exact w.elim
def fAbs : Fn := fun ts h => match ts with
  | [.int i] => .ok (.int (if i < 0 then -i else i)) h
  | _ => .stuck
theorem cf_abs : CallF X EO (.builtin "abs") fAbs := by
  intro pins s σ H xs us Q I r ⟨m, th, ts, R, rs, w⟩
  unfold fAbs at w
  split at w
  · cases rs with
    | cons vr rr =>
    cases rr; cases vr
    exact call_abs pins s σ H _ us Q I r ⟨_, rfl, Pn.done w R _ (.int _)⟩
  · exact w.elim

/-! ### all, any, sum, max, min -/
def blsOf : List T → Option (List Bool)
  | [] => some []
  | .bl b :: ts => (blsOf ts).map (b :: ·)
  | _ :: _ => none
def intsOf : List T → Option (List Int)
  | [] => some []
  | .int b :: ts => (intsOf ts).map (b :: ·)
  | _ :: _ => none
theorem blsOf_vr {K : PySem.W.Frag} {m : List Addr} {H : Hp} : ∀ {ts : List T} {xs : List V} {bs : List Bool}, VRs K m H ts xs → blsOf ts = some bs → xs = bs.map V.bl
  | [], _, bs, .nil, e => by simp [blsOf] at e; subst e; rfl
  | t :: ts, _, bs, .cons a b, e => by
    cases a with
    | bl c =>
      simp only [blsOf] at e
      obtain ⟨l, e1, e2⟩ := Option.map_eq_some_iff.mp e
      subst e2
      rw [blsOf_vr b e1]; rfl
    | _ => simp [blsOf] at e
theorem intsOf_vr {K : PySem.W.Frag} {m : List Addr} {H : Hp} : ∀ {ts : List T} {xs : List V} {bs : List Int}, VRs K m H ts xs → intsOf ts = some bs → xs = bs.map V.int
  | [], _, bs, .nil, e => by simp [intsOf] at e; subst e; rfl
  | t :: ts, _, bs, .cons a b, e => by
    cases a with
    | int c =>
      simp only [intsOf] at e
      obtain ⟨l, e1, e2⟩ := Option.map_eq_some_iff.mp e
      subst e2
      rw [intsOf_vr b e1]; rfl
    | _ => simp [intsOf] at e
/-- a function of a made list -/
def lstArg (h : TH) : List T → Option (List T)
  | [.ref k] => match h[k]? with
    | some (.lst ts) => some ts
    | _ => none
  | _ => none
theorem lstArg_at {G : Gc} {m : List Addr} {th : TH} {H : Hp} {ts l : List T} {xs : List V} (R : Rel G m th H) (rs : VRs G.K m H ts xs) (e : lstArg th ts = some l) : ∃ a ys, xs = [.ref a] ∧ H a = some (.lst ys) ∧ VRs G.K m H l ys := by
  unfold lstArg at e
  split at e
  · rename_i k
    cases rs with
    | cons vr rr =>
    cases rr
    cases vr with
    | @ref _ a h1 =>
    split at e
    · rename_i us hk
      cases e
      obtain ⟨ys, h2, h3⟩ := R.at_ k a _ h1 hk
      exact ⟨a, ys, rfl, h2, h3⟩
    · cases e
  · cases e
def fAll : Fn := fun ts h => match lstArg h ts with
  | some l => match blsOf l with
    | some bs => .ok (.bl (bs.all id)) h
    | none => .stuck
  | none => .stuck
def fAny : Fn := fun ts h => match lstArg h ts with
  | some l => match blsOf l with
    | some bs => .ok (.bl (bs.any id)) h
    | none => .stuck
  | none => .stuck
theorem cf_all (hc : X.calm = true) : CallF X EO (.builtin "all") fAll := by
  intro pins s σ H xs us Q I r ⟨m, th, ts, R, rs, w⟩
  unfold fAll at w
  split at w
  · rename_i l e1
    split at w
    · rename_i bs e2
      obtain ⟨a, ys, rfl, h2, h3⟩ := lstArg_at (G := gc X) R rs e1
      have e3 := blsOf_vr h3 e2
      subst e3
      exact cr_all hc pins s σ H _ us Q I r ⟨a, bs, rfl, .of h2, Pn.done w R _ (.bl _)⟩
    · exact w.elim
  · exact w.elim
theorem cf_any (hc : X.calm = true) : CallF X EO (.builtin "any") fAny := by
  intro pins s σ H xs us Q I r ⟨m, th, ts, R, rs, w⟩
  unfold fAny at w
  split at w
  · rename_i l e1
    split at w
    · rename_i bs e2
      obtain ⟨a, ys, rfl, h2, h3⟩ := lstArg_at (G := gc X) R rs e1
      have e3 := blsOf_vr h3 e2
      subst e3
      exact cr_any hc pins s σ H _ us Q I r ⟨a, bs, rfl, .of h2, Pn.done w R _ (.bl _)⟩
    · exact w.elim
  · exact w.elim
def fSum : Fn := fun ts h => match lstArg h ts with
  | some l => match intsOf l with
    | some bs => .ok (.int bs.sum) h
    | none => .stuck
  | none => .stuck
theorem cf_sum (hc : X.calm = true) : CallF X EO (.builtin "sum") fSum := by
  intro pins s σ H xs us Q I r ⟨m, th, ts, R, rs, w⟩
  unfold fSum at w
  split at w
  · rename_i l e1
    split at w
    · rename_i bs e2
      obtain ⟨a, ys, rfl, h2, h3⟩ := lstArg_at (G := gc X) R rs e1
      have e3 := intsOf_vr h3 e2
      subst e3
      exact cr_sum hc pins s σ H _ us Q I r ⟨a, bs, rfl, .of h2, Pn.done w R _ (.int _)⟩
    · exact w.elim
  · exact w.elim
def maxI : List Int → Option Int
  | [] => none
  | x :: xs => some (xs.foldl max x)
def minI : List Int → Option Int
  | [] => none
  | x :: xs => some (xs.foldl min x)
theorem foldl_max_mem : ∀ (xs : List Int) (x : Int), xs.foldl max x ∈ x :: xs ∧ ∀ y ∈ x :: xs, y ≤ xs.foldl max x
  | [], x => by simp
  | y :: xs, x => by
    obtain ⟨h1, h2⟩ := foldl_max_mem xs (max x y)
    simp only [List.foldl_cons]
    refine ⟨?_, fun z hz => ?_⟩
    · rcases List.mem_cons.mp h1 with e | e
      · rw [e]; by_cases h : x ≤ y
        · rw [Int.max_eq_right h]; simp
        · rw [Int.max_eq_left (by omega)]; simp
      · simp [e]
    · have hm := h2 (max x y) (by simp)
      have hx : x ≤ max x y := Int.le_max_left _ _
      have hy : y ≤ max x y := Int.le_max_right _ _
      rcases List.mem_cons.mp hz with e | e
      · omega
      · rcases List.mem_cons.mp e with e | e
        · omega
        · exact h2 z (by simp [e])
theorem foldl_min_mem : ∀ (xs : List Int) (x : Int), xs.foldl min x ∈ x :: xs ∧ ∀ y ∈ x :: xs, xs.foldl min x ≤ y
  | [], x => by simp
  | y :: xs, x => by
    obtain ⟨h1, h2⟩ := foldl_min_mem xs (min x y)
    simp only [List.foldl_cons]
    refine ⟨?_, fun z hz => ?_⟩
    · rcases List.mem_cons.mp h1 with e | e
      · rw [e]; by_cases h : x ≤ y
        · rw [Int.min_eq_left h]; simp
        · rw [Int.min_eq_right (by omega)]; simp
      · simp [e]
    · have hm := h2 (min x y) (by simp)
      have hx : min x y ≤ x := Int.min_le_left _ _
      have hy : min x y ≤ y := Int.min_le_right _ _
      rcases List.mem_cons.mp hz with e | e
      · omega
      · rcases List.mem_cons.mp e with e | e
        · omega
        · exact h2 z (by simp [e])
def fMax : Fn := fun ts h => match ts with
  | [.int i, .int j] => .ok (.int (if j > i then j else i)) h
  | _ => match lstArg h ts with
    | some l => match intsOf l with
      | some bs => match maxI bs with
        | some m => .ok (.int m) h
        | none => .stuck
      | none => .stuck
    | none => .stuck
def fMin : Fn := fun ts h => match ts with
  | [.int i, .int j] => .ok (.int (if j < i then j else i)) h
  | _ => match lstArg h ts with
    | some l => match intsOf l with
      | some bs => match minI bs with
        | some m => .ok (.int m) h
        | none => .stuck
      | none => .stuck
    | none => .stuck
theorem cf_max (hc : X.calm = true) : CallF X EO (.builtin "max") fMax := by
  intro pins s σ H xs us Q I r ⟨m, th, ts, R, rs, w⟩
  unfold fMax at w
  split at w
  · cases rs with
    | cons vr rr =>
    cases rr with
    | cons vr2 rr =>
    cases rr; cases vr; cases vr2
    exact call_max2 hc pins s σ H _ us Q I r ⟨_, _, rfl, Pn.done w R _ (.int _)⟩
  · split at w
    · rename_i l e1
      split at w
      · rename_i bs e2
        split at w
        · rename_i k e4
          obtain ⟨a, ys, rfl, h2, h3⟩ := lstArg_at (G := gc X) R rs e1
          have e3 := intsOf_vr h3 e2
          subst e3
          unfold maxI at e4
          split at e4
          · cases e4
          · rename_i y ys2
            cases e4
            obtain ⟨g1, g2⟩ := foldl_max_mem ys2 y
            refine cr_max hc pins s σ H _ us Q I r ⟨a, y :: ys2, rfl, .of h2, by simp, fun k h1 h2 => ?_⟩
            have e : k = ys2.foldl max y := Int.le_antisymm (g2 k h1) (h2 _ g1)
            rw [e]
            exact Pn.done w R _ (.int _)
        · exact w.elim
      · exact w.elim
    · exact w.elim
theorem cf_min (hc : X.calm = true) : CallF X EO (.builtin "min") fMin := by
  intro pins s σ H xs us Q I r ⟨m, th, ts, R, rs, w⟩
  unfold fMin at w
  split at w
  · cases rs with
    | cons vr rr =>
    cases rr with
    | cons vr2 rr =>
    cases rr; cases vr; cases vr2
    exact call_min2 hc pins s σ H _ us Q I r ⟨_, _, rfl, Pn.done w R _ (.int _)⟩
  · split at w
    · rename_i l e1
      split at w
      · rename_i bs e2
        split at w
        · rename_i k e4
          obtain ⟨a, ys, rfl, h2, h3⟩ := lstArg_at (G := gc X) R rs e1
          have e3 := intsOf_vr h3 e2
          subst e3
          unfold minI at e4
          split at e4
          · cases e4
          · rename_i y ys2
            cases e4
            obtain ⟨g1, g2⟩ := foldl_min_mem ys2 y
            refine cr_min hc pins s σ H _ us Q I r ⟨a, y :: ys2, rfl, .of h2, by simp, fun k h1 h2 => ?_⟩
            have e : k = ys2.foldl min y := Int.le_antisymm (h2 _ g1) (g2 k h1)
            rw [e]
            exact Pn.done w R _ (.int _)
        · exact w.elim
      · exact w.elim
    · exact w.elim

/-! ### sorted -/
def encT (h : TH) (t : T) : PyData := (dat 66 h t).getD .none
def leT (h : TH) (a b : T) : Bool := PySem.W.dataLe false (encT h) a b
def sortable (ds : List PyData) : Bool := (ds.all fun d => match d with | .tuple (_ :: _) => true | _ => false) || ds.all fun d => match d with | .none => false | .tuple _ => false | _ => true
def allAlike (ds : List PyData) : Bool := ds.all fun d => ds.all fun e => PySem.W.alike d e
def sortT (h : TH) (l : List T) : Option (List T) :=
  if (l.all fun t => (dat 66 h t).isSome) = true ∧ allAlike (l.map (encT h)) = true ∧ sortable (l.map (encT h)) = true ∧ (l.all fun t => decide ((encT h t).depth ≤ 60)) = true then some (l.mergeSort (leT h)) else none
theorem sortable_ok {ds : List PyData} (h : sortable ds = true) : PySem.W.Sortable ds := by
  unfold sortable at h
  rcases Bool.or_eq_true_iff.mp h with h | h
  · refine .inl fun d hd => ?_
    have q := List.all_eq_true.mp h d hd
    split at q
    · exact ⟨_, _, rfl⟩
    · cases q
  · refine .inr fun d hd => ?_
    have q := List.all_eq_true.mp h d hd
    split at q
    · cases q
    · cases q
    · rename_i h1 h2
      exact ⟨fun e => h1 e, fun xs e => h2 xs e⟩
theorem allAlike_ok {ds : List PyData} (h : allAlike ds = true) : PySem.W.AllAlike ds := fun d hd e he => List.all_eq_true.mp (List.all_eq_true.mp h d hd) e he
def RelVT (K : PySem.W.Frag) (m : List Addr) (H : Hp) (u : Value) (t : T) : Prop := ∃ v, RelV v u ∧ VR K m H t v
theorem each_of {K : PySem.W.Frag} {m : List Addr} {H : Hp} : ∀ {l : List T} {ys : List V} {us : List Value}, VRs K m H l ys → Vals ys us → PySem.W.EachIs (RelVT K m H) us l
  | _, _, _, .nil, .nil => .nil
  | _, _, _, .cons a b, .cons r s => .cons ⟨_, r, a⟩ (each_of b s)
theorem of_each {K : PySem.W.Frag} {m : List Addr} {H : Hp} : ∀ {l : List T} {us : List Value}, PySem.W.EachIs (RelVT K m H) us l → ∃ ys, VRs K m H l ys ∧ Vals ys us
  | _, _, .nil => ⟨[], .nil, .nil⟩
  | _, _, .cons ⟨v, r, a⟩ t => let ⟨ys, h1, h2⟩ := of_each t; ⟨v :: ys, .cons a h1, .cons r h2⟩
def fSorted : Fn := fun ts h => match ts with
  | [.ref k] => match h[k]? with
    | some (.lst l) => match sortT h l with
      | some l' => .ok (.ref h.length) (h ++ [.lst l'])
      | none => .stuck
    | _ => .stuck
  | _ => .stuck
theorem enc_reads {pins : List (Addr × Obj)} {σ : L2.St} {H : Hp} {s : Shared} {m : List Addr} {th : TH} (I : Inv X pins σ H s) (R : Rel (gc X) m th H) : ∀ {l : List T} {us : List Value}, PySem.W.EachIs (RelVT X.K m H) us l → (l.all fun t => (dat 66 th t).isSome) = true →
    PySem.W.EachIs (fun v b => ∃ as, Reads s.heap v (encT th b) as) us l
  | _, _, .nil, _ => .nil
  | _, _, .cons (a := u) (b := t) ⟨v, r, vr⟩ rest, e => by
    simp only [List.all_cons, Bool.and_eq_true] at e
    refine .cons ?_ (enc_reads I R rest e.2)
    obtain ⟨d, hd⟩ := Option.isSome_iff_exists.mp e.1
    have : encT th t = d := by unfold encT; rw [hd]; rfl
    rw [this]
    exact reads_dat I R vr r hd
theorem cf_sorted (hu : X.A.units + 66 < cLine) : CallF X EO (.builtin "sorted") fSorted := by
  intro pins s σ H xs us Q I r ⟨m, th, ts, R, rs, w⟩
  unfold fSorted at w
  split at w
  · rename_i k
    split at w
    · rename_i l hk
      split at w
      · rename_i l' e1
        cases rs with
        | cons vr rr =>
        cases rr
        cases vr with
        | @ref _ a h1 =>
        obtain ⟨ys, h2, h3⟩ := R.at_ k a _ h1 hk
        obtain ⟨u, rfl, rx⟩ := r.one
        cases (show u = Value.ref a from rx)
        obtain ⟨its, n, ri, ho, hz⟩ := I.lst h2
        unfold sortT at e1
        split at e1
        · rename_i hc
          cases e1
          obtain ⟨c1, c2, c3, c4⟩ := hc
          have E := each_of h3 ri
          have hl := h3.length
          refine PySem.W.sorted_data (bs := l) (enc := encT th) (R := RelVT X.K m H) ⟨_, ho, rfl, _, rfl⟩ E (enc_reads I R E c1) (allAlike_ok c2) (sortable_ok c3) (by omega) (fun b hb => ?_) fun out hout E2 => ?_
          · have := of_decide_eq_true (List.all_eq_true.mp c4 b hb)
            omega
          · obtain ⟨zs, v1, v2⟩ := of_each E2
            obtain ⟨c, hcap⟩ := PyProof.Rows.sortedAll_at s.heap its out.toArray
            have hnew : s.heap.objs.size ≤ s.heap.objs.size + 1 := Nat.le_succ _
            have hf : H (s.heap.objs.size + 1) = none := I.hok.fresh hnew
            have lz : zs.length ≤ sizeLine := by have := v2.length; omega
            have I2 : Inv X pins σ (upd H (s.heap.objs.size + 1) (.lst zs)) { s with heap := PyProof.Rows.sortedAll s.heap its out.toArray } :=
              I.laid (a := s.heap.objs.size + 1) (t' := s.toks) (fun b o e => PyProof.Rows.sortedAll_old e) hnew ⟨lz, out, c, v2, hcap⟩
            obtain ⟨w1, w2⟩ := lst_new R hf v1 w
            exact ⟨.ref (s.heap.objs.size + 1), _, I2, rfl, w1 _ w2⟩
        · cases e1
      · exact w.elim
    · exact w.elim
  · exact w.elim
end
end TL

/-! T-layer, part E: statements, loops, comprehensions, defs. -/
namespace TL
open PySem PySem.Spec PyProof.Rows L2
section
variable {X : Cx} {EO : EOb} {pos : Pos} {e : Expr} {d : ME} {st : Stmt} {rest : List Stmt} {ds dr : MS}

/-! ### blocks -/
def sNil : MS := fun σ h => .nx σ h
def sSeq (a b : MS) : MS := fun σ h => (a σ h).then b
theorem dss_nil : DSs X EO [] sNil := ⟨pss_nil.of fun D σ H ⟨m, σt, th, sr, R, h⟩ => h m H σ (Ext.refl m H) R sr⟩
theorem dss_cons (h1 : DS X EO st ds) (h2 : DSs X EO rest dr) : DSs X EO (st :: rest) (sSeq ds dr) :=
  ⟨(pss_cons h1.ps h2.pss).of fun D σ H ⟨m, σt, th, sr, R, h⟩ => ⟨m, σt, th, sr, R, PnS.seq h⟩⟩
theorem dss_one (h1 : DS X EO st ds) : DSs X EO [st] ds := ⟨pss_one h1.ps⟩
theorem ds_pass : DS X EO (.Pass pos) sNil := ⟨ps_pass.of fun D σ H ⟨m, σt, th, sr, R, h⟩ => h m H σ (Ext.refl m H) R sr⟩
def sBreak : MS := fun σ h => .bk σ h
def sCont : MS := fun σ h => .ct σ h
theorem ds_break : DS X EO (.Break pos) sBreak := ⟨ps_break.of fun D σ H ⟨m, σt, th, sr, R, h⟩ => h m H σ (Ext.refl m H) R sr⟩
theorem ds_continue : DS X EO (.Continue pos) sCont := ⟨ps_continue.of fun D σ H ⟨m, σt, th, sr, R, h⟩ => h m H σ (Ext.refl m H) R sr⟩
def sExpr (e : ME) : MS := fun σ h => SRes.of (e σ h) fun _ h1 => .nx σ h1
theorem ds_expr (he : DE X EO e d) (hs : swapsWith e none pos.line X.env = pure false := by rfl) : DS X EO (.Expr e pos) (sExpr d) := by
  refine ⟨(ps_expr he.pe hs).of fun D σ H ⟨m, σt, th, sr, R, h⟩ => ⟨m, σt, th, sr, R, (PnS.of h).imp fun t th1 m1 H1 x R1 h1 v vr => ?_⟩⟩
  exact h1 m1 H1 σ (Ext.refl m1 H1) R1 (sr.mono x.pre x.kp)
def sRet (e : ME) : MS := fun σ h => SRes.of (e σ h) fun t h1 => .rt t h1
theorem ds_ret (he : DE X EO e d) : DS X EO (.Return (some e) pos) (sRet d) := by
  refine ⟨(ps_ret he.pe).of fun D σ H ⟨m, σt, th, sr, R, h⟩ => ⟨m, σt, th, sr, R, (PnS.of h).imp fun t th1 m1 H1 x R1 h1 v vr => ?_⟩⟩
  exact h1 m1 H1 v (Ext.refl m1 H1) R1 vr
def sRetN : MS := fun _ h => .rt .non h
theorem ds_retN : DS X EO (.Return none pos) sRetN := ⟨ps_retN.of fun D σ H ⟨m, σt, th, sr, R, h⟩ => h m H _ (Ext.refl m H) R .non⟩
def sIf (t : MB) (a b : MS) : MS := fun σ h => SRes.of (t σ h) fun c h1 => if c = true then a σ h1 else b σ h1
theorem ds_if {c : Expr} {a b : List Stmt} {tc : MB} {da db : MS} (hc : DT X EO c tc) (ha : DSs X EO a da) (hb : DSs X EO b db) : DS X EO (.If c a b pos) (sIf tc da db) := by
  refine ⟨(ps_if hc.pt ha.pss hb.pss).of fun D σ H ⟨m, σt, th, sr, R, h⟩ => ⟨m, σt, th, sr, R, (PnS.of h).imp fun k th1 m1 H1 x R1 h1 => ?_⟩⟩
  cases k with
  | true => exact iteT ⟨m1, σt, th1, sr.mono x.pre x.kp, R1, h1⟩
  | false => exact iteF ⟨m1, σt, th1, sr.mono x.pre x.kp, R1, h1⟩

/-! ### targets -/
/-- what is given to a target: a value, or a row that was laid for it alone -/
inductive Yv where
  | val (t : T) | parts (ts : List T)
def YR (K : PySem.W.Frag) (m : List Addr) (H : Hp) : Yv → V → Prop
  | .val t, v => VR K m H t v
  | .parts ts, v => ∃ a xs, v = .ref a ∧ SqT K H a xs ∧ VRs K m H ts xs
abbrev MG := Yv → Sl → TH → Res Sl
def tDG (G : Gc) (EO : EOb) (vs : List Nat) (g : MG) : TG := fun v σ H Q => ∃ m σt th y, SR G.K m H σt σ ∧ Rel G m th H ∧ YR G.K m H y v ∧ Pn G EO m H (g y σt th) fun σt' th' m' H' => ∀ σ', SR G.K m' H' σt' σ' → L2.wipe σ' vs = L2.wipe σ vs → Q σ' H'
structure DG (X : Cx) (EO : EOb) (tg : Expr) (vs : List Nat) (g : MG) : Prop where
  pg : PG X tg (tDG (gc X) EO vs g)
theorem _root_.L2.PG.of {X : Cx} {e : Expr} {t t' : TG} (h : PG X e t) (f : ∀ v σ H Q, t' v σ H Q → t v σ H Q) : PG X e t' := ⟨fun pins s σ H v u Q I r w => h.run pins s σ H v u Q I r (f v σ H Q w)⟩
theorem set_none_set {σ : L2.St} {i : Nat} {x : Option V} : (σ.set i x).set i none = σ.set i none := by
  exact List.set_set ..
theorem wipe_set {σ : L2.St} {i : Nat} {x : Option V} : ∀ {vs : List Nat}, i ∈ vs → L2.wipe (σ.set i x) vs = L2.wipe σ vs
  | v :: vs, h => by
    unfold L2.wipe
    by_cases hm : i ∈ vs
    · rw [wipe_set hm]
    · have e : v = i := by
        rcases List.mem_cons.mp h with e | e
        · exact e.symm
        · exact absurd e hm
      subst e
      have key : ∀ vs : List Nat, v ∉ vs → L2.wipe (σ.set v x) vs = (L2.wipe σ vs).set v x := by
        intro vs
        induction vs with
        | nil => intro _; rfl
        | cons u us ih =>
          intro hu
          unfold L2.wipe
          simp only [List.mem_cons, not_or] at hu
          rw [ih hu.2, List.set_comm _ _ hu.1]
      rw [key vs hm]
      exact List.set_set ..
theorem wipe_idem (σ : L2.St) : ∀ vs : List Nat, L2.wipe (L2.wipe σ vs) vs = L2.wipe σ vs := by
  have key : ∀ (us vs : List Nat), (∀ u ∈ us, u ∈ vs) → L2.wipe (L2.wipe σ us) vs = L2.wipe σ vs := by
    intro us
    induction us with
    | nil => intro vs _; rfl
    | cons u us ih =>
      intro vs h
      show L2.wipe ((L2.wipe σ us).set u none) vs = _
      rw [wipe_set (h u (by simp)), ih vs fun w hw => h w (by simp [hw])]
  exact fun vs => key vs vs fun _ h => h
def gName (i : Nat) : MG := fun y σ h => match y with
  | .val t => .ok (σ.set i (some t)) h
  | .parts _ => .stuck
theorem dg_name {i : Nat} {x : Str} {vs : List Nat} (hN : X.N.Nodup) (hv : i ∈ vs := by decide) (hi : X.N[i]? = some x := by rfl) (hx : Loc X.env.scope x := by first | exact Or.inl rfl | exact Or.inr rfl) (hf : X.fn x = true ∨ X.env.scope.names.lookup x = some .local := by first | exact .inl rfl | exact .inr rfl) : DG X EO (.Name x pos) vs (gName i) := by
  refine ⟨(pg_name hN hi hx hf).of fun v σ H Q ⟨m, σt, th, y, sr, R, yr, h⟩ => ?_⟩
  cases y with
  | val t => exact Pn.done h R _ (sr.set i yr) (wipe_set hv)
  | parts ts => exact h.elim
/-- several targets -/
abbrev MGs := List T → Sl → TH → Res Sl
def gsNil : MGs := fun ts σ h => match ts with
  | [] => .ok σ h
  | _ => .stuck
def gsCons (g : MG) (r : MGs) : MGs := fun ts σ h => match ts with
  | t :: ts => (g (.val t) σ h).bind fun σ1 h1 => r ts σ1 h1
  | [] => .stuck
def tDGs (G : Gc) (EO : EOb) (vs : List Nat) (g : MGs) : TGs := fun xs σ H Q => ∃ m σt th ts, SR G.K m H σt σ ∧ Rel G m th H ∧ VRs G.K m H ts xs ∧ Pn G EO m H (g ts σt th) fun σt' th' m' H' => ∀ σ', SR G.K m' H' σt' σ' → L2.wipe σ' vs = L2.wipe σ vs → Q σ' H'
structure DGs (X : Cx) (EO : EOb) (tgs : List Expr) (vs : List Nat) (g : MGs) : Prop where
  pgs : PGs X tgs (tDGs (gc X) EO vs g)
variable {es : List Expr} {vs : List Nat} {g : MG} {gs : MGs}
theorem _root_.L2.PGs.of {X : Cx} {e : List Expr} {t t' : TGs} (h : PGs X e t) (f : ∀ v σ H Q, t' v σ H Q → t v σ H Q) : PGs X e t' := ⟨fun pins s σ H v u Q I r w => h.run pins s σ H v u Q I r (f v σ H Q w)⟩
theorem dgs_nil : DGs X EO [] vs gsNil := by
  refine ⟨pgs_nil.of fun xs σ H Q ⟨m, σt, th, ts, sr, R, r, h⟩ => ?_⟩
  unfold gsNil at h
  split at h
  · cases r; exact ⟨rfl, Pn.done h R σ sr rfl⟩
  · exact h.elim
theorem dgs_cons (h1 : DG X EO e vs g) (h2 : DGs X EO es vs gs) (hs : (assignEach (e :: es) X.env).map (·.2) = assign e X.env :: (assignEach es X.env).map (·.2) := by rfl) : DGs X EO (e :: es) vs (gsCons g gs) := by
  refine ⟨(pgs_cons h1.pg h2.pgs hs).of fun xs σ H Q ⟨m, σt, th, ts, sr, R, r, h⟩ => ?_⟩
  unfold gsCons at h
  split at h
  · rename_i t0 ts0
    cases r with
    | cons a b =>
    refine ⟨_, _, rfl, m, σt, th, .val t0, sr, R, a, h.bind.imp fun σt1 th1 m1 H1 x R1 h1 σ1 sr1 w1 => ⟨m1, σt1, th1, ts0, sr1, R1, b.mono x.pre x.kp, h1.imp fun σt2 th2 m2 H2 x2 R2 h2 σ2 sr2 w2 => h2 σ2 sr2 (w2.trans w1)⟩⟩
  · exact h.elim
def gTup (gs : MGs) : MG := fun y σ h => match y with
  | .val (.tup ts) => gs ts σ h
  | .val _ => .stuck
  | .parts ts => gs ts σ h
/-- how many items a row of targets takes: told by its first answer -/
theorem dg_tup {k n : Nat} (hc : X.calm = true) (h : DGs X EO es vs gs) (hl : ∀ ts σ h, ts.length ≠ n → gs ts σ h = .stuck) (hn : (assignEach es X.env).length = n := by rfl) (hst : (assignEach es X.env).findIdx? (·.1) = none := by rfl) : DG X EO (.Tuple es k pos) vs (gTup gs) := by
  refine ⟨(pg_tup (n := n) hc h.pgs hn hst).of fun v σ H Q ⟨m, σt, th, y, sr, R, yr, h⟩ => ?_⟩
  have go : ∀ {ts : List T} {a : Addr} {xs : List V}, SqT X.K H a xs → VRs X.K m H ts xs → v = .ref a → Pn (gc X) EO m H (gs ts σt th) (fun σt' th' m' H' => ∀ σ', SR X.K m' H' σt' σ' → L2.wipe σ' vs = L2.wipe σ vs → Q σ' H') → L2.gTup X.K n (tDGs (gc X) EO vs gs) v σ H Q := by
    intro ts a xs h1 h2 ev w
    subst ev
    have hlen : ts.length = n := by
      by_cases q : ts.length = n
      · exact q
      · rw [hl ts σt th q] at w; exact w.elim
    exact ⟨a, xs, rfl, h1, by rw [← h2.length]; exact hlen, m, σt, th, ts, sr, R, h2, w⟩
  unfold TL.gTup at h
  split at h
  · rename_i ts
    cases yr with
    | @tup _ a xs h1 h2 => exact go h1.t h2 rfl h
  · exact h.elim
  · rename_i ts
    obtain ⟨a, xs, ev, h1, h2⟩ := yr
    exact go h1 h2 ev h
theorem gs_len0 : ∀ (ts : List T) (σ : Sl) (h : TH), ts.length ≠ 0 → gsNil ts σ h = .stuck := by
  intro ts σ h hn
  cases ts with
  | nil => exact absurd rfl hn
  | cons _ _ => rfl
theorem gs_lenS {i n : Nat} {r : MGs} (hr : ∀ (ts : List T) (σ : Sl) (h : TH), ts.length ≠ n → r ts σ h = .stuck) : ∀ (ts : List T) (σ : Sl) (h : TH), ts.length ≠ n + 1 → gsCons (gName i) r ts σ h = .stuck := by
  intro ts σ h hn
  cases ts with
  | nil => rfl
  | cons t ts => exact hr ts _ h (fun e => hn (by simp [e]))
/-- target = value -/
def sAsg (e : ME) (g : MG) : MS := fun σ h => SRes.of (e σ h) fun t h1 => SRes.of (g (.val t) σ h1) fun σ2 h2 => .nx σ2 h2
theorem tAsg_of {G : Gc} (D : Ends) (σ : L2.St) (H : Hp) (w : tDS G EO (sAsg d g) D σ H) : tAsg (tD G EO d) (tDG G EO vs g) D σ H := by
  obtain ⟨m, σt, th, sr, R, h⟩ := w
  refine ⟨m, σt, th, sr, R, (PnS.of h).imp fun t th1 m1 H1 x R1 h1 v vr => ⟨m1, σt, th1, .val t, sr.mono x.pre x.kp, R1, vr, (PnS.of h1).imp fun σ2 th2 m2 H2 x2 R2 h2 σv sr2 _ => h2 m2 H2 σv (Ext.refl _ _) R2 sr2⟩⟩
theorem ds_asg {tg : Expr} (he : DE X EO e d) (hg : DG X EO tg vs g) (hs : swapsWithSole [tg] e pos.line X.env = pure false := by rfl) (hw : swappedStores [tg] e X.env = pure none := by rfl) (h1 : (assignEach [tg] X.env).map (·.2) = [assign tg X.env] := by rfl) :
    DS X EO (.Assign [tg] e pos) (sAsg d g) := ⟨(ps_asg he.pe hg.pg hs hw h1).of tAsg_of⟩
def sSet (i : Nat) (e : ME) : MS := fun σ h => SRes.of (e σ h) fun t h1 => .nx (σ.set i (some t)) h1
theorem ds_set {i : Nat} {x : Str} {pos' : Pos} (hN : X.N.Nodup) (he : DE X EO e d) (hi : X.N[i]? = some x := by rfl) (hx : Loc X.env.scope x := by first | exact Or.inl rfl | exact Or.inr rfl) (hs : swapsWith e (some (.Name x pos')) pos.line X.env = pure false := by rfl)
    (hf : X.fn x = true ∨ X.env.scope.names.lookup x = some .local := by first | exact .inl rfl | exact .inr rfl) : DS X EO (.Assign [.Name x pos'] e pos) (sSet i d) := by
  refine ⟨(ps_set hN hi hx he.pe hs hf).of fun D σ H ⟨m, σt, th, sr, R, h⟩ => ⟨m, σt, th, sr, R, (PnS.of h).imp fun t th1 m1 H1 x R1 h1 v vr => ?_⟩⟩
  exact h1 m1 H1 _ (Ext.refl _ _) R1 ((sr.mono x.pre x.kp).set i vr)
/-- a, b = x, y -/
def sPar (i j : Nat) (as : ML) : MS := fun σ h => SRes.of (as σ h) fun ts h1 => match ts with
  | [t, u] => .nx ((σ.set i (some t)).set j (some u)) h1
  | _ => .stuck
theorem ds_par {i j : Nat} {x y : Str} {a b : Expr} {da : ML} {px py pt : Pos} {kt k2 : Nat} {pt2 : Pos} (hc : X.calm = true) (hN : X.N.Nodup) (ha : DA X EO [a, b] da) (hi : X.N[i]? = some x := by rfl) (hj : X.N[j]? = some y := by rfl) (hij : i ≠ j := by decide)
    (hx : X.env.scope.names.lookup x = some .local := by rfl) (hy : X.env.scope.names.lookup y = some .local := by rfl)
    (hw : swappedStores [.Tuple [.Name x px, .Name y py] kt pt] (.Tuple [a, b] k2 pt2) X.env = pure (some [x, y]) := by rfl)
    (hs : swapsWithSole [.Tuple [.Name x px, .Name y py] kt pt] (.Tuple [a, b] k2 pt2) pos.line X.env = pure false := by rfl) :
    DS X EO (.Assign [.Tuple [.Name x px, .Name y py] kt pt] (.Tuple [a, b] k2 pt2) pos) (sPar i j da) := by
  refine ⟨(ps_par hc hN hi hj hij hx hy ha.pa hw hs).of fun D σ H ⟨m, σt, th, sr, R, h⟩ => ⟨m, σt, th, sr, R, (PnS.of h).imp fun ts th1 m1 H1 x R1 h1 vs vrs => ?_⟩⟩
  split at h1
  · cases vrs with
    | cons v1 r =>
    cases r with
    | cons v2 r =>
    cases r
    exact ⟨_, _, rfl, h1 m1 H1 _ (Ext.refl _ _) R1 (((sr.mono x.pre x.kp).set i v1).set j v2)⟩
  · exact h1.elim
/-- o[i] = v of a list -/
def fSetL (o i t : T) (h : TH) : Res Unit := match o, i with
  | .ref k, .int z => match h[k]? with
    | some (.lst ts) => match ixN ts.length z with
      | some j => .ok () (h.set k (.lst (ts.set j t)))
      | none => .stuck
    | _ => .stuck
  | _, _ => .stuck
def tDSet (G : Gc) (EO : EOb) (f : T → T → T → TH → Res Unit) : TSet := fun o i v H Q => ∃ m th to ti tv, Rel G m th H ∧ VR G.K m H to o ∧ VR G.K m H ti i ∧ VR G.K m H tv v ∧ Pn G EO m H (f to ti tv th) fun _ _ _ H' => Q H'
theorem set_L : PSet X (tDSet (gc X) EO fSetL) := by
  intro pins s σ H o i v ov iv u Q I ro ri rv ⟨m, th, to, ti, tv, R, vo, vi, vv, w⟩
  unfold fSetL at w
  split at w
  · rename_i k z
    split at w
    · rename_i ts hk
      split at w
      · rename_i j hj
        cases vo with
        | @ref _ a h1 =>
        cases vi
        obtain ⟨xs, h2, h3⟩ := R.at_ k a _ h1 hk
        have kp : Keep H (upd H a (.lst (xs.set j v))) := by
          obtain ⟨n1, n2, _⟩ := (R.at_ k a _ h1 hk).not
          exact keep_upd n1 n2 _
        obtain ⟨R2, x⟩ := R.store h1 hk (.lst (xs.set j v)) (o' := .lst (ts.set j tv)) ⟨_, upd_same, (h3.set j vv).mono (List.prefix_refl _) kp⟩
        exact set_list pins s σ H _ _ v ov iv u Q I ro ri rv ⟨a, xs, z, j, rfl, rfl, h2, by rw [← h3.length]; exact hj, w m _ x R2⟩
      · exact w.elim
    · exact w.elim
  · exact w.elim
def gSub (f : T → T → T → TH → Res Unit) (o i : ME) : MG := fun y σ h => match y with
  | .val t => (o σ h).bind fun to h1 => (i σ h1).bind fun ti h2 => (f to ti t h2).bind fun _ h3 => .ok σ h3
  | .parts _ => .stuck
theorem dg_sub {o i : Expr} {dO dI : ME} {f : T → T → T → TH → Res Unit} (hf : PSet X (tDSet (gc X) EO f)) (ho : DE X EO o dO) (hi : DE X EO i dI)
    (ha : ∀ v, assign (.Subscript o i pos) X.env v = (do
      let ov ← holding [v] (eval o X.env)
      let iv ← holding [v, ov] (eval i X.env)
      standAt pos
      holding [v, ov, iv] (setItem ov iv v)
      release [v, ov, iv] []) := by intro _; rfl) : DG X EO (.Subscript o i pos) vs (gSub f dO dI) := by
  refine ⟨(pg_sub ho.pe hi.pe hf ha).of fun v σ H Q ⟨m, σt, th, y, sr, R, yr, h⟩ => ?_⟩
  cases y with
  | parts ts => exact h.elim
  | val t =>
    have yr : VR X.K m H t v := yr
    refine ⟨m, σt, th, sr, R, (Pn.bind h).imp fun to th1 m1 H1 x R1 h1 vo ro => ⟨m1, σt, th1, sr.mono x.pre x.kp, R1, h1.bind.imp fun ti th2 m2 H2 x2 R2 h2 vi ri =>
      ⟨m2, th2, to, ti, t, R2, ro.mono x2.pre x2.kp, ri, (yr.mono x.pre x.kp).mono x2.pre x2.kp, h2.bind.imp fun _ th3 m3 H3 x3 R3 h3 => ?_⟩⟩⟩
    have x13 := (x.trans x2).trans x3
    exact Pn.done h3 R3 σ (sr.mono x13.pre x13.kp) rfl
/-- name op= e -/
def sAug (f : Op2) (i : Nat) (e : ME) : MS := fun σ h => match σ[i]? with
  | some (some t) => SRes.of (e σ h) fun u h1 => SRes.of (f t u h1) fun z h2 => .nx (σ.set i (some z)) h2
  | _ => .stuck
theorem ds_aug {i : Nat} {x : Str} {op : Operator} {f : Op2} {pos' : Pos} (hN : X.N.Nodup) (ho : OpF X EO (inplaceOp op) f) (he : DE X EO e d) (hi : X.N[i]? = some x := by rfl) (hx : Loc X.env.scope x := by first | exact Or.inl rfl | exact Or.inr rfl)
    (hf : X.fn x = true ∨ X.env.scope.names.lookup x = some .local := by first | exact .inl rfl | exact .inr rfl) : DS X EO (.AugAssign (.Name x pos') op e pos) (sAug f i d) := by
  have hp : PIp X op (rT (gc X) EO f) := fun pins s σ H x y v u Q I r1 r2 h => ho pins s σ H x y v u Q I r1 r2 h
  refine ⟨(ps_aug hN hi hx he.pe hp hf).of fun D σ H ⟨m, σt, th, sr, R, h⟩ => ?_⟩
  unfold sAug at h
  split at h
  · rename_i t et
    obtain ⟨v, ev, vr⟩ := sr.get et
    refine ⟨v, ev, m, σt, th, sr, R, (PnS.of h).imp fun u th1 m1 H1 x R1 h1 w wr => ⟨m1, th1, t, u, R1, vr.mono x.pre x.kp, wr, (PnS.of h1).imp fun z th2 m2 H2 x2 R2 h2 zv zr => ?_⟩⟩
    exact h2 m2 H2 _ (Ext.refl _ _) R2 (((sr.mono x.pre x.kp).mono x2.pre x2.kp).set i zr)
  · exact h.elim
def fIAdd : Op2 := fun x y h => match x, y with
  | .int i, .int j => .ok (.int (i + j)) h
  | _, _ => .stuck
theorem of_iadd : OpF X EO (inplaceOp .Add) fIAdd := of_int (OpR.noC iop_add) fun a b h r e => by
  subst e; unfold fIAdd; split
  · exact .inr ⟨_, _, rfl, rfl, trivial, rfl⟩
  · exact .inl rfl
theorem of_isub : OpF X EO (inplaceOp .Sub) fSub := of_int (OpR.noC iop_sub) fun a b h r e => by
  subst e; unfold fSub; split
  · exact .inr ⟨_, _, rfl, rfl, trivial, rfl⟩
  · exact .inl rfl

/-! ### while -/
def FU : Nat := 1000000000000
def whN (c : MB) (b : MS) : Nat → MS
  | 0, _, _ => .stuck
  | n + 1, σ, h => SRes.of (c σ h) fun k h1 => if k = true then (match b σ h1 with
      | .nx σ2 h2 => whN c b n σ2 h2
      | .ct σ2 h2 => whN c b n σ2 h2
      | .bk σ2 h2 => .nx σ2 h2
      | r => r) else .nx σ h1
def sWhile (c : MB) (b : MS) : MS := whN c b FU
/-- behind a turn of a loop -/
theorem PnS.turn {G : Gc} {m : List Addr} {H : Hp} {r : SRes} {f : Sl → TH → SRes} {D : Ends} {N : L2.St → Hp → Prop} (h : PnS G EO m H (match r with
      | .nx σ2 h2 => f σ2 h2
      | .ct σ2 h2 => f σ2 h2
      | .bk σ2 h2 => .nx σ2 h2
      | r => r) D) (hN : ∀ m1 H1 σt th σ, Ext m H m1 H1 → Rel G m1 th H1 → SR G.K m1 H1 σt σ → PnS G EO m1 H1 (f σt th) D → N σ H1) : PnS G EO m H r { D with nx := N, ct := N, bk := D.nx } := by
  cases r with
  | nx σt th => exact fun m1 H1 σ x R q => hN m1 H1 σt th σ x R q (PnS.ext h x)
  | ct σt th => exact fun m1 H1 σ x R q => hN m1 H1 σt th σ x R q (PnS.ext h x)
  | bk σt th => exact h
  | rt => exact h
  | exc => exact h
  | stuck => exact h
theorem ds_while {c : Expr} {body : List Stmt} {tc : MB} {tb : MS} (hp : PassesOwn (model X.prog X.w) X.A X.env X.xe) (hc : DT X EO c tc) (hb : DSs X EO body tb) : DS X EO (.While c body [] pos) (sWhile tc tb) := by
  refine ⟨(ps_while hp hc.pt hb.pss).of fun D σ H ⟨m, σt, th, sr, R, h⟩ => ?_⟩
  refine ⟨fun n σ H => ∃ m σt th, SR X.K m H σt σ ∧ Rel (gc X) m th H ∧ PnS (gc X) EO m H (whN tc tb n σt th) D, ⟨FU, m, σt, th, sr, R, h⟩, ?_⟩
  rintro n σ H ⟨m, σt, th, sr, R, h⟩
  cases n with
  | zero => exact h.elim
  | succ n =>
    refine ⟨m, σt, th, sr, R, (PnS.of h).imp fun k th1 m1 H1 x R1 h1 => ?_⟩
    cases k with
    | false => exact iteF (h1 m1 H1 σ (Ext.refl _ _) R1 (sr.mono x.pre x.kp))
    | true =>
      refine iteT ⟨fun σ' H' => ∃ m σt th, SR X.K m H' σt σ' ∧ Rel (gc X) m th H' ∧ PnS (gc X) EO m H' (whN tc tb n σt th) D, fun σ' H' w => ⟨n, Nat.lt_succ_self _, w⟩, m1, σt, th1, sr.mono x.pre x.kp, R1, ?_⟩
      exact PnS.turn h1 fun m2 H2 σt2 th2 σ2 x2 R2 q w => ⟨m2, σt2, th2, q, R2, w⟩

/-! ### what is walked -/
abbrev MIt := Nat → TH → Option (Option Yv)
abbrev MI := Sl → TH → Res MIt
def ItR (G : Gc) (m0 : List Addr) (H0 : Hp) (J : MIt) (Jv : L2.It) : Prop := ∀ (i : Nat) (m : List Addr) (th : TH) (H : Hp), Ext m0 H0 m H → Rel G m th H → match J i th with
  | none => True
  | some none => Jv.stop i H
  | some (some y) => Jv.go i H ∧ ∀ x H', Jv.yld i H x H' → Ext m H m H' ∧ Rel G m th H' ∧ YR G.K m H' y x
def tDI (G : Gc) (EO : EOb) (d : MI) : TI := fun σ H R => ∃ m σt th, SR G.K m H σt σ ∧ Rel G m th H ∧ Pn G EO m H (d σt th) fun J th' m' H' => ∀ Jv, ItR G m' H' J Jv → R Jv H'
structure DI (X : Cx) (EO : EOb) (tg iter : Expr) (d : MI) : Prop where
  pi : PI X tg iter (tDI (gc X) EO d)
theorem _root_.L2.PI.of {X : Cx} {tg e : Expr} {t t' : TI} (h : PI X tg e t) (f : ∀ σ H Q, t' σ H Q → t σ H Q) : PI X tg e t' := ⟨fun pins s σ H R I w => h.run pins s σ H R I (f σ H R w)⟩
/-- the items of a list (as it stands at each turn), of a tuple, the signs of a text -/
def itSeq (t : T) (h0 : TH) : Option MIt := match t with
  | .tup ts => some fun i _ => some ((ts[i]?).map Yv.val)
  | .scr ns => some fun i _ => some ((ns[i]?).map fun n => Yv.val (.int n))
  | .str z => some fun i _ => some ((z.cps[i]?).map fun c => Yv.val (.str ⟨#[c]⟩))
  | .ref k => match h0[k]? with
    | some (.lst _) => some fun i h => match h[k]? with
      | some (.lst ts) => some ((ts[i]?).map Yv.val)
      | _ => none
    | _ => none
  | _ => none
def iSeq (e : ME) : MI := fun σ h => (e σ h).bind fun t h1 => match itSeq t h1 with
  | some J => .ok J h1
  | none => .stuck
theorem itl_R {G : Gc} {m0 : List Addr} {H0 : Hp} {k : Nat} {a : Addr} (hm : m0[k]? = some a) : ItR G m0 H0 (fun i h => match h[k]? with
    | some (.lst ts) => some ((ts[i]?).map Yv.val)
    | _ => none) (Itl G.K a) := by
  intro i m th H x R
  dsimp only
  split
  · trivial
  · rename_i e1
    split at e1
    · rename_i ts hk
      obtain ⟨xs, h2, h3⟩ := R.at_ k a _ (pre_get x.pre hm) hk
      refine ⟨xs, .of h2, ?_⟩
      have e2 : ts[i]? = none := by simpa using e1
      rw [← h3.length]
      exact List.getElem?_eq_none_iff.mp e2
    · cases e1
  · rename_i y e1
    split at e1
    · rename_i ts hk
      obtain ⟨xs, h2, h3⟩ := R.at_ k a _ (pre_get x.pre hm) hk
      cases et : ts[i]? with
      | none => rw [et] at e1; simp at e1
      | some t =>
        rw [et] at e1
        have ey : y = .val t := by simpa using e1.symm
        subst ey
        obtain ⟨v, hv, vr⟩ := h3.get et
        refine ⟨⟨xs, v, .of h2, hv⟩, fun x' H' ⟨e, hx⟩ => ?_⟩
        subst e
        have := hx xs (.of h2)
        rw [hv] at this; cases this
        exact ⟨Ext.refl _ _, R, vr⟩
    · cases e1
theorem itt_R {G : Gc} {m0 : List Addr} {H0 : Hp} {ts : List T} {a : Addr} {xs : List V} (h1 : TpS G.K H0 a xs) (h2 : VRs G.K m0 H0 ts xs) : ItR G m0 H0 (fun i _ => some ((ts[i]?).map Yv.val)) (Itt G.K a) := by
  intro i m th H x R
  dsimp only
  have h3 := h2.mono x.pre x.kp
  have h4 := h1.keep x.kp
  split
  · trivial
  · rename_i e1
    have e2 : ts[i]? = none := by simpa using e1
    exact ⟨xs, h4.t, by rw [← h3.length]; exact List.getElem?_eq_none_iff.mp e2⟩
  · rename_i y e1
    cases et : ts[i]? with
    | none => rw [et] at e1; simp at e1
    | some t =>
      rw [et] at e1
      have ey : y = .val t := by simpa using e1.symm
      subst ey
      obtain ⟨v, hv, vr⟩ := h3.get et
      refine ⟨⟨xs, v, h4.t, hv⟩, fun x' H' ⟨e, hx⟩ => ?_⟩
      subst e
      have := hx xs h4.t
      rw [hv] at this; cases this
      exact ⟨Ext.refl _ _, R, vr⟩
theorem its_R {G : Gc} {m0 : List Addr} {H0 : Hp} {z : Str} : ItR G m0 H0 (fun i _ => some ((z.cps[i]?).map fun c => Yv.val (.str ⟨#[c]⟩))) (Its z) := by
  intro i m th H x R
  dsimp only
  split
  · trivial
  · rename_i e1
    have e2 : z.cps[i]? = none := by simpa using e1
    exact Array.getElem?_eq_none_iff.mp e2
  · rename_i y e1
    cases et : z.cps[i]? with
    | none => rw [et] at e1; simp at e1
    | some c =>
      rw [et] at e1
      have ey : y = .val (.str ⟨#[c]⟩) := by simpa using e1.symm
      subst ey
      refine ⟨(Array.getElem?_eq_some_iff.mp et).1, fun x' H' ⟨e, c', hc, hx⟩ => ?_⟩
      subst e hx
      rw [et] at hc; cases hc
      exact ⟨Ext.refl _ _, R, .str _⟩
theorem itc_R {G : Gc} {m0 : List Addr} {H0 : Hp} {ns : List Int} {a : Addr} (h1 : SqS G.K H0 a (ns.map V.int)) : ItR G m0 H0 (fun i _ => some ((ns[i]?).map fun n => Yv.val (.int n))) (Itl G.K a) := by
  intro i m th H x R
  dsimp only
  have h4 := (h1.keep x.kp).l
  split
  · trivial
  · rename_i e1
    have e2 : ns[i]? = none := by simpa using e1
    exact ⟨_, h4, by simpa using e2⟩
  · rename_i y e1
    cases et : ns[i]? with
    | none => rw [et] at e1; simp at e1
    | some n =>
      rw [et] at e1
      have ey : y = .val (.int n) := by simpa using e1.symm
      subst ey
      refine ⟨⟨_, .int n, h4, by simp [et]⟩, fun x' H' ⟨e, hx⟩ => ?_⟩
      subst e
      have := hx _ h4
      simp [et] at this
      subst this
      exact ⟨Ext.refl _ _, R, .int n⟩
end
end TL

/-! T-layer, part F: iterators, for, list comprehensions. -/
namespace TL
open PySem PySem.Spec PyProof.Rows L2
section
variable {X : Cx} {EO : EOb} {pos : Pos} {e tg : Expr} {d : ME}

/-! ### iterators -/
/-- a list, a tuple, a text, the script -/
theorem di_seq (h : DE X EO e d) : DI X EO tg e (iSeq d) := by
  refine ⟨⟨fun pins s σ H R I ⟨m, σt, th, sr, Rl, hq⟩ => ?_⟩⟩
  refine thn (h.pe.run pins s σ H (fun v H1 => ∃ m1 th1 t, Rel (gc X) m1 th1 H1 ∧ VR X.K m1 H1 t v ∧ Pn (gc X) EO m1 H1 (match itSeq t th1 with | some J => .ok J th1 | none => .stuck) fun J _ m' H' => ∀ Jv, ItR (gc X) m' H' J Jv → R Jv H') I
    ⟨m, σt, th, sr, Rl, hq.bind.imp fun t th1 m1 H1 x R1 h1 v vr => ⟨m1, th1, t, R1, vr, h1⟩⟩) fun v s1 ⟨y, H1, I1, r1, m1, th1, t, R1, vr, w⟩ => ?_
  cases vr with
  | non => exact w.elim
  | bl b => exact w.elim
  | int i => exact w.elim
  | str x =>
    have w := Pn.done w R1 (Its x) its_R
    obtain ⟨t, rfl⟩ := r1
    cases ha : x.cps.all (· < 128)
    · exact wpAny_pyIter_wide ha (pi_one (tk := s1.toks) I1 _ (turn_str _ x t "str_iterator" (.inr rfl)) ⟨_, Heap.get?_push_size _ rfl, rfl, rfl⟩ w)
    · exact wpAny_pyIter_ascii ha (pi_one (tk := s1.toks) I1 _ (turn_str _ x t "str_ascii_iterator" (.inl rfl)) ⟨_, Heap.get?_push_size _ rfl, rfl, rfl⟩ w)
  | @tup ts a xs h1 h2 =>
    have w := Pn.done w R1 (Itt X.K a) (itt_R h1 h2)
    cases r1
    obtain ⟨its, rv, p, hz⟩ := I1.tuple h1.t
    exact wpAny_pyIter_tuple (show s1.heap.IsTuple a its.toArray from p) (pi_one (tk := s1.toks) I1 _ (turn_tuple a _) ⟨_, Heap.get?_push_size _ rfl, rfl, rfl⟩ w)
  | @ref n a hm =>
    cases ho : th1[n]? with
    | none => exact (by simp only [itSeq, ho] at w; exact w.elim)
    | some o =>
      cases o with
      | lst ts =>
        simp only [itSeq, ho] at w
        have w := Pn.done w R1 (Itl X.K a) (itl_R hm)
        obtain ⟨xs, h2, h3⟩ := R1.at_ n a _ hm ho
        cases r1
        obtain ⟨its, rv, p, hz⟩ := I1.list (.of h2)
        exact wpAny_pyIter_list p.isList (pi_one (tk := s1.toks) I1 _ (turn_list a _) ⟨_, Heap.get?_push_size _ rfl, rfl, rfl⟩ w)
      | _ => simp only [itSeq, ho] at w; exact w.elim
  | @scr ns a h1 =>
    have w := Pn.done w R1 (Itl X.K a) (itc_R h1)
    cases r1
    obtain ⟨its, rv, p, hz⟩ := I1.list h1.l
    exact wpAny_pyIter_list p.isList (pi_one (tk := s1.toks) I1 _ (turn_list a _) ⟨_, Heap.get?_push_size _ rfl, rfl, rfl⟩ w)
def iZip (as : ML) : MI := fun σ h => (as σ h).bind fun ts h1 => match ts with
  | [.tup xs, .tup ys] => .ok (fun i _ => some (match xs[i]?, ys[i]? with
    | some x, some y => some (.parts [x, y])
    | _, _ => none)) h1
  | [.ref j, .ref k] => match h1[j]?, h1[k]? with
    | some (.lst _), some (.lst _) => .ok (fun i h => match h[j]?, h[k]? with
      | some (.lst xs), some (.lst ys) => some (match xs[i]?, ys[i]? with
        | some x, some y => some (.parts [x, y])
        | _, _ => none)
      | _, _ => none) h1
    | _, _ => .stuck
  | _ => .stuck
/-- a new row laid -/
theorem parts_new {G : Gc} {m : List Addr} {th : TH} {H : Hp} {p : Addr} {xs : List V} {ts : List T} (R : Rel G m th H) (hp : H p = none) (r : VRs G.K m H ts xs) :
    Ext m H m (upd H p (.tup xs)) ∧ Rel G m th (upd H p (.tup xs)) ∧ YR G.K m (upd H p (.tup xs)) (.parts ts) (.ref p) := by
  obtain ⟨R2, x⟩ := R.aside hp (.tup xs)
  exact ⟨x, R2, p, xs, rfl, .inl (.inl upd_same), r.mono x.pre x.kp⟩
theorem itzT_R {G : Gc} {m0 : List Addr} {H0 : Hp} {ts us : List T} {a b : Addr} {xs ys : List V} (h1 : TpS G.K H0 a xs) (h2 : VRs G.K m0 H0 ts xs) (k1 : TpS G.K H0 b ys) (k2 : VRs G.K m0 H0 us ys) :
    ItR G m0 H0 (fun i _ => some (match ts[i]?, us[i]? with
    | some x, some y => some (.parts [x, y])
    | _, _ => none)) (RZ.ItzT G.K a b) := by
  intro i m th H x R
  dsimp only
  have h3 := h2.mono x.pre x.kp
  have h4 := h1.keep x.kp
  have k3 := k2.mono x.pre x.kp
  have k4 := k1.keep x.kp
  cases e1 : ts[i]? with
  | none => exact ⟨xs, ys, h4.t, k4.t, .inl (by rw [← h3.length]; exact List.getElem?_eq_none_iff.mp e1)⟩
  | some t =>
    cases e2 : us[i]? with
    | none => exact ⟨xs, ys, h4.t, k4.t, .inr (by rw [← k3.length]; exact List.getElem?_eq_none_iff.mp e2)⟩
    | some u =>
      obtain ⟨v, hv, vr⟩ := h3.get e1
      obtain ⟨v', hv', vr'⟩ := k3.get e2
      refine ⟨⟨xs, ys, v, v', h4.t, k4.t, hv, hv'⟩, ?_⟩
      rintro x' H' ⟨p, z, z', e, hp, eH, hz, hz'⟩
      subst e eH
      have q := hz xs h4.t
      rw [hv] at q; cases q
      have q := hz' ys k4.t
      rw [hv'] at q; cases q
      exact parts_new R hp (.cons vr (.cons vr' .nil))
theorem itzL_R {G : Gc} {m0 : List Addr} {H0 : Hp} {j k : Nat} {a b : Addr} (h1 : m0[j]? = some a) (k1 : m0[k]? = some b) :
    ItR G m0 H0 (fun i h => match h[j]?, h[k]? with
      | some (.lst xs), some (.lst ys) => some (match xs[i]?, ys[i]? with
        | some x, some y => some (.parts [x, y])
        | _, _ => none)
      | _, _ => none) (Itz G.K a b) := by
  intro i m th H x R
  dsimp only
  split
  · trivial
  · rename_i e1
    split at e1
    · rename_i ts us ht hu
      obtain ⟨xs, h2, h3⟩ := R.at_ j a _ (pre_get x.pre h1) ht
      obtain ⟨ys, k2, k3⟩ := R.at_ k b _ (pre_get x.pre k1) hu
      refine ⟨xs, ys, .of h2, .of k2, ?_⟩
      have e1 := Option.some.inj e1
      cases e2 : ts[i]? with
      | none => exact .inl (by rw [← h3.length]; exact List.getElem?_eq_none_iff.mp e2)
      | some t =>
        cases e3 : us[i]? with
        | none => exact .inr (by rw [← k3.length]; exact List.getElem?_eq_none_iff.mp e3)
        | some u => rw [e2, e3] at e1; cases e1
    · cases e1
  · rename_i y e1
    split at e1
    · rename_i ts us ht hu
      obtain ⟨xs, h2, h3⟩ := R.at_ j a _ (pre_get x.pre h1) ht
      obtain ⟨ys, k2, k3⟩ := R.at_ k b _ (pre_get x.pre k1) hu
      have e1 := Option.some.inj e1
      cases e2 : ts[i]? with
      | none => rw [e2] at e1; cases e1
      | some t =>
        cases e3 : us[i]? with
        | none => rw [e2, e3] at e1; cases e1
        | some u =>
          rw [e2, e3] at e1
          have e1 := Option.some.inj e1
          subst e1
          obtain ⟨v, hv, vr⟩ := h3.get e2
          obtain ⟨v', hv', vr'⟩ := k3.get e3
          refine ⟨⟨xs, ys, v, v', .of h2, .of k2, hv, hv'⟩, ?_⟩
          rintro x' H' ⟨p, z, z', e, hp, eH, hz, hz'⟩
          subst e eH
          have q := hz xs (.of h2)
          rw [hv] at q; cases q
          have q := hz' ys (.of k2)
          rw [hv'] at q; cases q
          exact parts_new R hp (.cons vr (.cons vr' .nil))
    · cases e1
theorem di_zip {e e2 : Expr} {da : ML} {p tpos : Pos} {elts : List Expr} {kk : Nat} (hm : X.mg "zip" = none) (ha : DA X EO [e, e2] da) (hg : Gl X "zip" := by rfl)
    (hs : starEach [e, e2] X.env = (false, eval e X.env) :: starEach [e2] X.env := by rfl) (hpl : (backTo pos (starEach [e2] X.env)).any (·.1) = false := by rfl) :
    DI X EO (.Tuple elts kk tpos) (.Call (.Name "zip" p) [e, e2] [] pos) (iZip da) := by
  refine ⟨(RZ.pi_zipA hg hm ha.pa hs hpl).of fun σ H Q ⟨m, σt, th, sr, R, h⟩ => ⟨m, σt, th, sr, R, h.bind.imp fun ts th1 m1 H1 x R1 h1 vs vrs => ?_⟩⟩
  split at h1
  · cases vrs with
    | cons r1 rr =>
    cases rr with
    | cons r2 rr =>
    cases rr
    cases r1 with
    | tup a1 a2 =>
    cases r2 with
    | tup b1 b2 => exact ⟨_, _, _, _, rfl, .inr ⟨a1.t, b1.t, Pn.done h1 R1 _ (itzT_R a1 a2 b1 b2)⟩⟩
  · rename_i j k
    split at h1
    · rename_i ts us ht hu
      cases vrs with
      | cons r1 rr =>
      cases rr with
      | cons r2 rr =>
      cases rr
      cases r1 with
      | ref a1 =>
      cases r2 with
      | ref b1 =>
        obtain ⟨xs, h2, h3⟩ := R1.at_ j _ _ a1 ht
        obtain ⟨ys, k2, k3⟩ := R1.at_ k _ _ b1 hu
        exact ⟨_, _, _, _, rfl, .inl ⟨.of h2, .of k2, Pn.done h1 R1 _ (itzL_R a1 b1)⟩⟩
    · exact h1.elim
  · exact h1.elim
def iEnm (as : ML) : MI := fun σ h => (as σ h).bind fun ts h1 => match ts with
  | [.ref j] => match h1[j]? with
    | some (.lst _) => .ok (fun i h => match h[j]? with
      | some (.lst xs) => some (match xs[i]? with
        | some x => some (.parts [.int (i : Nat), x])
        | none => none)
      | _ => none) h1
    | _ => .stuck
  | _ => .stuck
theorem ite_R {G : Gc} {m0 : List Addr} {H0 : Hp} {j : Nat} {a : Addr} (h1 : m0[j]? = some a) :
    ItR G m0 H0 (fun i h => match h[j]? with
      | some (.lst xs) => some (match xs[i]? with
        | some x => some (.parts [.int (i : Nat), x])
        | none => none)
      | _ => none) (Ite G.K a) := by
  intro i m th H x R
  dsimp only
  split
  · trivial
  · rename_i e1
    split at e1
    · rename_i ts ht
      obtain ⟨xs, h2, h3⟩ := R.at_ j a _ (pre_get x.pre h1) ht
      refine ⟨xs, .of h2, ?_⟩
      have e1 := Option.some.inj e1
      cases e2 : ts[i]? with
      | none => rw [← h3.length]; exact List.getElem?_eq_none_iff.mp e2
      | some t => rw [e2] at e1; cases e1
    · cases e1
  · rename_i y e1
    split at e1
    · rename_i ts ht
      obtain ⟨xs, h2, h3⟩ := R.at_ j a _ (pre_get x.pre h1) ht
      have e1 := Option.some.inj e1
      cases e2 : ts[i]? with
      | none => rw [e2] at e1; cases e1
      | some t =>
        rw [e2] at e1
        have e1 := Option.some.inj e1
        subst e1
        obtain ⟨v, hv, vr⟩ := h3.get e2
        refine ⟨⟨xs, v, .of h2, hv⟩, ?_⟩
        rintro x' H' ⟨p, z, e, hp, eH, hz⟩
        subst e eH
        have q := hz xs (.of h2)
        rw [hv] at q; cases q
        exact parts_new R hp (.cons (.int _) (.cons vr .nil))
    · cases e1
theorem di_enum {da : ML} {p tpos : Pos} {elts : List Expr} {kk : Nat} (hm : X.mg "enumerate" = none) (ha : DA X EO [e] da) (hg : Gl X "enumerate" := by rfl) (hs : starEach [e] X.env = [(false, eval e X.env)] := by rfl) :
    DI X EO (.Tuple elts kk tpos) (.Call (.Name "enumerate" p) [e] [] pos) (iEnm da) := by
  refine ⟨(pi_enum hg hm ha.pa hs).of fun σ H Q ⟨m, σt, th, sr, R, h⟩ => ⟨m, σt, th, sr, R, h.bind.imp fun ts th1 m1 H1 x R1 h1 vs vrs => ?_⟩⟩
  split at h1
  · rename_i j
    split at h1
    · rename_i ts ht
      cases vrs with
      | cons r1 rr =>
      cases rr
      cases r1 with
      | ref a1 =>
        obtain ⟨xs, h2, h3⟩ := R1.at_ j _ _ a1 ht
        exact ⟨_, _, rfl, .of h2, Pn.done h1 R1 _ (ite_R a1)⟩
    · exact h1.elim
  · exact h1.elim
/-- range -/
def itRng (lo : Int) (n : Nat) : MIt := fun i _ => some (if i < n then some (.val (.int (lo + (i : Nat)))) else none)
def iR1 (as : ML) : MI := fun σ h => (as σ h).bind fun ts h1 => match ts with
  | [.int j] => if -(2 ^ 62) ≤ j ∧ j < 2 ^ 62 then .ok (itRng 0 j.toNat) h1 else .stuck
  | _ => .stuck
def iR2 (as : ML) : MI := fun σ h => (as σ h).bind fun ts h1 => match ts with
  | [.int i, .int j] => if -(2 ^ 62) ≤ i ∧ i < 2 ^ 62 ∧ -(2 ^ 62) ≤ j ∧ j < 2 ^ 62 then .ok (itRng i (j - i).toNat) h1 else .stuck
  | _ => .stuck
theorem itr_R {G : Gc} {m0 : List Addr} {H0 : Hp} {lo : Int} {n : Nat} : ItR G m0 H0 (itRng lo n) (Itr lo n) := by
  intro i m th H x R
  unfold itRng
  by_cases h : i < n
  · rw [if_pos h]
    refine ⟨h, ?_⟩
    rintro x' H' ⟨e, e'⟩
    subst e e'
    exact ⟨Ext.refl _ _, R, .int _⟩
  · rw [if_neg h]
    exact Nat.le_of_not_lt h
theorem di_rng1 {da : ML} {p : Pos} (hm : X.mg "range" = none) (ha : DA X EO [e] da) (hg : Gl X "range" := by rfl) (hs : starEach [e] X.env = [(false, eval e X.env)] := by rfl) : DI X EO tg (.Call (.Name "range" p) [e] [] pos) (iR1 da) := by
  refine ⟨(pi_range1 hg hm ha.pa hs).of fun σ H Q ⟨m, σt, th, sr, R, h⟩ => ⟨m, σt, th, sr, R, h.bind.imp fun ts th1 m1 H1 x R1 h1 vs vrs => ?_⟩⟩
  split at h1
  · split at h1
    · rename_i hj
      cases vrs with
      | cons r1 rr =>
      cases rr
      cases r1
      exact ⟨_, rfl, hj.1, hj.2, Pn.done h1 R1 _ itr_R⟩
    · exact h1.elim
  · exact h1.elim
theorem di_rng2 {e2 : Expr} {da : ML} {p : Pos} (hm : X.mg "range" = none) (ha : DA X EO [e, e2] da) (hg : Gl X "range" := by rfl) (hs : starEach [e, e2] X.env = [(false, eval e X.env), (false, eval e2 X.env)] := by rfl) (hs2 : starEach [e2] X.env = [(false, eval e2 X.env)] := by rfl) : DI X EO tg (.Call (.Name "range" p) [e, e2] [] pos) (iR2 da) := by
  refine ⟨(pi_range2 hg hm ha.pa hs hs2).of fun σ H Q ⟨m, σt, th, sr, R, h⟩ => ⟨m, σt, th, sr, R, h.bind.imp fun ts th1 m1 H1 x R1 h1 vs vrs => ?_⟩⟩
  split at h1
  · split at h1
    · rename_i hj
      cases vrs with
      | cons r1 rr =>
      cases rr with
      | cons r2 rr =>
      cases rr
      cases r1
      cases r2
      exact ⟨_, _, rfl, hj, Pn.done h1 R1 _ itr_R⟩
    · exact h1.elim
  · exact h1.elim

/-! ### for -/
def forN (J : MIt) (g : MG) (b : MS) : Nat → Nat → Sl → TH → SRes
  | 0, _, _, _ => .stuck
  | n + 1, i, σ, h => match J i h with
    | none => .stuck
    | some none => .nx σ h
    | some (some y) => SRes.of (g y σ h) fun σ1 h1 => match b σ1 h1 with
      | .nx σ2 h2 => forN J g b n (i + 1) σ2 h2
      | .ct σ2 h2 => forN J g b n (i + 1) σ2 h2
      | .bk σ2 h2 => .nx σ2 h2
      | r => r
def sFor (it : MI) (g : MG) (b : MS) : MS := fun σ h => SRes.of (it σ h) fun J h1 => forN J g b FU 0 σ h1
theorem ds_for {iter : Expr} {body : List Stmt} {di : MI} {vs : List Nat} {g : MG} {db : MS} (hp : PassesOwn (model X.prog X.w) X.A X.env X.xe) (hc : X.calm = true) (hi : DI X EO tg iter di) (hg : DG X EO tg vs g) (hb : DSs X EO body db)
    (hs : ∀ x, foldedSetIterable iter X.env x = pure x := by intro _; rfl) : DS X EO (.For tg iter body [] pos) (sFor di g db) := by
  refine ⟨(ps_for hp hc hi.pi hg.pg hb.pss hs).of fun D σ H ⟨m, σt, th, sr, R, h⟩ => ⟨m, σt, th, sr, R, (PnS.of h).imp fun J th1 m1 H1 x R1 h1 Jv hJ => ?_⟩⟩
  refine ⟨fun i n σ H => ∃ m σt th, Ext m1 H1 m H ∧ SR X.K m H σt σ ∧ Rel (gc X) m th H ∧ PnS (gc X) EO m H (forN J g db n i σt th) D, ⟨FU, m1, σt, th1, Ext.refl _ _, sr.mono x.pre x.kp, R1, h1⟩, ?_⟩
  rintro i n σ H ⟨m2, σt2, th2, x2, sr2, R2, h2⟩
  cases n with
  | zero => exact h2.elim
  | succ n =>
    have q := hJ i m2 th2 H x2 R2
    unfold forN at h2
    split at h2
    · exact h2.elim
    · rename_i e1
      rw [e1] at q
      exact .inl ⟨q, h2 m2 H σ (Ext.refl _ _) R2 sr2⟩
    · rename_i y e1
      rw [e1] at q
      refine .inr ⟨q.1, fun σ' H' => ∃ m σt th, Ext m1 H1 m H' ∧ SR X.K m H' σt σ' ∧ Rel (gc X) m th H' ∧ PnS (gc X) EO m H' (forN J g db n (i + 1) σt th) D, fun σ' H' w => ⟨n, Nat.lt_succ_self _, w⟩, fun x' H' hy => ?_⟩
      obtain ⟨x3, R3, yr⟩ := q.2 x' H' hy
      refine ⟨m2, σt2, th2, y, sr2.mono x3.pre x3.kp, R3, yr, (PnS.of (PnS.ext h2 x3)).imp fun σt4 th4 m4 H4 x4 R4 h4 σ4 sr4 _ => ⟨m4, σt4, th4, sr4, R4, ?_⟩⟩
      exact PnS.turn h4 fun m5 H5 σt5 th5 σ5 x5 R5 sr5 w => ⟨m5, σt5, th5, ((x2.trans x3).trans x4).trans x5, sr5, R5, w⟩

/-! ### list comprehensions -/
theorem Ext.own {m m1 : List Addr} {H H1 : Hp} {p : Addr} (x : Ext m1 H1 m H) (hp : H1 p = none) (u : HO) : Ext m1 H1 m (upd H p u) := by
  have ne : ∀ {a : Addr} {o : HO}, H1 a = some o → a ≠ p := fun h e => by rw [e, hp] at h; cases h
  refine ⟨x.pre, x.new, fun a o h h2 => ?_, fun a o xs h => ?_, fun a o xs h => ?_⟩
  · rw [upd_ne (ne h)]; exact x.fr a o h h2
  · rw [upd_ne (ne h)]; exact x.kp.tup a o xs h
  · rw [upd_ne (ne h)]; exact x.kp.scr a o xs h
/-- an object that is none of ours changes -/
theorem Rel.other {G : Gc} {m : List Addr} {th : TH} {H : Hp} {p : Addr} {xs : List V} (R : Rel G m th H) (hp : p ∉ m) (hl : H p = Option.some (.lst xs)) (u : HO) : Rel G m th (upd H p u) ∧ Keep H (upd H p u) := by
  have k : Keep H (upd H p u) := keep_upd (fun ob ys e => by rw [hl] at e; cases e) (fun ob ys e => by rw [hl] at e; cases e) u
  exact ⟨⟨R.len, R.nd, fun j b q hb hq => (R.at_ j b q hb hq).mono (List.prefix_refl _) k (upd_ne fun e => hp (e ▸ List.mem_of_getElem? hb))⟩, k⟩
theorem Rel.adopt {G : Gc} {m : List Addr} {th : TH} {H : Hp} {p : Addr} {xs : List V} {ts : List T} (R : Rel G m th H) (hp : p ∉ m) (hl : H p = Option.some (.lst xs)) (r : VRs G.K m H ts xs) : Rel G (m ++ [p]) (th ++ [.lst ts]) H := by
  refine ⟨by simp [R.len], ?_, fun j b q hb hq => ?_⟩
  · rw [List.nodup_append]
    refine ⟨R.nd, by simp, fun b hb c hc => ?_⟩
    have : c = p := by simpa using hc
    subst this
    exact fun e => hp (e ▸ hb)
  · by_cases hj : j < m.length
    · rw [List.getElem?_append_left hj] at hb
      rw [List.getElem?_append_left (by rw [← R.len]; exact hj)] at hq
      exact (R.at_ j b q hb hq).mono (List.prefix_append _ _) (Keep.refl _) rfl
    · rw [List.getElem?_append_right (by omega)] at hb
      rw [List.getElem?_append_right (by rw [← R.len]; omega)] at hq
      have e0 : j - m.length = 0 := by
        by_cases h : j - m.length = 0
        · exact h
        · rw [List.getElem?_eq_none (by simp; omega)] at hb; cases hb
      rw [e0] at hb
      have e1 : j - th.length = 0 := by rw [← R.len]; exact e0
      rw [e1] at hq
      simp only [List.getElem?_cons_zero, Option.some.injEq] at hb hq
      subst hb hq
      exact ⟨xs, hl, r.mono (List.prefix_append _ _) (Keep.refl _)⟩
theorem Pn.bind0 {α β : Type} {G : Gc} {m : List Addr} {H : Hp} {r : Res α} {f : α → TH → Res β} {Φ : β → TH → List Addr → Hp → Prop} (h : Pn G EO m H (r.bind f) Φ) : Pn G EO m H r fun t th _ _ => Pn G EO m H (f t th) Φ := by
  cases r with
  | ok t th => exact fun _ _ _ _ => h
  | exc c fs th => exact h
  | stuck => exact h
structure DTs (X : Cx) (EO : EOb) (ifs : List Expr) (d : MB) : Prop where
  pts : PTs X ifs (tDT (gc X) EO d)
theorem _root_.L2.PTs.of {X : Cx} {e : List Expr} {t t' : TT} (h : PTs X e t) (f : ∀ σ H Q, t' σ H Q → t σ H Q) : PTs X e t' := ⟨fun pins s σ H Q I w => h.run pins s σ H Q I (f σ H Q w)⟩
def mYes : MB := fun _ h => .ok true h
theorem dts_nil : DTs X EO [] mYes := ⟨pts_nil.of fun σ H Q ⟨m, σt, th, sr, R, h⟩ => Pn.done h R⟩
theorem dts_one {c : Expr} {t : MB} (h : DT X EO c t) : DTs X EO [c] t := ⟨pts_one h.pt⟩
def lcN (J : MIt) (g : MG) (t : MB) (e : ME) (σ0 : Sl) : Nat → Nat → TH → List T → Res (List T)
  | 0, _, _, _ => .stuck
  | n + 1, i, h, acc => match J i h with
    | none => .stuck
    | some none => .ok acc h
    | some (some y) => (g y σ0 h).bind fun σ1 h1 => (t σ1 h1).bind fun c h2 => if c = true then (e σ1 h2).bind fun z h3 => if acc.length < sizeLine then lcN J g t e σ0 n (i + 1) h3 (acc ++ [z]) else .stuck else lcN J g t e σ0 n (i + 1) h2 acc
def eLc (it : MI) (g : MG) (t : MB) (e : ME) (vs : List Nat) : ME := fun σ h => (it σ h).bind fun J h1 => (lcN J g t e (wipeT σ vs) FU 0 h1 []).bind fun ts h2 => .ok (.ref h2.length) (h2 ++ [.lst ts])
variable {di : MI} {vs : List Nat} {g : MG} {t : MB} {de : ME}
theorem tLc_of (σ : L2.St) (H : Hp) (Q : VK) (w : tD (gc X) EO (eLc di g t de vs) σ H Q) : tLc (tDI (gc X) EO di) (tDG (gc X) EO vs g) (tDT (gc X) EO t) (tD (gc X) EO de) vs σ H Q := by
  obtain ⟨m, σt, th, sr, R, h⟩ := w
  refine ⟨m, σt, th, sr, R, h.bind.imp fun J th1 m1 H1 x R1 h1 Jv hJ D hD => ?_⟩
  have sr1 := (sr.mono x.pre x.kp).wipe vs
  have pf : D ∉ m1 := R1.fresh hD
  refine ⟨fun i n H => ∃ m th acc xs, Ext m1 H1 m H ∧ Rel (gc X) m th H ∧ D ∉ m ∧ H D = some (.lst xs) ∧ VRs X.K m H acc xs ∧ Pn (gc X) EO m1 H1 (lcN J g t de (wipeT σt vs) n i th acc) fun ts h2 _ _ => Pn (gc X) EO m1 H1 (.ok (.ref h2.length) (h2 ++ [.lst ts])) fun t _ m' H' => ∀ v, VR X.K m' H' t v → Q v H',
    ⟨FU, m1, th1, [], [], (Ext.refl _ _).own hD _, (R1.aside hD _).1, pf, upd_same, .nil, h1.bind0⟩, ?_⟩
  rintro i n H ⟨m2, th2, acc, xs, x2, R2, pf2, hD2, va, h2⟩
  cases n with
  | zero => exact h2.elim
  | succ n =>
    have q := hJ i m2 th2 H x2 R2
    unfold lcN at h2
    split at h2
    · exact h2.elim
    · rename_i e1
      rw [e1] at q
      refine .inl ⟨q, ?_⟩
      have h3 := h2 m2 H x2 R2
      have x4 : Ext m1 H1 (m2 ++ [D]) H := by
        refine ⟨x2.pre.trans (List.prefix_append _ _), fun a ha hn => ?_, x2.fr, x2.kp⟩
        rcases List.mem_append.mp ha with z | z
        · exact x2.new a z hn
        · have : a = D := by simpa using z
          rw [this]; exact hD
      exact h3 _ H x4 (R2.adopt pf2 hD2 va) _ (.ref (by rw [← R2.len]; exact push_at))
    · rename_i y e1
      rw [e1] at q
      refine .inr ⟨q.1, _, fun H' w => ⟨n, Nat.lt_succ_self _, w⟩, fun x' H' hy => ?_⟩
      obtain ⟨x3, R3, yr⟩ := q.2 x' H' hy
      have x13 := x2.trans x3
      refine ⟨m2, wipeT σt vs, th2, y, sr1.mono x13.pre x13.kp, R3, yr, (Pn.ext h2.bind0 x13).imp fun σt4 th4 m4 H4 x4 R4 h4 σ4 sr4 hw => ⟨by rw [hw]; exact wipe_idem _ _, m4, σt4, th4, sr4, R4, ?_⟩⟩
      have x14 := x13.trans x4
      have nD : ∀ {m' H''}, Ext m2 H' m' H'' → D ∉ m' ∧ H'' D = some (.lst xs) := fun {m' H''} y => by
        have e := x3.fr D _ hD2 pf2
        refine ⟨fun z => ?_, y.fr D _ e pf2⟩
        rw [y.new D z pf2] at e; cases e
      refine (Pn.ext h4.bind0 x14).imp fun b th5 m5 H5 x5 R5 h5 => ?_
      have x15 := x14.trans x5
      cases b with
      | false =>
        obtain ⟨n1, n2⟩ := nD (x4.trans x5)
        exact iteF ⟨m5, th5, acc, xs, x15, R5, n1, n2, ((va.mono x3.pre x3.kp).mono x4.pre x4.kp).mono x5.pre x5.kp, h5⟩
      | true =>
        refine iteT ⟨m5, σt4, th5, sr4.mono x5.pre x5.kp, R5, (Pn.ext (Pn.bind0 h5) x15).imp fun z th6 m6 H6 x6 R6 h6 v vr => ?_⟩
        obtain ⟨n1, n2⟩ := nD ((x4.trans x5).trans x6)
        split at h6
        · rename_i hl
          have va6 := (((va.mono x3.pre x3.kp).mono x4.pre x4.kp).mono x5.pre x5.kp).mono x6.pre x6.kp
          obtain ⟨R7, k7⟩ := R6.other n1 n2 (.lst (xs ++ [v]))
          refine ⟨xs, n2, by rw [← va.length]; exact hl, m6, th6, acc ++ [z], xs ++ [v], (x15.trans x6).own hD _, R7, n1, upd_same, (va6.append (.cons vr .nil)).mono (List.prefix_refl _) k7, h6⟩
        · exact h6.elim
abbrev blkX (X : Cx) (s : Shared) (H : Hp) (scope : Scope) (cl : List (Str × Addr)) (C : Addr) (fp : List Addr) : Cx := X.blk s H scope (compEnvC scope cl C X.env) fp
theorem de_lc {elt iter : Expr} {ifs : List Expr} {scope : Scope} {own : List (Str × Nat)} (hc : X.calm = true) (hN : X.N.Nodup) (ok : BlkOk X.N X.env.scope scope own) (hi : DI X EO tg iter di)
    (hg : ∀ s H C cl fp, DG (blkX X s H scope cl C fp) EO tg (own.map (·.2)) g) (ht : ∀ s H C cl fp, DTs (blkX X s H scope cl C fp) EO ifs t) (he : ∀ s H C cl fp, DE (blkX X s H scope cl C fp) EO elt de)
    (hs : ∀ x, foldedSetIterable iter X.env x = pure x := by intro _; rfl) : DE X EO (.ListComp elt [⟨tg, iter, ifs, 0⟩] scope pos) (eLc di g t de (own.map (·.2))) :=
  ⟨(pe_lc (g := tDG (gc X) EO (own.map (·.2)) g) (tt := tDT (gc X) EO t) (te := tD (gc X) EO de) hc hN hi.pi ok (fun s H C cl fp => (hg s H C cl fp).pg) (fun s H C cl fp => (ht s H C cl fp).pts) (fun s H C cl fp => (he s H C cl fp).pe) hs).of tLc_of⟩
/-- name = [..] on one line -/
theorem ds_setLc {i : Nat} {y : Str} {py cpos spos : Pos} {elt iter : Expr} {ifs : List Expr} {scope : Scope} {own : List (Str × Nat)} (hc : X.calm = true) (hN : X.N.Nodup) (ok : BlkOk X.N X.env.scope scope own) (hi : DI X EO tg iter di)
    (hg : ∀ s H C cl fp, DG (blkX X s H scope cl C fp) EO tg (own.map (·.2)) g) (ht : ∀ s H C cl fp, DTs (blkX X s H scope cl C fp) EO ifs t) (he : ∀ s H C cl fp, DE (blkX X s H scope cl C fp) EO elt de)
    (hsw : swapsWith (.ListComp elt [⟨tg, iter, ifs, 0⟩] scope cpos) (some (.Name y py)) spos.line X.env = pure true) (hy : X.N[i]? = some y := by rfl) (hyl : X.env.scope.names.lookup y = some .local := by rfl)
    (hs : ∀ x, foldedSetIterable iter X.env x = pure x := by intro _; rfl) : DS X EO (.Assign [.Name y py] (.ListComp elt [⟨tg, iter, ifs, 0⟩] scope cpos) spos) (sSet i (eLc di g t de (own.map (·.2)))) := by
  refine ⟨(ps_setLc (g := tDG (gc X) EO (own.map (·.2)) g) (tt := tDT (gc X) EO t) (te := tD (gc X) EO de) hc hN hy hyl hsw hi.pi ok (fun s H C cl fp => (hg s H C cl fp).pg) (fun s H C cl fp => (ht s H C cl fp).pts) (fun s H C cl fp => (he s H C cl fp).pe) hs).of fun D σ H ⟨m, σt, th, sr, R, h⟩ => ?_⟩
  refine tLc_of σ H _ ⟨m, σt, th, sr, R, (PnS.of h).imp fun t th1 m1 H1 x R1 h1 v vr => ?_⟩
  exact h1 m1 H1 _ (Ext.refl _ _) R1 ((sr.mono x.pre x.kp).set i vr)
end
end TL

/-! T-layer, part G: methods of built-ins, defs. -/
namespace TL
open PySem PySem.Spec PyProof.Rows L2
section
variable {X : Cx} {EO : EOb} {pos : Pos} {e tg : Expr} {d : ME}

/-! ### methods -/
abbrev Mt := T → List T → TH → Res T
def rM (G : Gc) (EO : EOb) (f : Mt) : V → List V → Hp → VK → Prop := fun x xs H Q => ∃ m th t ts, Rel G m th H ∧ VR G.K m H t x ∧ VRs G.K m H ts xs ∧ WT G EO m H (f t ts th) Q
/-- which type a receiver is of -/
def rcv (t : T) (h : TH) : String := match t with
  | .str _ => "str"
  | .tup _ => "tuple"
  | .ref k => match h[k]? with
    | some (.lst _) => "list"
    | some (.dic _) => "dict"
    | some (.dit _) => "dict"
    | some (.lck _) => "dict"
    | some (.lct _) => "dict"
    | _ => ""
  | _ => ""
/-- a method by its owner -/
structure MtF (X : Cx) (EO : EOb) (T : String) (name : Str) (f : Mt) : Prop where
  run : ∃ id : String, PlainAttrs T ∧ Slot T name id ∧ typeOf (.builtin id) = pure (.type "method_descriptor") ∧ MtR X id (rM (gc X) EO f)
abbrev MtT := String → Option Mt
def MtsF (X : Cx) (EO : EOb) (name : Str) (ms : MtT) : Prop := ∀ T f, ms T = some f → MtF X EO T name f
def eMth (ms : MtT) (o : ME) (as : ML) : ME := fun σ h => (o σ h).bind fun t h1 => match ms (rcv t h1) with
  | some f => (as σ h1).bind fun ts h2 => f t ts h2
  | none => .stuck
theorem exd_at {pins : List (Addr × Obj)} {σ : L2.St} {H : Hp} {s : Shared} {a : Addr} (I : Inv X pins σ H s) (h : (∃ kvs, H a = some (.dK kvs)) ∨ (∃ od kvs, H a = some (.frz od (.dK kvs))) ∨ (∃ o, H a = some (HOd a o) ∧ o.ExactDict) ∨ ∃ od o, H a = some (.frz od (HOd a o)) ∧ o.ExactDict) :
    ∃ o, s.heap.get? a = some o ∧ o.ExactDict := by
  rcases h with ⟨kvs, hk⟩ | ⟨od, kvs, hk⟩ | ⟨o, hk, ex⟩ | ⟨od, o, hk, ex⟩
  · obtain ⟨_, _, _, _, o, _, _, e, ex, _⟩ := I.hok a _ hk
    exact ⟨o, e, ex⟩
  · obtain ⟨_, _, _, _, _, o, _, _, e, ex, _⟩ := (show _ ∧ ObjOk X.prog X.w H s.heap a (.dK kvs) from I.hok a _ hk)
    exact ⟨o, e, ex⟩
  · exact ⟨o, (I.hok a _ hk).1, ex⟩
  · obtain ⟨_, e⟩ := (show _ ∧ ObjOk X.prog X.w H s.heap a (HOd a o) from I.hok a _ hk)
    exact ⟨o, e.1, ex⟩
theorem rcv_is {pins : List (Addr × Obj)} {σ : L2.St} {H : Hp} {s : Shared} {m : List Addr} {th : TH} {t : T} {x : V} {v : Value} {O : String} (I : Inv X pins σ H s) (R : Rel (gc X) m th H) (vr : VR X.K m H t x) (r : RelV x v) (e : rcv t th = O) (hO : O ≠ "") :
    s.TypeIs v O ∧ ∀ a, v = .ref a → ∃ ob, s.heap.get? a = some ob ∧ ob.dict = none := by
  subst e
  cases vr with
  | non => exact absurd rfl hO
  | bl _ => exact absurd rfl hO
  | int _ => exact absurd rfl hO
  | scr _ => exact absurd rfl hO
  | str x =>
    obtain ⟨t, rfl⟩ := r
    exact ⟨typeIs_str s x t, fun _ e => nomatch e⟩
  | @tup ts a xs h1 h2 =>
    cases r
    rcases h1 with ⟨o, h, hd⟩ | ⟨o, its, n, hk, hc, hd, _⟩
    · obtain ⟨q1, z, its, _, o', e', hc, _⟩ := (show s.heap.get? a = some o ∧ ObjOk X.prog X.w H s.heap a (.tup xs) from I.hok _ _ h)
      rw [q1] at e'; cases e'
      refine ⟨⟨o, q1, hc⟩, fun b e => ?_⟩
      cases e
      exact ⟨o, q1, hd⟩
    · refine ⟨⟨o, I.kIn _ o hk, hc⟩, fun a e => ?_⟩
      cases e
      exact ⟨o, I.kIn _ o hk, hd⟩
  | @ref n a hm =>
    cases r
    have key : ∀ {o : Obj} {T : String}, s.heap.get? a = some o → o.cls = .type T → o.dict = none → s.TypeIs (.ref a) T ∧ ∀ b, Value.ref a = .ref b → ∃ ob, s.heap.get? b = some ob ∧ ob.dict = none :=
      fun {o T} e c dd => ⟨⟨o, e, c⟩, fun b q => by cases q; exact ⟨o, e, dd⟩⟩
    cases ho : th[n]? with
    | none => simp only [rcv, ho] at hO; exact absurd rfl hO
    | some o =>
      have q := R.at_ n a o hm ho
      have dct : ∀ {O : String}, ((∃ kvs, H a = some (.dK kvs)) ∨ (∃ od kvs, H a = some (.frz od (.dK kvs))) ∨ (∃ o, H a = some (HOd a o) ∧ o.ExactDict) ∨ ∃ od o, H a = some (.frz od (HOd a o)) ∧ o.ExactDict) → O = "dict" →
          s.TypeIs (.ref a) O ∧ ∀ b, Value.ref a = .ref b → ∃ ob, s.heap.get? b = some ob ∧ ob.dict = none := by
        intro O h eO
        subst eO
        obtain ⟨o, e, ex⟩ := exd_at I h
        exact key e ex.1 ex.2.1
      cases o with
      | lst ts =>
        obtain ⟨xs, h2, h3⟩ := q
        obtain ⟨its, rv, p, hz⟩ := I.list (.of h2)
        obtain ⟨o, n', e, c, hd, _⟩ := id p
        simp only [rcv, ho]
        exact ⟨p.isList.typeIs, fun b q => by cases q; exact ⟨o, e, hd⟩⟩
      | dic kvs =>
        obtain ⟨xs, h2, h3⟩ := q
        exact dct (.inl ⟨_, h2⟩) (by simp only [rcv, ho])
      | dit kvs =>
        obtain ⟨xs, h2, h3⟩ := q
        exact dct (.inr (.inr (.inl ⟨_, h2, h3.ex⟩))) (by simp only [rcv, ho])
      | lck kvs =>
        obtain ⟨od, xs, h2, h3⟩ := q
        exact dct (.inr (.inl ⟨_, _, h2⟩)) (by simp only [rcv, ho])
      | lct kvs =>
        obtain ⟨od, xs, h2, h3⟩ := q
        exact dct (.inr (.inr (.inr ⟨_, _, h2, h3.ex⟩))) (by simp only [rcv, ho])
      | ins C fs => simp only [rcv, ho] at hO; exact absurd rfl hO
variable {o e : Expr} {es : List Expr} {dO : ME} {da : ML} {name : Str} {apos cpos : Pos} {ms : MtT}
theorem de_mth0 (hm : MtsF X EO name ms) (h0 : ms "" = none) (ho : DE X EO o dO) (hbase : attributeBase o name X.env (eval o X.env) = eval o X.env := by rfl) (hline : (apos.endLine == cpos.line) = true := by rfl) : DE X EO (.Call (.Attribute o name apos) [] [] cpos) (eMth ms dO aNil) := by
  refine ⟨⟨fun pins s σ H Q I ⟨m, σt, th, sr, R, h⟩ => ?_⟩⟩
  refine wpAny_Call_method0_late hbase hline (thn (ho.pe.run pins s σ H (fun x H1 => ∃ m1 th1 t, Rel (gc X) m1 th1 H1 ∧ VR X.K m1 H1 t x ∧ WT (gc X) EO m1 H1 (match ms (rcv t th1) with
      | some f => (aNil σt th1).bind fun ts h2 => f t ts h2
      | none => .stuck) Q) I ⟨m, σt, th, sr, R, h.bind.imp fun t th1 m1 H1 x R1 h1 v vr => ⟨m1, th1, t, R1, vr, h1⟩⟩) fun v s1 ⟨x, H1, I1, r1, m1, th1, t, R1, vr, w⟩ => ?_)
  split at w
  · rename_i f ef
    have hO : rcv t th1 ≠ "" := fun z => by rw [z, h0] at ef; cases ef
    obtain ⟨q1, q2⟩ := rcv_is I1 R1 vr r1 rfl hO
    obtain ⟨id, pa, sl, ty, mt⟩ := (hm _ _ ef).run
    exact ⟨_, id, pa, sl, ty, q1, q2, Calls.callWith_builtin rfl (PySem.evalArgs_none (mt pins s1 σ H1 x [] v [] Q I1 r1 .nil ⟨m1, th1, t, [], R1, vr, .nil, w⟩))⟩
  · exact w.elim
theorem de_mth (hm : MtsF X EO name ms) (h0 : ms "" = none) (ho : DE X EO o dO) (ha : DA X EO (e :: es) da) (hbase : attributeBase o name X.env (eval o X.env) = eval o X.env := by rfl)
    (hfew : ((backTo cpos (starEach (e :: es) X.env)).all (fun x => !x.1) && (backToKw cpos (keywordEach [] X.env)).all (fun x => x.1.isSome)
      && decide ((e :: es).length + ([] : List Keyword).length + (if ([] : List Keyword).isEmpty then 0 else 1) < 30)) = true := by rfl)
    (hline : (apos.endLine == cpos.line) = true := by rfl) (hs : starEach (e :: es) X.env = (false, eval e X.env) :: starEach es X.env := by rfl) (hplain : (backTo cpos (starEach es X.env)).any (·.1) = false := by rfl) :
    DE X EO (.Call (.Attribute o name apos) (e :: es) [] cpos) (eMth ms dO da) := by
  refine ⟨⟨fun pins s σ H Q I ⟨m, σt, th, sr, R, h⟩ => ?_⟩⟩
  refine wpAny_Call_method_late hbase hfew hline rfl (thn (ho.pe.run pins s σ H (fun x H1 => ∃ m1 th1 t, SR X.K m1 H1 σt σ ∧ Rel (gc X) m1 th1 H1 ∧ VR X.K m1 H1 t x ∧ WT (gc X) EO m1 H1 (match ms (rcv t th1) with
      | some f => (da σt th1).bind fun ts h2 => f t ts h2
      | none => .stuck) Q) I ⟨m, σt, th, sr, R, h.bind.imp fun t th1 m1 H1 x R1 h1 v vr => ⟨m1, th1, t, sr.mono x.pre x.kp, R1, vr, h1⟩⟩) fun v s1 ⟨x, H1, I1, r1, m1, th1, t, sr1, R1, vr, w⟩ => ?_)
  split at w
  · rename_i f ef
    have hO : rcv t th1 ≠ "" := fun z => by rw [z, h0] at ef; cases ef
    obtain ⟨q1, q2⟩ := rcv_is I1 R1 vr r1 rfl hO
    obtain ⟨id, pa, sl, ty, mt⟩ := (hm _ _ ef).run
    refine ⟨_, id, pa, sl, ty, q1, q2, ?_⟩
    have hA := ha.pa.run cpos pins s1 σ H1 (fun vs H2 => ∃ m2 th2 ts, Rel (gc X) m2 th2 H2 ∧ VR X.K m2 H2 t x ∧ VRs X.K m2 H2 ts vs ∧ WT (gc X) EO m2 H2 (f t ts th2) Q) I1
      ⟨m1, σt, th1, sr1, R1, (Pn.bind w).imp fun ts th2 m2 H2 x2 R2 h2 vs vrs => ⟨m2, th2, ts, R2, vr.mono x2.pre x2.kp, vrs, h2⟩⟩
    rw [hs] at hA ⊢
    refine Calls.callWith_builtin (by show (false || (backTo cpos (starEach es X.env)).any (·.1)) = false; rw [hplain] <;> rfl) (Calls.evalArgs_plain ?_)
    exact thn hA fun us s2 ⟨vs, H2, I2, r2, m2, th2, ts, R2, vr2, vrs, w2⟩ => mt pins s2 σ H2 x vs v us Q I2 r1 r2 ⟨m2, th2, t, ts, R2, vr2, vrs, w2⟩
  · exact w.elim

/-! ### methods of lists -/
theorem mt_mk {T id : String} {f : Mt} (pa : PlainAttrs T) (sl : Slot T name id) (ty : typeOf (.builtin id) = pure (.type "method_descriptor")) (h : MtR X id (rM (gc X) EO f)) : MtF X EO T name f := ⟨⟨id, pa, sl, ty, h⟩⟩
/-- the list of a reference, to be read -/
theorem ref_lst {G : Gc} {m : List Addr} {th : TH} {H : Hp} {k : Nat} {v : V} {ts : List T} (R : Rel G m th H) (vr : VR G.K m H (.ref k) v) (hk : th[k]? = some (.lst ts)) : ∃ a xs, v = .ref a ∧ m[k]? = some a ∧ H a = some (.lst xs) ∧ VRs G.K m H ts xs := by
  cases vr with
  | ref hm =>
    obtain ⟨xs, h2, h3⟩ := R.at_ k _ _ hm hk
    exact ⟨_, xs, rfl, hm, h2, h3⟩
/-- a list rewritten -/
theorem lst_set {G : Gc} {m : List Addr} {th : TH} {H : Hp} {k : Nat} {a : Addr} {xs ys : List V} {ts us : List T} (R : Rel G m th H) (hm : m[k]? = some a) (hk : th[k]? = some (.lst ts)) (hH : H a = some (.lst xs)) (r : VRs G.K m H us ys) :
    Rel G m (th.set k (.lst us)) (upd H a (.lst ys)) ∧ Ext m H m (upd H a (.lst ys)) := by
  have kp : Keep H (upd H a (.lst ys)) := keep_upd (fun _ _ z => by rw [hH] at z; cases z) (fun _ _ z => by rw [hH] at z; cases z) _
  exact R.store hm hk (.lst ys) ⟨ys, upd_same, r.mono (List.prefix_refl _) kp⟩
def fAppend : Mt := fun t ts h => match t, ts with
  | .ref k, [y] => match h[k]? with
    | some (.lst xs) => if xs.length < sizeLine then .ok .non (h.set k (.lst (xs ++ [y]))) else .stuck
    | _ => .stuck
  | _, _ => .stuck
theorem mt_append' : MtF X EO "list" "append" fAppend := by
  refine mt_mk PySem.F.plainAttrs_list PySem.F.slot_list_append PySem.F.type_list_append fun pins s σ H x xs v us Q I rx rs ⟨m, th, t, ts, R, vr, vrs, w⟩ => ?_
  unfold fAppend at w
  split at w
  · rename_i k y
    split at w
    · rename_i ls hk
      split at w
      · rename_i hl
        obtain ⟨a, ys, ev, hm, hH, r⟩ := ref_lst R vr hk
        subst ev
        cases vrs with
        | cons r1 rr =>
        cases rr
        obtain ⟨R2, x2⟩ := lst_set R hm hk hH (r.append (.cons r1 .nil))
        exact mt_append pins s σ H _ _ v us Q I rx rs ⟨a, ys, _, rfl, rfl, hH, by rw [← r.length]; exact hl, w m _ x2 R2 _ .non⟩
      · exact w.elim
    · exact w.elim
  · exact w.elim
def msAppend : MtT := fun T => if T = "list" then some fAppend else none
theorem mts_append : MtsF X EO "append" msAppend := by
  intro T f h
  unfold msAppend at h
  split at h
  · rename_i e; subst e; cases h; exact mt_append'
  · cases h
def fExtend : Mt := fun t ts h => match t, ts with
  | .ref k, [.ref j] => match h[k]?, h[j]? with
    | some (.lst xs), some (.lst ys) => if xs.length + ys.length ≤ sizeLine then .ok .non (h.set k (.lst (xs ++ ys))) else .stuck
    | _, _ => .stuck
  | _, _ => .stuck
theorem mt_extend' : MtF X EO "list" "extend" fExtend := by
  refine mt_mk PySem.F.plainAttrs_list PySem.F.slot_list_extend PySem.F.type_list_extend fun pins s σ H x xs v us Q I rx rs ⟨m, th, t, ts, R, vr, vrs, w⟩ => ?_
  unfold fExtend at w
  split at w
  · rename_i k j
    split at w
    · rename_i ls ls2 hk hj
      split at w
      · rename_i hl
        obtain ⟨a, ys, ev, hm, hH, r⟩ := ref_lst R vr hk
        subst ev
        cases vrs with
        | cons r1 rr =>
        cases rr
        obtain ⟨b, zs, ev2, hm2, hH2, r2⟩ := ref_lst R r1 hj
        subst ev2
        obtain ⟨R2, x2⟩ := lst_set R hm hk hH (r.append r2)
        exact mt_extend pins s σ H _ _ v us Q I rx rs ⟨a, b, ys, zs, rfl, rfl, hH, hH2, by rw [← r.length, ← r2.length]; exact hl, w m _ x2 R2 _ .non⟩
      · exact w.elim
    · exact w.elim
  · exact w.elim
def msExtend : MtT := fun T => if T = "list" then some fExtend else none
theorem mts_extend : MtsF X EO "extend" msExtend := by
  intro T f h
  unfold msExtend at h
  split at h
  · rename_i e; subst e; cases h; exact mt_extend'
  · cases h
def fPopL : Mt := fun t ts h => match t, ts with
  | .ref k, [] => match h[k]? with
    | some (.lst xs) => match xs[xs.length - 1]? with
      | some y => .ok y (h.set k (.lst xs.dropLast))
      | none => .stuck
    | _ => .stuck
  | .ref k, [.int i] => match h[k]? with
    | some (.lst xs) => if -(2 ^ 63) ≤ i ∧ i < 2 ^ 63 then match seqIndex? i xs.length with
      | some j => match xs[j]? with
        | some y => .ok y (h.set k (.lst (xs.eraseIdx j)))
        | none => .stuck
      | none => .stuck else .stuck
    | _ => .stuck
  | _, _ => .stuck
theorem mt_pop' : MtF X EO "list" "pop" fPopL := by
  refine mt_mk PySem.F.plainAttrs_list PySem.F.slot_list_pop PySem.F.type_list_pop fun pins s σ H x xs v us Q I rx rs ⟨m, th, t, ts, R, vr, vrs, w⟩ => ?_
  unfold fPopL at w
  split at w
  · rename_i k
    split at w
    · rename_i ls hk
      split at w
      · rename_i y hy
        obtain ⟨a, ys, ev, hm, hH, r⟩ := ref_lst R vr hk
        subst ev
        cases vrs
        obtain ⟨z, hz, rz⟩ := r.get hy
        obtain ⟨R2, x2⟩ := lst_set R hm hk hH r.dropLast
        refine mt_pop pins s σ H _ _ v us Q I rx rs ⟨a, ys, z, rfl, rfl, hH, by rw [← r.length]; exact hz, w m _ x2 R2 _ (rz.mono x2.pre x2.kp)⟩
      · exact w.elim
    · exact w.elim
  · rename_i k i
    split at w
    · rename_i ls hk
      split at w
      · rename_i hi
        split at w
        · rename_i j hj
          split at w
          · rename_i y hy
            obtain ⟨a, ys, ev, hm, hH, r⟩ := ref_lst R vr hk
            subst ev
            cases vrs with
            | cons r1 rr =>
            cases rr
            cases r1
            obtain ⟨z, hz, rz⟩ := r.get hy
            obtain ⟨R2, x2⟩ := lst_set R hm hk hH (r.eraseIdx j)
            exact mt_popAt pins s σ H _ _ v us Q I rx rs ⟨a, ys, i, j, z, rfl, rfl, hH, hi.1, hi.2, by rw [← r.length]; exact hj, hz, w m _ x2 R2 _ (rz.mono x2.pre x2.kp)⟩
          · exact w.elim
        · exact w.elim
      · exact w.elim
    · exact w.elim
  · exact w.elim
def strsT : List T → Option (List Str)
  | [] => some []
  | .str x :: r => (strsT r).map (x :: ·)
  | _ :: _ => none
theorem strsT_R {K : PySem.W.Frag} {m : List Addr} {H : Hp} : ∀ {ts : List T} {vs : List V} {xs : List Str}, VRs K m H ts vs → strsT ts = some xs → vs = xs.map V.str
  | [], _, _, .nil, h => by cases h; rfl
  | .str x :: r, _, _, .cons a b, h => by
    simp only [strsT, Option.map_eq_some_iff] at h
    obtain ⟨ys, h1, h2⟩ := h
    subst h2
    cases a
    rw [strsT_R b h1]; rfl
def fJoin1 (a : Str) (ys : List T) (h : TH) : Res T := match strsT ys with
  | some zs => if (zs.map (·.length)).sum + zs.length * a.length ≤ 16777216 then .ok (.str (Txt.join a zs)) h else .stuck
  | none => .stuck
def fJoin : Mt := fun t ts h => match t, ts with
  | .str a, [.tup ys] => fJoin1 a ys h
  | .str a, [.ref k] => match h[k]? with
    | some (.lst ys) => fJoin1 a ys h
    | _ => .stuck
  | _, _ => .stuck
theorem mt_join' : MtF X EO "str" "join" fJoin := by
  refine mt_mk PySem.F.plainAttrs_str PySem.F.slot_str_join PySem.F.type_str_join fun pins s σ H x xs v us Q I rx rs ⟨m, th, t, ts, R, vr, vrs, w⟩ => ?_
  have go : ∀ {a : Str} {ys : List T} {p : Addr} {vs : List V}, x = .str a → xs = [.ref p] → (SqL X.K H p vs ∨ SqT X.K H p vs) → VRs X.K m H ys vs → Pn (gc X) EO m H (fJoin1 a ys th) (fun t _ m' H' => ∀ v, VR X.K m' H' t v → Q v H') →
      wpAny (model X.prog X.w) X.A (call (.builtin "str.join") (v :: us)) (EP X pins σ Q) X.xe s := by
    intro a ys p vs ex exs hp r w
    unfold fJoin1 at w
    split at w
    · rename_i zs hz
      split at w
      · rename_i hl
        have e := strsT_R r hz
        subst e
        exact mt_join pins s σ H _ _ v us Q I rx rs ⟨a, p, zs, ex, exs, hp, hl, Pn.done w R _ (.str _)⟩
      · exact w.elim
    · exact w.elim
  unfold fJoin at w
  split at w
  · rename_i a ys
    cases vr
    cases vrs with
    | cons r1 rr =>
    cases rr
    cases r1 with
    | tup h1 h2 => exact go rfl rfl (.inr h1.t) h2 w
  · rename_i a k
    split at w
    · rename_i ys hk
      cases vr
      cases vrs with
      | cons r1 rr =>
      cases rr
      obtain ⟨b, zs, ev2, hm2, hH2, r2⟩ := ref_lst R r1 hk
      subst ev2
      exact go rfl rfl (.inl (.of hH2)) r2 w
    · exact w.elim
  · exact w.elim
def msJoin : MtT := fun T => if T = "str" then some fJoin else none
theorem mts_join : MtsF X EO "join" msJoin := by
  intro T f h
  unfold msJoin at h
  split at h
  · rename_i e; subst e; cases h; exact mt_join'
  · cases h
end

/-! ### defs -/
def runB (b : MS) (nl : Nat) : Fn := fun ts h => match b (ts.map some ++ List.replicate nl none) h with
  | .nx _ h' => .ok .non h'
  | .rt t h' => .ok t h'
  | .exc c fs h' => .exc c fs h'
  | _ => .stuck
section
variable {P : Program} {w : World} {K : PySem.W.Frag} {mg : Str → Option Value} {base : Heap} {x qual : Str} {params : Arguments} {body : List Stmt} {scope : Scope} {f : Addr} {fd : FuncData} {N ps : List Str} {b : MS} {k : Nat}
/-- a def by its body -/
theorem fnok_of (F : FunD K x qual params body scope [] [] f fd) (S : FnScope N ps scope)
    (h : ∀ (cdv : Value) (A : Around) (outer : List Env) (s : Shared) (H : Hp) (E : XK), Room k (A.deeper (envOfC qual scope s.heap.objs.size f cdv)) → DSs (cxOf CX0 P w K mg base N qual scope f cdv A outer s H E).nox EO0 body b) :
    FnOk P w K mg base CX0 (k + 1) f fd ps (spT ⟨P, w, K, mg⟩ ps.length (runB b (N.length - ps.length))) := by
  refine F.ok S (fun vs H Q E ⟨m, ts, th, vr, hl, _, _⟩ => by rw [← vr.length]; exact hl) fun cdv A outer s H vs Q E hr ⟨m, ts, th, vr, hl, R, w⟩ => ?_
  refine ⟨_, PSs.nox (h cdv A outer s H E hr).pss, m, ts.map some ++ List.replicate (N.length - ps.length) none, th, ?_, R, ?_⟩
  · have e : L2.start N vs = vs.map some ++ List.replicate (N.length - ps.length) none := by unfold L2.start; rw [← vr.length, hl]
    rw [e]
    exact SR.start _ vr
  · unfold runB at w
    cases e : b (ts.map some ++ List.replicate (N.length - ps.length) none) th with
    | nx σt th2 => rw [e] at w; exact fun m1 H1 σ x R1 _ => w m1 H1 x R1 _ .non
    | rt t th2 => rw [e] at w; exact fun m1 H1 v x R1 vr1 => w m1 H1 x R1 v vr1
    | exc c fs th2 => rw [e] at w; exact w
    | bk σt th2 => rw [e] at w; exact w.elim
    | ct σt th2 => rw [e] at w; exact w.elim
    | stuck => rw [e] at w; exact w.elim
theorem good_of (F : FunD K x qual params body scope [] [] f fd) (hm : mg x = some (.ref f)) (S : FnScope N ps scope)
    (hb : ∀ (kV doc pm : Value) (an : Option Addr) (cdv ct : Value) (us : List Value), us.length = ps.length → bindArgs (PySem.W.fnOf x qual params body scope .none kV doc pm an cdv ct) ⟨us, []⟩ = pure (ps.zip us))
    (h : ∀ (cdv : Value) (A : Around) (outer : List Env) (s : Shared) (H : Hp) (E : XK), Room k (A.deeper (envOfC qual scope s.heap.objs.size f cdv)) → DSs (cxOf CX0 P w K mg base N qual scope f cdv A outer s H E).nox EO0 body b) :
    GoodFn P w K mg base (k + 1) x ps (runB b (N.length - ps.length)) := ⟨f, fd, hm, F.kp, F.bindsN hb, fnok_of F S h⟩
def fStuck : Fn := fun _ _ => .stuck
theorem good_stuck (F : FunD K x qual params body scope [] [] f fd) (hm : mg x = some (.ref f)) (S : FnScope N ps scope)
    (hb : ∀ (kV doc pm : Value) (an : Option Addr) (cdv ct : Value) (us : List Value), us.length = ps.length → bindArgs (PySem.W.fnOf x qual params body scope .none kV doc pm an cdv ct) ⟨us, []⟩ = pure (ps.zip us)) :
    GoodFn P w K mg base (k + 1) x ps fStuck :=
  ⟨f, fd, hm, F.kp, F.bindsN hb, F.ok (N := N) (k := k) S (fun vs H Q E ⟨m, ts, th, vr, hl, _, _⟩ => by rw [← vr.length]; exact hl) fun cdv A outer s H vs Q E hr ⟨m, ts, th, vr, hl, R, w⟩ => w.elim⟩
/-- a def that calls itself: f by fuel -/
def recF (b : Fn → MS) (nl : Nat) : Nat → Fn
  | 0 => fStuck
  | n + 1 => runB (b (recF b nl n)) nl
theorem good_rec {b : Fn → MS} (F : FunD K x qual params body scope [] [] f fd) (hm : mg x = some (.ref f)) (S : FnScope N ps scope)
    (hb : ∀ (kV doc pm : Value) (an : Option Addr) (cdv ct : Value) (us : List Value), us.length = ps.length → bindArgs (PySem.W.fnOf x qual params body scope .none kV doc pm an cdv ct) ⟨us, []⟩ = pure (ps.zip us))
    (h : ∀ (j : Nat) (g : Fn), GoodFn P w K mg base (k + 1 + j) x ps g → ∀ (cdv : Value) (A : Around) (outer : List Env) (s : Shared) (H : Hp) (E : XK), Room (k + 1 + j) (A.deeper (envOfC qual scope s.heap.objs.size f cdv)) → DSs (cxOf CX0 P w K mg base N qual scope f cdv A outer s H E).nox EO0 body (b g)) :
    ∀ n, GoodFn P w K mg base (k + 1 + n) x ps (recF b (N.length - ps.length) n)
  | 0 => good_stuck F hm S hb
  | n + 1 => good_of F hm S hb fun cdv A outer s H E hr => h n _ (good_rec F hm S hb h n) cdv A outer s H E hr
end

/-! ### a module's constants; the law -/
theorem gl_str {K : PySem.W.Frag} {mg : Str → Option Value} {x z : Str} (h : ∃ t, mg x = some (.str z t)) : GlV K mg x (.str z) :=
  let ⟨t, h⟩ := h; ⟨_, .str z, h, ⟨t, rfl⟩, fun _ _ => .str z⟩
theorem gl_int {K : PySem.W.Frag} {mg : Str → Option Value} {x : Str} {i : Int} (h : ∃ t, mg x = some (.int i t)) : GlV K mg x (.int i) :=
  let ⟨t, h⟩ := h; ⟨_, .int i, h, ⟨t, rfl⟩, fun _ _ => .int i⟩
theorem sqs_of {K : PySem.W.Frag} {H : Hp} {a : Addr} {xs : List V} (hO : Only H) (h : SqL K H a xs) : SqS K H a xs := by
  rcases h with (h | ⟨o, h⟩) | h
  · rcases hO a with z | ⟨o, ys, z⟩
    · rw [z] at h; cases h
    · rw [z] at h; cases h
  · exact .inl ⟨o, h⟩
  · exact .inr h
theorem law_of {P : Program} {w : World} {K : PySem.W.Frag} {mg : Str → Option Value} {base : Heap} {f : Addr} {fd : FuncData} {ps : List Str} {k : Nat} {F : Fn} {sp : Sp}
    (g : FnOk P w K mg base CX0 k f fd ps (spT ⟨P, w, K, mg⟩ ps.length F)) (h : ∀ vs H Q E, sp vs H Q E → spT ⟨P, w, K, mg⟩ ps.length F vs H Q E) : FnOk P w K mg base CX0 k f fd ps sp := g.imp h
theorem law_sp {G : Gc} {F : Fn} {ns : List Int} {th : TH} {H : Hp} {a : Addr} {Q : VK} {E : XK} (e : F [.scr ns] [] = .ok (.bl true) th) (hS : SqS G.K H a (ns.map V.int)) (hQ : ∀ H', Q (.bl true) H') : spT G 1 F [.ref a] H Q E := by
  refine ⟨[], [.scr ns], [], .cons (.scr hS) .nil, rfl, ⟨rfl, List.nodup_nil, fun i a o h _ => by simp at h⟩, ?_⟩
  show Pn _ _ _ _ (F [.scr ns] []) _
  rw [e]
  intro m' H' _ _ v vr
  cases vr
  exact hQ H'
end TL

/-! T-layer, part S: sets that are made of a list or a tuple, and sorted or counted. -/
namespace TL
open PySem PySem.Spec PyProof.Rows L2
abbrev freshS (w : World) : Obj := { cls := .type "set", dict := none, data := .set #[] 0 (.fresh 0 0 (!w.params.followText "set-order")) }
/-- a kind of elements: what is known of a set of them, how one is added -/
structure SKind (P : Program) (w : World) (K : Type) where
  St : Heap → Addr → List (Value × K) → Prop
  El : Heap → K → Value → Prop
  room : Around → Prop
  fresh : ∀ {h : Heap} {a : Addr}, h.get? a = some (freshS w) → St h a []
  keep : ∀ {h h' : Heap} {a : Addr} {L : List (Value × K)}, St h a L → (∀ o, h.get? a = some o → h'.get? a = some o) → (∀ p ∈ L, El h' p.2 p.1) → St h' a L
  elk : ∀ {h h' : Heap} {k : K} {v : Value}, El h k v → (∀ b o, h.get? b = some o → h'.get? b = some o) → El h' k v
  add : ∀ {A : Around} {E : Value → Shared → Prop} {s : Shared} {a : Addr} {L : List (Value × K)} {v : Value} {k : K} {Q : Bool → Shared → Prop}, room A → St s.heap a L → El s.heap k v → L.length + 1 < 64 →
    (∀ b h' tk L', s.toks ≤ tk → Heap.SameBut a s.heap h' → St h' a L' → (k ∈ L.map (·.2) → L' = L) → (k ∉ L.map (·.2) → L'.Perm ((v, k) :: L)) → Q b { s with heap := h', toks := tk }) → wpAny (model P w) A (setAdd a v) Q E s
  raw : ∀ {h : Heap} {a : Addr} {L : List (Value × K)}, St h a L → L.length < 64 ∧ (L.map (·.2)).Nodup ∧ ∃ (o : Obj) (es : Array (Int × Value)) (ep : Nat) (t : SetTable), h.get? a = some o ∧ o.ExactSet ∧ o.data = .set es ep t ∧ t.fits es.size = true ∧ Ris t.place.toList ∧
    (w.params.followText "set-order" = true ∨ t.led = true) ∧ es.toList.map (·.2) = L.map (·.1)
/-- what has come in of the first i -/
structure Come {K : Type} (ks : List (Value × K)) (i : Nat) (L : List (Value × K)) : Prop where
  sub : ∀ p ∈ L, p ∈ ks.take i
  all : ∀ p ∈ ks.take i, p.2 ∈ L.map (·.2)
  nd : (L.map (·.2)).Nodup
  few : L.length ≤ i
theorem take_snoc {α : Type} {l : List α} {i : Nat} {x : α} (h : l[i]? = some x) : l.take (i + 1) = l.take i ++ [x] := by rw [List.take_succ, h]; rfl
theorem Come.nil {K : Type} (ks : List (Value × K)) : Come ks 0 [] := ⟨fun _ h => (by cases h), fun _ h => (by simp at h), List.nodup_nil, Nat.le_refl _⟩
theorem Come.old {K : Type} {ks L : List (Value × K)} {i : Nat} {x : Value × K} (g : Come ks i L) (h : ks[i]? = some x) (hm : x.2 ∈ L.map (·.2)) : Come ks (i + 1) L := by
  have e := take_snoc h
  refine ⟨fun p hp => ?_, fun p hp => ?_, g.nd, Nat.le_succ_of_le g.few⟩
  · rw [e]; exact List.mem_append_left _ (g.sub p hp)
  · rw [e] at hp
    rcases List.mem_append.mp hp with z | z
    · exact g.all p z
    · have : p = x := by simpa using z
      rw [this]; exact hm
theorem Come.fit {K : Type} {ks L L' : List (Value × K)} {i : Nat} {x : Value × K} (g : Come ks i L) (h : ks[i]? = some x) (hm : x.2 ∉ L.map (·.2)) (pm : L'.Perm (x :: L)) : Come ks (i + 1) L' := by
  have e := take_snoc h
  refine ⟨fun p hp => ?_, fun p hp => ?_, ?_, ?_⟩
  · rw [e]
    rcases List.mem_cons.mp (pm.mem_iff.mp hp) with z | z
    · rw [z]; exact List.mem_append_right _ (List.mem_singleton.mpr rfl)
    · exact List.mem_append_left _ (g.sub p z)
  · rw [(pm.map (·.2)).mem_iff]
    rw [e] at hp
    rcases List.mem_append.mp hp with z | z
    · exact List.mem_cons_of_mem _ (g.all p z)
    · have : p = x := by simpa using z
      rw [this]; exact List.mem_cons_self
  · rw [(pm.map (·.2)).nodup_iff]
    exact List.nodup_cons.mpr ⟨hm, g.nd⟩
  · rw [pm.length_eq]; exact Nat.succ_le_succ g.few
section
variable {P : Program} {w : World} {K : Type} (kd : SKind P w K) {A : Around}
/-- the loop that fills a new set -/
theorem fill_set {I S : Addr} {fp wr : List Addr} {G : Array GenState → Array GenState → Prop} {n : Nat} {Pv : Nat → Value → Prop} {Wn : Nat → Shared → Prop} {R : Result → Shared → Prop} (W : WalksS P w A.in1 I fp wr G n Pv Wn) (hSf : S ∉ fp)
    (ks : List (Value × K)) (hn : n = ks.length) (hfew : ks.length < 64) (hval : ∀ i v, Pv i v → ∃ k, ks[i]? = some (v, k)) (h0 : Heap) (hel : ∀ p ∈ ks, kd.El h0 p.2 p.1) (hS0 : h0.get? S = none) (hw0 : ∀ b ∈ wr, h0.get? b = none) (hu : kd.room A.in1) :
    ∀ (d i : Nat) (s : Shared), n - i = d → i ≤ n → Wn i s → (∀ b o, h0.get? b = some o → s.heap.get? b = some o) → (∃ L, kd.St s.heap S L ∧ Come ks i L) →
      (∀ s' L, Moved (S :: wr) G s s' → kd.St s'.heap S L → Come ks n L → (∀ b o, h0.get? b = some o → s'.heap.get? b = some o) → R (.ok (.ret .none)) s') →
      codeAny (model P w) A (.builtin "set.update.loop" ⟨[.ref S, .ref I], []⟩) R s := by
  have nin : S ∉ wr := fun z => hSf (W.sub _ z)
  have kept : ∀ {s s' : Shared}, Moved wr G s s' → (∀ b o, h0.get? b = some o → s.heap.get? b = some o) → ∀ b o, h0.get? b = some o → s'.heap.get? b = some o :=
    fun mv hk b o e => mv.heap b o (fun z => by rw [hw0 b z] at e; cases e) (hk b o e)
  have same : ∀ {s s' : Shared} {L : List (Value × K)} {i : Nat}, Moved wr G s s' → (∀ b o, h0.get? b = some o → s'.heap.get? b = some o) → kd.St s.heap S L → Come ks i L → kd.St s'.heap S L := fun {s s' L i} mv hk st g =>
    kd.keep st (fun o e => mv.heap S o nin e) fun p hp => kd.elk (hel p (List.mem_of_mem_take (g.sub p hp))) hk
  intro d
  induction d with
  | zero =>
    intro i s hd hi hst hk ⟨L, st, g⟩ hR
    have ei : i = n := by omega
    subst ei
    refine codeAny_builtin PyProof.Rows.F.entry_set_update_loop ?_
    rw [Around.under_plainId PyProof.Rows.F.plain_set_update_loop _]
    refine wpAny_bind (M := model P w) (W.done s _ _ hst fun s' mv => ?_)
    have hk' := kept mv hk
    exact wpAny_pure (hR s' L (mv.mono fun b hb => List.mem_cons_of_mem _ hb) (same mv hk' st g) g hk')
  | succ d ih =>
    intro i s hd hi hst hk ⟨L, st, g⟩ hR
    have hlt : i < n := by omega
    refine codeAny_builtin PyProof.Rows.F.entry_set_update_loop ?_
    rw [Around.under_plainId PyProof.Rows.F.plain_set_update_loop _]
    refine wpAny_bind (M := model P w) (W.item i s _ _ hlt hst fun v s' hP hst' mv => ?_)
    obtain ⟨k, hp⟩ := hval i v hP
    have hk' := kept mv hk
    have st' := same mv hk' st g
    have el : kd.El s'.heap k v := kd.elk (hel (v, k) (List.mem_of_getElem? hp)) hk'
    show wpAny _ A.in1 (holding [v] (setAdd S v) >>= _) _ _ s'
    refine wpAny_bind (wpAny_holding (kd.add hu st' el (by have := g.few; omega) fun b h' tk L' htk sb st2 c1 c2 => ?_))
    have g' : Come ks (i + 1) L' := by
      rcases Classical.em (k ∈ L.map (·.2)) with c | c
      · rw [c1 c]; exact g.old hp c
      · exact g.fit hp c (c2 c)
    have hk2 : ∀ b o, h0.get? b = some o → h'.get? b = some o := fun b o e => (sb.2 b (fun z => by rw [z, hS0] at e; cases e)).trans (hk' b o e)
    refine wpAny_pure ⟨plainId_quiet PyProof.Rows.F.plain_set_update_loop _, ih (i + 1) _ (by omega) hlt (W.frame _ s' _ _ hst' htk fun b hb o e => ?_) hk2 ⟨L', st2, g'⟩ fun s2 L2 mv2 st3 g3 hk3 => ?_⟩
    · exact (sb.2 b (fun z => hSf (z ▸ hb))).trans e
    · refine hR s2 L2 (Moved.trans W.gtrans ((mv.mono fun b hb => List.mem_cons_of_mem _ hb).then_heap htk fun b o hb e => ?_) mv2) st3 g3 hk3
      exact (sb.2 b (fun z => hb (z ▸ List.mem_cons_self))).trans e
variable {E : Value → Shared → Prop} {s : Shared}
/-- set(x) of a list or a tuple -/
theorem make_set {l : Addr} {items : Array Value} (ks : List (Value × K)) {Q : Value → Shared → Prop} (hh : A.handled = none) (hl : s.heap.IsList l items ∨ s.heap.IsTuple l items) (hit : items.toList = ks.map (·.1)) (hel : ∀ p ∈ ks, kd.El s.heap p.2 p.1)
    (hfew : ks.length < 64) (hu : kd.room A.in1.in1.in1) (h : ∀ (h' : Heap) (tk : Nat) L, kd.St h' s.heap.objs.size L → Come ks ks.length L → (∀ b o, s.heap.get? b = some o → h'.get? b = some o) → Q (.ref s.heap.objs.size) { s with heap := h', toks := tk }) :
    wpAny (model P w) A (call (.type "set") [.ref l]) Q E s := by
  have hisz : items.size = ks.length := by rw [← Array.length_toList, hit, List.length_map]
  obtain ⟨c, tl, hmro⟩ := PySem.F.called_set.mro
  have q1 := PySem.F.called_set.made; have q2 := PySem.F.called_set.sub
  refine wpAny_call (codeAny_of_tree (show wpAny _ _ (callAny (.type "set") _) _ _ _ from wpAny_pure ⟨Code.quiet_builtin _ (by decide +kernel), codeAny_builtin PySem.F.entry_type_call ?_⟩))
  rw [Around.under_plain (weight_type_call_type "set" [.ref l] []) rfl]
  have q3 := PySem.F.called_set.notType; have q4 := PySem.F.called_set.canCreate; have q5 := PySem.F.typeCall_set_1 (.ref l)
  repeat (any_goals (first | assumption | wp_step))
  refine codeAny_mono (code_set_led1 (.ref l) (E := E) (Q₁ := fun ob s1 => ob = .ref s.heap.objs.size ∧ s1 = { s with heap := s.heap.push (freshS w) }) ⟨rfl, rfl⟩) fun r s1 hr => ?_
  cases r with
  | error e => exact hr
  | ok fl =>
    cases fl with
    | ret ob =>
      obtain ⟨rfl, rfl⟩ := hr
      have hS : (s.heap.push (freshS w)).get? s.heap.objs.size = some (freshS w) := Heap.get?_push_size _ rfl
      have hT : Shared.TypeIs { s with heap := s.heap.push (freshS w) } (.ref s.heap.objs.size) "set" := ⟨_, hS, rfl⟩
      have q6 := PySem.F.called_set.init.lookup; have q7 := PySem.F.called_set.init.bind (.ref s.heap.objs.size)
      repeat (any_goals (first | assumption | wp_step))
      refine codeAny_mono (codeAny_call_builtin (R := wants (fun r s2 => r = .none ∧ ∃ h' tk L, s2 = { s with heap := h', toks := tk } ∧ kd.St h' s.heap.objs.size L ∧ Come ks ks.length L ∧ (∀ b o, s.heap.get? b = some o → h'.get? b = some o)) E)
        PySem.F.called_set.init.plain PySem.F.entry_set_init (check_set_init_1 hT ?_)) fun r2 s2 hr2 => ?_
      · have none_of : ∀ b, s.heap.objs.size ≤ b → s.heap.get? b = none := fun b hb => by
          cases q : s.heap.get? b with
          | none => rfl
          | some o => exact absurd (Nat.lt_of_lt_of_le (Heap.lt_size q) hb) (Nat.lt_irrefl _)
        have z1 : (s.heap.push (freshS w)).objs.size = s.heap.objs.size + 1 := Heap.size_push ..
        have hval : ∀ (i : Nat) (v : Value), items[i]? = some v → ∃ k, ks[i]? = some (v, k) := fun i v hv => by
          rw [← Array.getElem?_toList, hit, List.getElem?_map] at hv
          cases hq : ks[i]? with
          | none => rw [hq] at hv; cases hv
          | some p => rw [hq] at hv; cases hv; exact ⟨p.2, rfl⟩
        have hh3 : A.in1.in1.in1.handled = none := by simp [hh]
        have fin : ∀ {it : Obj} {Wn : Nat → Heap → Prop} {R : Result → Shared → Prop}, Walks P w A.in1.in1.in1 (s.heap.push (freshS w)).objs.size [(s.heap.push (freshS w)).objs.size, l] [(s.heap.push (freshS w)).objs.size] items.size (fun i v => items[i]? = some v) Wn →
            l < s.heap.objs.size → Wn 0 ((s.heap.push (freshS w)).push it) →
            (∀ s' L, s'.gens = s.gens → s'.drawn = s.drawn → s'.os = s.os → kd.St s'.heap s.heap.objs.size L → Come ks ks.length L → (∀ b o, s.heap.get? b = some o → s'.heap.get? b = some o) → R (.ok (.ret .none)) s') →
            codeAny (model P w) A.in1.in1 (.builtin "set.update.loop" ⟨[.ref s.heap.objs.size, .ref (s.heap.push (freshS w)).objs.size], []⟩) R { s with heap := (s.heap.push (freshS w)).push it } := by
          intro it Wn R W hlS w0 hR
          have hSf : s.heap.objs.size ∉ [(s.heap.push (freshS w)).objs.size, l] := by
            rw [z1]; simp only [List.mem_cons, List.not_mem_nil, or_false, not_or]
            exact ⟨Nat.ne_of_lt (Nat.lt_succ_self _), Nat.ne_of_gt hlS⟩
          refine fill_set kd W.toS hSf ks hisz hfew hval s.heap hel (none_of _ (Nat.le_refl _)) (fun b hb => none_of b (by rw [List.mem_singleton.mp hb, z1]; exact Nat.le_succ _)) hu (items.size - 0) 0 _ rfl (Nat.zero_le _) w0
            (fun b o e => Heap.get?_push_of_some _ (Heap.get?_push_of_some _ e)) ⟨[], kd.fresh (Heap.get?_push_of_some _ hS), Come.nil ks⟩ fun s' L mv st g hk => hR s' L mv.gens mv.drawn mv.os st (by rw [← hisz]; exact g) hk
        rcases hl with hl | hl
        · obtain ⟨ol, hol, hcl, nl, hdl⟩ := id hl
          obtain ⟨ocls, odict, odata, oslots⟩ := ol
          simp only at hcl hdl
          subst hcl; subst hdl
          have hol' : (s.heap.push (freshS w)).get? l = some { cls := .type "list", dict := odict, data := .seq items nl, slots := oslots } := Heap.get?_push_of_some _ hol
          have q8 := PySem.F.sub_list_set; have q9 := PySem.F.sub_list_frozenset
          have hne : (Value.type "list" == Value.type "dict") = false := by decide
          have hl1 : (s.heap.push (freshS w)).IsList l items := ⟨_, hol', rfl, nl, rfl⟩
          unfold Builtin.«set.__init__» noKeywords Builtin.Frozenset.updateFrom
          generalize hPI : pyIter = PI
          wp_walk
          subst hPI
          refine wpAny_pyIter_list hl1 (wpAny_bind (wpAny_runValue ?_))
          have hneI : l ≠ (s.heap.push (freshS w)).objs.size := by rw [z1]; exact Nat.ne_of_lt (Nat.lt_succ_of_lt (Heap.lt_size hol))
          refine fin (Walks.list hh3 _ l hneI items) (Heap.lt_size hol) ⟨⟨_, Heap.get?_push_size _ rfl, rfl, rfl⟩, (hl1.push _)⟩ fun s' L e1 e2 e3 st g hk => ?_
          obtain ⟨h', g', d', tk', os'⟩ := s'
          subst e1 e2 e3
          exact wpAny_pure (wpAny_pure ⟨rfl, h', tk', L, rfl, st, g, hk⟩)
        · obtain ⟨ol, hol, hcl, nl, hdl⟩ := id hl
          obtain ⟨ocls, odict, odata, oslots⟩ := ol
          simp only at hcl hdl
          subst hcl; subst hdl
          have hol' : (s.heap.push (freshS w)).get? l = some { cls := .type "tuple", dict := odict, data := .seq items nl, slots := oslots } := Heap.get?_push_of_some _ hol
          have q8 := PySem.F.sub_tuple_set; have q9 := PySem.F.sub_tuple_frozenset
          have hne : (Value.type "tuple" == Value.type "dict") = false := by decide
          have hl1 : (s.heap.push (freshS w)).IsTuple l items := ⟨_, hol', rfl, nl, rfl⟩
          unfold Builtin.«set.__init__» noKeywords Builtin.Frozenset.updateFrom
          generalize hPI : pyIter = PI
          wp_walk
          subst hPI
          refine wpAny_pyIter_tuple hl1 (wpAny_bind (wpAny_runValue ?_))
          have hneI : l ≠ (s.heap.push (freshS w)).objs.size := by rw [z1]; exact Nat.ne_of_lt (Nat.lt_succ_of_lt (Heap.lt_size hol))
          refine fin (Walks.tuple hh3 _ l hneI items) (Heap.lt_size hol) ⟨⟨_, Heap.get?_push_size _ rfl, rfl, rfl⟩, (hl1.push _)⟩ fun s' L e1 e2 e3 st g hk => ?_
          obtain ⟨h', g', d', tk', os'⟩ := s'
          subst e1 e2 e3
          exact wpAny_pure (wpAny_pure ⟨rfl, h', tk', L, rfl, st, g, hk⟩)
      · cases r2 with
        | error e => exact hr2
        | ok fl2 =>
          cases fl2 with
          | ret r =>
            obtain ⟨rfl, h', tk, L, rfl, st, g, hk⟩ := hr2
            repeat (any_goals (first | assumption | wp_step))
            exact h _ _ _ st g hk
          | _ => exact hr2.elim
    | _ => exact hr.elim
end
end TL

/-! T-layer, part S2: sorted(set(x)), len(set(x)). -/
namespace TL
open PySem PySem.Spec PyProof.Rows L2
theorem perm_map {α β : Type} (f : α → β) : ∀ {ys : List β} {zs : List β}, ys.Perm zs → ∀ l : List α, zs = l.map f → ∃ l' : List α, ys = l'.map f ∧ l'.Perm l := by
  intro ys zs h
  induction h with
  | nil => intro l e; exact ⟨l, by simpa using e, List.Perm.refl _⟩
  | cons x h ih =>
    intro l e
    cases l with
    | nil => cases e
    | cons a l =>
      obtain ⟨e1, e2⟩ := List.cons.inj e
      obtain ⟨l', h1, h2⟩ := ih l e2
      exact ⟨a :: l', by rw [List.map_cons, ← h1, ← e1], h2.cons a⟩
  | swap x y l0 =>
    intro l e
    cases l with
    | nil => cases e
    | cons a l =>
      cases l with
      | nil => simp at e
      | cons b l =>
        simp only [List.map_cons, List.cons.injEq] at e
        obtain ⟨e1, e2, e3⟩ := e
        exact ⟨b :: a :: l, by simp [e1, e2, e3], List.Perm.swap a b l⟩
  | trans h1 h2 ih1 ih2 =>
    intro l e
    obtain ⟨l2, e2, p2⟩ := ih2 l e
    obtain ⟨l3, e3, p3⟩ := ih1 l2 e2
    exact ⟨l3, e3, p3.trans p2⟩
theorem each_mk {α : Type} {R : Value → α → Prop} : ∀ {l : List (Value × α)}, (∀ p ∈ l, R p.1 p.2) → PySem.W.EachIs R (l.map (·.1)) (l.map (·.2))
  | [], _ => .nil
  | p :: l, h => .cons (h p List.mem_cons_self) (each_mk fun q hq => h q (List.mem_cons_of_mem _ hq))
section
variable {P : Program} {w : World} {K : Type} (kd : SKind P w K) {A : Around} {E : Value → Shared → Prop} {s : Shared} {a : Addr} {L : List (Value × K)} {Q : Value → Shared → Prop}
theorem len_kd (st : kd.St s.heap a L) (h : ∀ tk, Q (.int L.length tk) { s with toks := tk + 1 }) : wpAny (model P w) A (call (.builtin "len") [.ref a]) Q E s := by
  obtain ⟨hl, _, o, es, ep, t, ho, ex, hd, hf, _, _, e⟩ := kd.raw st
  have z : es.size = L.length := by
    have := congrArg List.length e
    simpa using this
  refine call_len_set ho ex hd hf (by omega) ?_
  rw [z]
  exact h (s.toks + 1)
theorem sorted_kd (st : kd.St s.heap a L) (hh : A.handled = none) {enc : K → PyData} {R : Value → K → Prop} (hR : ∀ p ∈ L, R p.1 p.2) (hrd : ∀ p ∈ L, ∃ as, Reads s.heap p.1 (enc p.2) as ∧ ∀ b ∈ as, b < s.heap.objs.size)
    (hal : ∀ k ∈ L.map (·.2), ∀ k' ∈ L.map (·.2), PySem.W.alike (enc k) (enc k') = true) (hk : ∀ ks : List K, (∀ k ∈ ks, k ∈ L.map (·.2)) → PySem.W.Sortable (ks.map enc)) (hu : ∀ k ∈ L.map (·.2), A.units + 2 + (enc k).depth < cLine)
    (h : ∀ (s' : Shared) (q : Addr) (out : List Value) (c : Nat) (ks : List K), (∀ b o, s.heap.get? b = some o → s'.heap.get? b = some o) → s'.gens = s.gens → s'.os = s.os → s.heap.objs.size ≤ q → s'.heap.get? q = some (seqObj "list" out.toArray c) → ks.Perm (L.map (·.2)) →
      PySem.W.EachIs R out (ks.mergeSort (PySem.W.dataLe false enc)) → Q (.ref q) s') : wpAny (model P w) A (call (.builtin "sorted") [.ref a]) Q E s := by
  obtain ⟨hl, _, o, es, ep, t, ho, ex, hd, hf, ri, ld, e⟩ := kd.raw st
  have z : es.size = L.length := by
    have := congrArg List.length e
    simpa using this
  refine Calls.call_function_entry kind_sorted plain_sorted entry_sorted (args_sorted1 _) ?_
  unfold Builtin.«sorted»
  refine wpAny_bind (m := checkCount "sorted" 1 1 _) (wpAny_pure (wpAny_bind (collect_set (A := A.in1) hh ⟨o, ho, ex.1, hd⟩ hf (by unfold scanBound; omega) ri ld fun s1 vs k1 hz g1 o1 pm => ?_)))
  rw [e] at pm
  obtain ⟨L1, e1, p1⟩ := perm_map (·.1) pm L rfl
  have hvl : vs.length < 64 := by rw [pm.length_eq, List.length_map]; exact hl
  refine wpAny_bind (wpAny_newList ?_ (by rw [sizeLine_eq]; omega))
  have hoL : (s1.heap.push (seqObj "list" vs.toArray 0)).get? s1.heap.objs.size = some (seqObj "list" vs.toArray 0) := Heap.get?_push_size _ rfl
  have er : PySem.W.EachIs (fun v b => ∃ as, Reads (s1.heap.push (seqObj "list" vs.toArray 0)) v (enc b) as ∧ s1.heap.objs.size ∉ as) (L1.map (·.1)) (L1.map (·.2)) := each_mk fun p hp => by
    obtain ⟨as, r, hlt⟩ := hrd p (p1.mem_iff.mp hp)
    exact ⟨as, PyProof.Rows.Reads.keeps (fun b u q => Heap.get?_push_of_some _ (k1 b u q)) r, fun z => absurd (hlt _ z) (Nat.not_lt.mpr hz)⟩
  have eR : PySem.W.EachIs R (L1.map (·.1)) (L1.map (·.2)) := each_mk fun p hp => hR p (p1.mem_iff.mp hp)
  rw [← e1] at er eR
  refine wpAny_bind (wpAny_holding (PySem.W.list_sort_data (s := { s1 with heap := s1.heap.push (seqObj "list" vs.toArray 0) }) (bs := L1.map (·.2)) (enc := enc) (R := R) hoL eR er (fun d hd e he => ?_) (hk _ fun k hk' => (p1.map (·.2)).mem_iff.mp hk') (by rw [List.length_map, p1.length_eq, sizeLine_eq]; omega) (fun k hk' => ?_) fun out hout E2 => ?_))
  · obtain ⟨k, hk1, rfl⟩ := List.mem_map.mp hd
    obtain ⟨k', hk2, rfl⟩ := List.mem_map.mp he
    exact hal k ((p1.map (·.2)).mem_iff.mp hk1) k' ((p1.map (·.2)).mem_iff.mp hk2)
  · have := hu k ((p1.map (·.2)).mem_iff.mp hk')
    show A.in1.units + 1 + _ < _
    have e3 : A.in1.units = A.units + 1 := rfl
    omega
  · obtain ⟨c, hc⟩ := sortedHeap_at (vs := vs) (out := out.toArray) hoL
    refine wpAny_pure ⟨_, rfl, h _ s1.heap.objs.size out c (L1.map (·.2)) (fun b u q => ?_) g1 o1 hz hc (p1.map _) E2⟩
    have q' := k1 b u q
    have hlt := Heap.lt_size q'
    show (sortedHeap (s1.heap.push (seqObj "list" vs.toArray 0)) s1.heap.objs.size vs out.toArray).get? b = some u
    rw [sortedHeap_old (Nat.ne_of_lt hlt) (by rw [size_push']; exact Nat.lt_succ_of_lt hlt)]
    exact Heap.get?_push_of_some _ q'
end
end TL

/-! T-layer, part S3: sets of ints and texts. -/
namespace TL
open PySem PySem.Spec PyProof.Rows L2
structure ScanS (P : Program) (w : World) (h : Heap) (a : Addr) (L : List (Value × Key)) : Prop where
  ob : ∃ (o : Obj) (es : Array (Int × Value)) (ep : Nat) (t : SetTable), h.get? a = some o ∧ o.ExactSet ∧ o.data = .set es ep t ∧ es.toList = L.map (fun p => ((mixKind P w).hash p.2, p.1)) ∧ t.fits es.size = true ∧ Ris t.place.toList ∧ (w.params.followText "set-order" = true ∨ t.led = true)
  nd : (L.map (·.2)).Nodup
  few : L.length < 64
  el : ∀ p ∈ L, (mixKind P w).is p.2 p.1 = true ∧ p.1.scannable = true
section
variable {P : Program} {w : World} {A : Around} {E : Value → Shared → Prop} {s : Shared} {a : Addr} {L : List (Value × Key)}
theorem scan_elems {es : Array (Int × Value)} (e : es.toList = L.map (fun p => ((mixKind P w).hash p.2, p.1))) (el : ∀ p ∈ L, (mixKind P w).is p.2 p.1 = true ∧ p.1.scannable = true) : ElemsOf (mixKind P w) es.toList := fun x hx => by
  rw [e] at hx
  obtain ⟨p, hp, rfl⟩ := List.mem_map.mp hx
  exact ⟨⟨p.2, (el p hp).1, rfl⟩, (el p hp).2⟩
/-- the store behind a new element -/
theorem scan_tail {g : Bool → Sem Unit} (hg : ∀ (b : Bool) (s1 : Shared) (Q' : Unit → Shared → Prop), Q' () s1 → wpAny (model P w) A (g b) Q' E s1) {o : Obj} {es : Array (Int × Value)} {ep : Nat} {t : SetTable} (ho : s.heap.get? a = some o) (ex : o.ExactSet) (hd : o.data = .set es ep t)
    {es1 : Array (Int × Value)} {t2 : SetTable} {L1 : List (Value × Key)} (e1 : es1.toList = L1.map (fun p => ((mixKind P w).hash p.2, p.1))) (nd : (L1.map (·.2)).Nodup) (few : L1.length < 64) (el : ∀ p ∈ L1, (mixKind P w).is p.2 p.1 = true ∧ p.1.scannable = true)
    (hf : t2.fits es1.size = true) (ri : Ris t2.place.toList) (ld : w.params.followText "set-order" = true ∨ t2.led = true) {wd : Bool} {R : Option Bool → Shared → Prop} (hR : ∀ h' L', Heap.SameBut a s.heap h' → ScanS P w h' a L' → L'.Perm L1 → R (some true) { s with heap := h' }) :
    wpAny (model P w) A (do
        storeSet a es1 t2
        if (!wd && t2.tooFull) = true then do
            g (relayAll t2 es1 (SetTable.grown es1.size)).2.2
            storeSet a (relayAll t2 es1 (SetTable.grown es1.size)).1 (relayAll t2 es1 (SetTable.grown es1.size)).2.1
            pure (some true)
          else pure (some true)) R E s := by
  have z1 : es1.size = L1.length := by rw [← Array.length_toList, e1, List.length_map]
  refine wpAny_bind (wpAny_storeSet_of ho hd ?_ (by rw [z1, sizeLine_eq]; omega))
  have ho1 := store_at (es' := es1) (t' := t2) ho hd
  have sb := Heap.SameBut.update s.heap a (Obj.putSet es1 t2)
  split
  · have pm := relayAll_perm t2 es1 (SetTable.grown es1.size)
    have f3 := relayAll_fits t2 es1 (SetTable.grown es1.size)
    have r3 := relayAll_ris t2 es1 (SetTable.grown es1.size)
    have l3 := relayAll_led t2 es1 (SetTable.grown es1.size)
    generalize relayAll t2 es1 (SetTable.grown es1.size) = Z at pm f3 r3 l3 ⊢
    obtain ⟨es2, t3, gave⟩ := Z
    dsimp only at pm f3 r3 l3 ⊢
    rw [e1] at pm
    obtain ⟨L2, e2, p2⟩ := perm_map (fun p : Value × Key => ((mixKind P w).hash p.2, p.1)) pm L1 rfl
    have z2 : es2.size = L1.length := by rw [← Array.length_toList, e2, List.length_map, p2.length_eq]
    refine wpAny_bind (hg _ _ _ (wpAny_bind (wpAny_storeSet_of ho1 rfl ?_ (by rw [z2, sizeLine_eq]; omega))))
    have ho2 := store_at (es' := es2) (t' := t3) ho1 rfl
    refine wpAny_pure (hR _ L2 (sb.trans (Heap.SameBut.update _ a _)) ⟨⟨_, es2, _, t3, ho2, ex, rfl, e2, f3, r3, ld.imp id fun z => by rw [l3]; exact z⟩, (p2.map (·.2)).nodup_iff.mpr nd, by rw [p2.length_eq]; exact few, fun p hp => el p (p2.mem_iff.mp hp)⟩ p2)
  · exact wpAny_pure (hR _ L1 sb ⟨⟨_, es1, _, t2, ho1, ex, rfl, e1, hf, ri, ld⟩, nd, few, el⟩ (List.Perm.refl _))
theorem scan_add {v : Value} {k : Key} {Q : Bool → Shared → Prop} (R : ScanS P w s.heap a L) (hk : (mixKind P w).is k v = true) (hs : v.scannable = true) (hfew : L.length + 1 < 64)
    (hQ : ∀ b h' L', Heap.SameBut a s.heap h' → ScanS P w h' a L' → (k ∈ L.map (·.2) → L' = L) → (k ∉ L.map (·.2) → L'.Perm ((v, k) :: L)) → Q b { s with heap := h' }) : wpAny (model P w) A (setAddHashed a v ((mixKind P w).hash k)) Q E s := by
  obtain ⟨o, es, ep, t, ho, ex, hd, he, hf, ri, ld⟩ := R.ob
  have hel := scan_elems he R.el
  have z : es.size = L.length := by rw [← Array.length_toList, he, List.length_map]
  have hb : es.size < scanBound := by unfold scanBound; omega
  unfold setAddHashed setAddHashedIn
  refine wpAny_holding (wpAny_bind (wpAny_setState_of ho hd hf ?_))
  dsimp only
  rw [byScan_of hs hb hel]
  simp only [↓reduceIte]
  unfold setAddByScan
  refine wpAny_bind (wpAny_bind (wpAny_rule (wpAny_bind (wpAny_setScan_of hk ho hd hf hel ?_))))
  have mem : ∀ p ∈ L, ((mixKind P w).is k p.1 = true ↔ p.2 = k) := fun p hp => ⟨fun q => (mixKind P w).inj _ _ _ (R.el p hp).1 q, fun q => q ▸ (R.el p hp).1⟩
  cases hfi : List.findIdx? (fun e => (mixKind P w).is k e.2) es.toList with
  | some j =>
    dsimp only
    obtain ⟨hj, pj, _⟩ := List.findIdx?_eq_some_iff_getElem.mp hfi
    have hin : k ∈ L.map (·.2) := by
      obtain ⟨x, hx, px⟩ : ∃ x ∈ es.toList, (mixKind P w).is k x.2 = true := ⟨_, List.getElem_mem hj, pj⟩
      rw [he] at hx
      obtain ⟨p, hp, ep⟩ := List.mem_map.mp hx
      have q : (mixKind P w).is k p.1 = true := by rw [← ep] at px; exact px
      exact List.mem_map.mpr ⟨p, hp, (mem p hp).mp q⟩
    exact wpAny_pure (wpAny_pure (hQ _ s.heap L (Heap.SameBut.refl a s.heap) R (fun _ => rfl) fun c => absurd hin c))
  | none =>
    dsimp only
    have hnk : k ∉ L.map (·.2) := fun q => by
      obtain ⟨p, hp, ep⟩ := List.mem_map.mp q
      have c := List.findIdx?_eq_none_iff.mp hfi ((mixKind P w).hash p.2, p.1) (by rw [he]; exact List.mem_map.mpr ⟨p, hp, rfl⟩)
      rw [(mem p hp).mpr ep] at c
      cases c
    have gw : ∀ (b : Bool) {s1 : Shared} {Q' : Unit → Shared → Prop}, Q' () s1 → wpAny (model P w) A (match b with | true => rule "set.scan.the-table-gave-way" | false => pure ()) Q' E s1 :=
      fun b s1 Q' q => by cases b <;> first | exact wpAny_pure q | exact wpAny_rule q
    have pm := layNew_perm t es ((mixKind P w).hash k) v
    have f1 := layNew_fits t es ((mixKind P w).hash k) v
    have r1 := layNew_ris t es ((mixKind P w).hash k) v ri
    have l1 := layNew_led t es ((mixKind P w).hash k) v
    generalize layNew t es ((mixKind P w).hash k) v = Z at pm f1 r1 l1 ⊢
    obtain ⟨es1, t1, wd, gave⟩ := Z
    dsimp only at pm f1 r1 l1 ⊢
    rw [Array.toList_push, he] at pm
    obtain ⟨L1, e1, p1⟩ := perm_map (fun p : Value × Key => ((mixKind P w).hash p.2, p.1)) (pm.trans (List.perm_append_singleton _ _)) ((v, k) :: L) rfl
    have nd1 : (L1.map (·.2)).Nodup := (p1.map (·.2)).nodup_iff.mpr (List.nodup_cons.mpr ⟨hnk, R.nd⟩)
    have el1 : ∀ p ∈ L1, (mixKind P w).is p.2 p.1 = true ∧ p.1.scannable = true := fun p hp => by
      rcases List.mem_cons.mp (p1.mem_iff.mp hp) with q | q
      · rw [q]; exact ⟨hk, hs⟩
      · exact R.el p q
    have few1 : L1.length < 64 := by rw [p1.length_eq]; exact hfew
    have ld1 : w.params.followText "set-order" = true ∨ t1.led = true := ld.imp id fun q => by rw [l1]; exact q
    refine wpAny_bind (gw _ ?_)
    split
    · refine wpAny_bind ?_
      rw [hashByValue_scannable 8 hs]
      refine wpAny_pure (scan_tail ?_ ho ex hd e1 nd1 few1 el1 ?_ ?_ ?_ ?_)
      · intro b s1 Q' q; cases b <;> first | exact wpAny_pure q | exact wpAny_rule q
      · first | (split <;> first | exact f1 | exact SetTable.fits_plain_off f1) | exact f1
      · first | (split <;> exact r1) | exact r1
      · first | (split <;> exact ld1) | exact ld1
      · intro h' L' sb r p; dsimp only; exact wpAny_pure (hQ _ h' L' sb r (fun c => absurd c hnk) fun _ => p.trans p1)
    · refine wpAny_bind (wpAny_pure ?_)
      simp only [↓reduceIte]
      refine scan_tail ?_ ho ex hd e1 nd1 few1 el1 f1 r1 ld1 ?_
      · intro b s1 Q' q; cases b <;> first | exact wpAny_pure q | exact wpAny_rule q
      · intro h' L' sb r p; dsimp only; exact wpAny_pure (hQ _ h' L' sb r (fun c => absurd c hnk) fun _ => p.trans p1)
end
def scanKind (P : Program) (w : World) : SKind P w Key where
  St := ScanS P w
  El := fun _ k v => (mixKind P w).is k v = true ∧ v.scannable = true
  room := fun _ => True
  fresh := fun {h a} e => ⟨⟨_, #[], 0, _, e, ⟨rfl, rfl, rfl⟩, rfl, rfl, rfl, List.Pairwise.nil, by
    show _ ∨ (!w.params.followText "set-order") = true
    cases w.params.followText "set-order"
    · exact .inr rfl
    · exact .inl rfl⟩, List.nodup_nil, by decide, fun p hp => by cases hp⟩
  keep := fun st ka _ => ⟨let ⟨o, es, ep, t, ho, r⟩ := st.ob; ⟨o, es, ep, t, ka o ho, r⟩, st.nd, st.few, st.el⟩
  elk := fun h _ => h
  add := fun {A E s a L v k Q} _ st el few h => by
    unfold setAdd
    refine wpAny_holding (wpAny_bind ((mixKind P w).pyHash el.1 (scan_add (s := { s with toks := s.toks + 1 }) st el.1 el.2 few fun b h' L' sb st' c1 c2 => h b h' (s.toks + 1) L' (Nat.le_succ _) sb st' c1 c2)))
  raw := fun st => ⟨st.few, st.nd, let ⟨o, es, ep, t, ho, ex, hd, he, hf, ri, ld⟩ := st.ob; ⟨o, es, ep, t, ho, ex, hd, hf, ri, ld, by rw [he, List.map_map]; rfl⟩⟩
end TL

/-! T-layer, part S4: sets of flat tuples (of ints, texts, None). -/
namespace TL
open PySem PySem.Spec PyProof.Rows L2
def leafK : NestedKey → Bool
  | .tup _ => false
  | _ => true
/-- v is a flat tuple, the key k -/
def FlatT (h : Heap) (k : NestedKey) (v : Value) : Prop := ∃ b ks, v = .ref b ∧ k = .tup ks ∧ NestedIs h k (.ref b) ∧ k.depth ≤ 8 ∧ ∀ x ∈ ks, leafK x = true
theorem FlatT.keep {h h' : Heap} {k : NestedKey} {v : Value} (x : FlatT h k v) (hk : ∀ b o vs n, h.get? b = some o → o.data = .seq vs n → h'.get? b = some o) : FlatT h' k v :=
  let ⟨b, ks, e1, e2, e3, e4, e5⟩ := x; ⟨b, ks, e1, e2, NestedIs.at hk _ _ e3, e4, e5⟩
theorem leaf_vals {h : Heap} : ∀ {ks : List NestedKey} {vs : List Value}, NestedAll h ks vs → (∀ x ∈ ks, leafK x = true) → ∀ v ∈ vs, ∃ x, NestedIs h x v ∧ leafK x = true
  | _, _, .nil, _, v, hv => by cases hv
  | _, _, .cons a b, hl, v, hv => by
    rcases List.mem_cons.mp hv with e | hv
    · rw [e]; exact ⟨_, a, hl _ List.mem_cons_self⟩
    · exact leaf_vals b (fun x hx => hl x (List.mem_cons_of_mem _ hx)) v hv
theorem leaf_cls {h : Heap} {x : NestedKey} {v : Value} (a : NestedIs h x v) (hl : leafK x = true) (n : Nat) : ofAClassStatement n v = pure false := by
  cases a with
  | tup => cases hl
  | none => cases n <;> rfl
  | bool _ => cases n <;> rfl
  | int _ _ => cases n <;> rfl
  | text _ _ => cases n <;> rfl
theorem leaf_hash {h : Heap} {x : NestedKey} {v : Value} (a : NestedIs h x v) (hl : leafK x = true) (n : Nat) : ∃ b, hashByValue n v = pure b := by
  cases a with
  | tup => cases hl
  | none => exact ⟨_, hashByValue_scannable n rfl⟩
  | bool _ => exact ⟨_, hashByValue_scannable n rfl⟩
  | int _ _ => exact ⟨_, hashByValue_scannable n rfl⟩
  | text _ _ => exact ⟨_, hashByValue_scannable n rfl⟩
section
variable {P : Program} {w : World} {A : Around} {E : Value → Shared → Prop} {s : Shared}
theorem flat_cls {k : NestedKey} {v : Value} {Q : Bool → Shared → Prop} (x : FlatT s.heap k v) (h : Q false s) : wpAny (model P w) A (ofAClassStatement 8 v) Q E s := by
  obtain ⟨b, ks, rfl, rfl, ni, _, hl⟩ := x
  cases ni with
  | @tup _ o vs n _ ho hc hd ha =>
  have hT : s.TypeIs (.ref b) "tuple" := ⟨o, ho, hc⟩
  unfold ofAClassStatement
  refine wpAny_bind (wpAny_typeOf hT ?_)
  dsimp only
  have e : (("tuple" : String) == "tuple") = true := by decide
  simp only [e, if_true, Bool.not_true, Bool.false_eq_true, if_false]
  show wpAny _ _ (seqItems? (.ref b) >>= _) _ _ s
  refine wpAny_bind (wpAny_seqItems ho hd (wpAny_bind ?_))
  show wpAny _ _ (forIn vs _ _) _ _ s
  rw [← Array.forIn_toList]
  refine wpAny_forIn_list _ (fun rest r s' => r.1 = none ∧ s' = s ∧ ∀ v ∈ rest, ∃ x, NestedIs s.heap x v ∧ leafK x = true) _ ?_ ?_ _ _ ⟨rfl, rfl, leaf_vals ha hl⟩
  · rintro v rest r s' ⟨hr, rfl, all⟩
    obtain ⟨x, a1, a2⟩ := all v List.mem_cons_self
    rw [leaf_cls a1 a2]
    refine wpAny_bind (wpAny_pure ?_)
    simp only [Bool.false_eq_true, if_false]
    exact wpAny_pure ⟨rfl, rfl, fun u hu => all u (List.mem_cons_of_mem _ hu)⟩
  · rintro ⟨r1, r2⟩ s' ⟨hr, rfl, _⟩
    cases (show r1 = none from hr)
    exact wpAny_pure h
theorem flat_hash {k : NestedKey} {v : Value} {Q : Bool → Shared → Prop} (x : FlatT s.heap k v) (h : ∀ b, Q b s) : wpAny (model P w) A (hashByValue 8 v) Q E s := by
  obtain ⟨b, ks, rfl, rfl, ni, _, hl⟩ := x
  cases ni with
  | @tup _ o vs n _ ho hc hd ha =>
  have hT : s.TypeIs (.ref b) "tuple" := ⟨o, ho, hc⟩
  unfold hashByValue
  refine wpAny_bind (wpAny_specialOf hT PySem.F.slot_tuple_hash.lookup ?_)
  show wpAny _ _ (seqItems? (.ref b) >>= _) _ _ s
  refine wpAny_bind (wpAny_seqItems ho hd (wpAny_bind ?_))
  show wpAny _ _ (forIn vs _ _) _ _ s
  rw [← Array.forIn_toList]
  refine wpAny_forIn_list _ (fun rest r s' => (r.1 = none ∨ ∃ b, r.1 = some b) ∧ s' = s ∧ ∀ v ∈ rest, ∃ x, NestedIs s.heap x v ∧ leafK x = true) _ ?_ ?_ _ _ ⟨.inl rfl, rfl, leaf_vals ha hl⟩
  · rintro v rest r s' ⟨hr, rfl, all⟩
    obtain ⟨x, a1, a2⟩ := all v List.mem_cons_self
    obtain ⟨bb, eb⟩ := leaf_hash a1 a2 7
    rw [eb]
    refine wpAny_bind (wpAny_pure ?_)
    cases bb
    · exact wp_if_pos rfl (wpAny_pure (wpAny_pure (h _)))
    · exact wp_if_neg (by decide) (wpAny_pure ⟨.inl rfl, rfl, fun u hu => all u (List.mem_cons_of_mem _ hu)⟩)
  · rintro ⟨r1, r2⟩ s' ⟨hr, rfl, _⟩
    rcases (show r1 = none ∨ ∃ b, r1 = some b from hr) with e | ⟨b, e⟩
    · cases e; exact wpAny_pure (h _)
    · cases e; exact wpAny_pure (h _)
theorem flat_quiet {k : NestedKey} {v : Value} {Q : Bool → Shared → Prop} (x : FlatT s.heap k v) (h : Q true s) : wpAny (model P w) A (eqIsQuiet 8 v) Q E s := by
  obtain ⟨b, ks, rfl, rfl, ni, hd, _⟩ := x
  exact quiet_key _ _ 8 s ni hd A E Q h
theorem flat_eq {k k' : NestedKey} {v v' : Value} {Q : Bool → Shared → Prop} (hu : A.units + 8 < cLine) (x : FlatT s.heap k v) (y : FlatT s.heap k' v') (h : Q (decide (k = k')) s) : wpAny (model P w) A (eqBool v v') Q E s := by
  obtain ⟨b, ks, rfl, rfl, ni, hd, _⟩ := x
  obtain ⟨b', ks', rfl, rfl, ni', hd', _⟩ := y
  exact (nestedKind P w).eqBool (by exact hu) ⟨ni, hd⟩ ⟨ni', hd'⟩ h
/-- no search among flat tuples shows anything -/
theorem flat_seen {k : NestedKey} {b : Addr} {Q : Bool → Shared → Prop} (x : FlatT s.heap k (.ref b)) {ys : List Value} (hy : ∀ y ∈ ys, ∃ k' c, y = Value.ref c ∧ FlatT s.heap k' y) (h : Q false s) : wpAny (model P w) A (searchCouldBeSeen (.ref b) ys) Q E s := by
  unfold searchCouldBeSeen
  refine wpAny_bind (wpAny_forIn_list _ (fun rest r s' => r.1 = none ∧ s' = s ∧ ∀ y ∈ rest, ∃ k' c, y = Value.ref c ∧ FlatT s.heap k' y) _ ?_ ?_ _ _ ⟨rfl, rfl, hy⟩)
  · rintro v rest r s' ⟨hr, rfl, all⟩
    obtain ⟨k', c, rfl, y⟩ := all v List.mem_cons_self
    have all' : ∀ y ∈ rest, ∃ k' c, y = Value.ref c ∧ FlatT s'.heap k' y := fun u hu => all u (List.mem_cons_of_mem _ hu)
    dsimp only
    by_cases hv : (b == c || (carriedByValue (.ref b) && carriedByValue (.ref c))) = true
    · exact wp_if_pos hv (wpAny_pure ⟨rfl, rfl, all'⟩)
    · refine wp_if_neg hv (wpAny_bind (flat_quiet x ?_))
      simp only [Bool.not_true, Bool.false_eq_true, if_false]
      refine wpAny_bind (flat_quiet y ?_)
      simp only [Bool.not_true, Bool.false_eq_true, if_false]
      refine wpAny_bind (flat_cls x ?_)
      simp only [Bool.false_eq_true, if_false]
      refine wpAny_bind (flat_cls y ?_)
      simp only [Bool.false_eq_true, if_false]
      exact wpAny_pure ⟨rfl, rfl, all'⟩
  · rintro ⟨r1, r2⟩ s' ⟨hr, rfl, _⟩
    cases (show r1 = none from hr)
    exact wpAny_pure h
end
/-- the hash and the value of an element -/
def rowK (w : World) (p : Value × NestedKey) : Int × Value := (p.2.hash w, p.1)
structure TupS (w : World) (h : Heap) (a : Addr) (L : List (Value × NestedKey)) (es : Array (Int × Value)) (ep : Nat) (t : SetTable) : Prop where
  ob : ∃ o, h.get? a = some o ∧ o.ExactSet ∧ o.data = .set es ep t
  rows : es.toList = L.map (rowK w)
  tab : TabOk t (L.map fun p => p.2.hash w)
  nd : (L.map (·.2)).Nodup
  el : ∀ p ∈ L, FlatT h p.2 p.1
  led : w.params.followText "set-order" = true ∨ t.led = true
  room : L.length * 5 < t.mask * 3
  few : L.length < 64
section
variable {P : Program} {w : World} {A : Around} {E : Value → Shared → Prop} {s : Shared} {a : Addr} {L : List (Value × NestedKey)} {es : Array (Int × Value)} {ep : Nat} {t : SetTable}
theorem TupS.size {h : Heap} (R : TupS w h a L es ep t) : es.size = L.length := by rw [← Array.length_toList, R.rows, List.length_map]
theorem TupS.fits {h : Heap} (R : TupS w h a L es ep t) : t.fits es.size = true := by
  have h1 := R.tab.sz
  rw [List.length_map] at h1
  have h2 := R.size
  have h3 := R.room
  unfold SetTable.fits SetTable.fill
  rw [R.tab.dm, Bool.and_eq_true, beq_iff_eq, decide_eq_true_eq]
  exact ⟨by omega, by show t.place.size + 0 ≤ t.mask; omega⟩
theorem TupS.at {h : Heap} (R : TupS w h a L es ep t) {i : Nat} {p : Value × NestedKey} (e : L[i]? = some p) : es[i]? = some (rowK w p) := by
  rw [← Array.getElem?_toList, R.rows, List.getElem?_map, e]; rfl
theorem TupS.odd {h : Heap} (R : TupS w h a L es ep t) : ¬ t.gaveWay = true := by
  unfold SetTable.gaveWay
  rw [mask_odd R.tab.mok]; decide
abbrev prb (t : SetTable) (h : Int) (c : Nat) : SetTable.Probe := nth t.mask (runAt t.mask (SetTable.bits h % (t.mask + 1)) (SetTable.bits h)) c
theorem prb_dummy (m : Nat) : ∀ (n : Nat) (p : SetTable.Probe), p.dummy = none → (nth m p n).dummy = none
  | 0, _, h => h
  | n + 1, p, h => prb_dummy m n (adv m p) (by unfold adv; split <;> exact h)
/-- the search for a key, from the c-th place on its way -/
theorem tup_search (R : TupS w s.heap a L es ep t) {x : Value} {k : NestedKey} (hx : FlatT s.heap k x) (hu : A.units + 8 < cLine) {K : Nat} (hKf : K < 10 * SetTable.turns t.mask) (hK : way t.mask (k.hash w) K ∉ t.place.toList) (hKb : ∀ c, c < K → way t.mask (k.hash w) c ∈ t.place.toList)
    {Q : SetFound → Shared → Prop} (hin : k ∈ L.map (·.2) → Q (.there none) s) (hout : k ∉ L.map (·.2) → Q (.free (way t.mask (k.hash w) K) false) s) :
    ∀ (f c : Nat) (stand : Option SetTable.Probe), stand.getD (t.probeStart (k.hash w)) = prb t (k.hash w) c → c ≤ K → K - c < f → (∀ (i : Nat) p, L[i]? = some p → p.2 = k → ∃ c', c ≤ c' ∧ c' < K ∧ t.place.toList[i]? = some (way t.mask (k.hash w) c')) →
      wpAny (model P w) A (setSearchFrom a x (k.hash w) true f stand) Q E s
  | 0, _, _, _, _, hf, _ => absurd hf (Nat.not_lt_zero _)
  | f + 1, c, stand, hst, hc, hf, hre => by
    obtain ⟨o, ho, ex, hd⟩ := R.ob
    rw [setSearchFrom_succ]
    refine wpAny_bind (wpAny_setState_of ho hd R.fits (wp_if_neg R.odd ?_))
    have sh : ∀ q, nth t.mask (prb t (k.hash w) c) q = prb t (k.hash w) (c + q) := fun q => (nth_add t.mask c _ q).symm
    have wy : ∀ q, (nth t.mask (prb t (k.hash w) c) q).j = way t.mask (k.hash w) (c + q) := fun q => congrArg SetTable.Probe.j (sh q)
    have spec := go_spec t R.tab.ris R.tab.dm (fun i => (es[i]?.map (·.1)).getD 0) (k.hash w) (10 * SetTable.turns t.mask) (K - c) (prb t (k.hash w) c) (prb_dummy _ _ _ rfl) (by omega)
      (fun q hq => by rw [wy]; exact hKb (c + q) (by omega)) (by rw [wy, show c + (K - c) = K by omega]; exact hK)
    have hashAt : ∀ (i : Nat) p, L[i]? = some p → (es[i]?.map (·.1)).getD 0 = p.2.hash w := fun i p hp => by rw [R.at hp]; rfl
    rcases spec with ⟨q, i, hq, hi, hh, hno, hpr⟩ | ⟨hno, hpr⟩
    · have hpr' : t.probe (fun i => (es[i]?.map (·.1)).getD 0) (k.hash w) (stand.getD (t.probeStart (k.hash w))) = some (.candidate (way t.mask (k.hash w) (c + q)) i (prb t (k.hash w) (c + (q + 1)))) := by
        rw [hst, ← wy, ← sh]; exact hpr
      rw [hpr']
      dsimp only
      rw [wy] at hi
      have hil : i < L.length := by
        have h1 : i < t.place.toList.length := (List.getElem?_eq_some_iff.mp hi).1
        have h2 := R.tab.sz
        rw [List.length_map] at h2
        rw [Array.length_toList] at h1
        omega
      obtain ⟨p, hp⟩ : ∃ p, L[i]? = some p := ⟨_, List.getElem?_eq_getElem hil⟩
      have hmem : p ∈ L := List.mem_of_getElem? hp
      have rest : wpAny (model P w) A (searchRest a x (k.hash w) true f es t (way t.mask (k.hash w) (c + q)) i (prb t (k.hash w) (c + (q + 1)))) Q E s := by
        unfold searchRest
        rw [R.at hp]
        refine wpAny_bind (wpAny_holding (flat_eq hu (R.el p hmem) hx (wpAny_bind (wpAny_setState_of ho hd R.fits ?_))))
        dsimp only
        by_cases hkk : p.2 = k
        · exact wp_if_pos (by simp [hkk]) (wpAny_pure (hin (List.mem_map.mpr ⟨p, hmem, hkk⟩)))
        · refine wp_if_neg (by simp [hkk]) ?_
          try refine wpAny_bind (wpAny_pure ?_)
          rw [sameMem]
          dsimp only
          have hsl : t.slot (way t.mask (k.hash w) (c + q)) = .live i := slot_live R.tab.ris hi
          obtain ⟨b, ks, e1, _⟩ := R.el p hmem
          simp only [if_true, hsl, R.at hp, rowK, e1]
          refine wpAny_bind (wpAny_isSame_ref_self (wpAny_bind (wpAny_pure ?_)))
          simp only [if_true]
          refine wp_if_neg (by simp [hkk]) (tup_search R hx hu hKf hK hKb hin hout f (c + (q + 1)) _ rfl (by omega) (by omega) fun i0 p0 h0 hk0 => ?_)
          obtain ⟨c', a1, a2, a3⟩ := hre i0 p0 h0 hk0
          refine ⟨c', ?_, a2, a3⟩
          rcases Nat.lt_trichotomy c' (c + q) with z | z | z
          · refine absurd ((hashAt i0 p0 h0).trans (by rw [hk0])) (hno (c' - c) i0 (by omega) (by rw [wy, show c + (c' - c) = c' by omega]; exact a3))
          · rw [z] at a3
            have s0 := slot_live R.tab.ris a3
            rw [hsl] at s0
            injection s0 with s0
            rw [← s0, hp] at h0
            cases h0
            exact absurd hk0 hkk
          · omega
      by_cases hl : t.led = true
      · refine wp_if_neg (by simp [hl]) ?_
        try refine wpAny_bind (wpAny_pure ?_)
        exact rest
      · refine wp_if_pos (by simp [hl]) ?_
        obtain ⟨b, ks, rfl, r⟩ := hx
        refine wpAny_bind (flat_seen (k := k) ⟨b, ks, rfl, r⟩ (fun y hy => ?_) (wp_if_neg (by decide) ?_))
        · obtain ⟨e, he, ee⟩ := List.mem_map.mp hy
          have he1 : e ∈ es ∧ e.1 = k.hash w := by simpa using he
          have he2 : e ∈ es.toList := by simpa using he1.1
          rw [R.rows] at he2
          obtain ⟨p2, hp2, e2⟩ := List.mem_map.mp he2
          have x2 := R.el p2 hp2
          have ey : y = p2.1 := by rw [← ee, ← e2]; rfl
          obtain ⟨c, ks2, e3, r3⟩ := id x2
          exact ⟨p2.2, c, ey.trans e3, by rw [ey]; exact x2⟩
        · try refine wpAny_bind (wpAny_pure ?_)
          exact rest
    · have hpr' : t.probe (fun i => (es[i]?.map (·.1)).getD 0) (k.hash w) (stand.getD (t.probeStart (k.hash w))) = some (.empty (way t.mask (k.hash w) K) none) := by
        have e2 : way t.mask (k.hash w) K = (nth t.mask (prb t (k.hash w) c) (K - c)).j := by rw [wy, show c + (K - c) = K by omega]
        rw [hst, e2]; exact hpr
      rw [hpr']
      dsimp only
      refine wpAny_pure (hout fun hm => ?_)
      obtain ⟨p0, h0, hk0⟩ := List.mem_map.mp hm
      obtain ⟨i0, hi0, e0⟩ := List.getElem_of_mem h0
      have h00 : L[i0]? = some p0 := by rw [List.getElem?_eq_getElem hi0, e0]
      obtain ⟨c', a1, a2, a3⟩ := hre i0 p0 h00 hk0
      exact hno (c' - c) i0 (by omega) (by rw [wy, show c + (c' - c) = c' by omega]; exact a3) ((hashAt i0 p0 h00).trans (by rw [hk0]))
end
end TL

/-! T-layer, part S5: sets of flat tuples, adding. -/
namespace TL
open PySem PySem.Spec PyProof.Rows L2
theorem range_pick {α : Type} (L : List α) : ∀ n, n ≤ L.length → (List.range n).filterMap (fun i => L[i]?) = L.take n
  | 0, _ => rfl
  | n + 1, h => by
    rw [List.range_succ, List.filterMap_append, range_pick L n (by omega), take_snoc (List.getElem?_eq_getElem (show n < L.length by omega)), List.filterMap_cons_some (List.getElem?_eq_getElem (show n < L.length by omega))]
    rfl
theorem ins_perm {α : Type} (L : List α) (p : Nat) (x : α) : (L.take p ++ x :: L.drop p).Perm (x :: L) := by
  have h : (L.take p ++ x :: L.drop p).Perm (x :: (L.take p ++ L.drop p)) := List.perm_middle
  rwa [List.take_append_drop] at h
section
variable {P : Program} {w : World} {A : Around} {E : Value → Shared → Prop} {s : Shared} {a : Addr} {L : List (Value × NestedKey)} {es : Array (Int × Value)} {ep : Nat} {t : SetTable}
/-- the elements in another order -/
theorem rows_order (order : Array Nat) (hr : es.toList = L.map (rowK w)) (hp : order.toList.Perm (List.range L.length)) :
    ∃ L2 : List (Value × NestedKey), (order.filterMap (es[·]?)).toList = L2.map (rowK w) ∧ L2.Perm L ∧ (L2.map fun p => p.2.hash w) = order.toList.map fun i => (es.map (·.1)).getD i 0 := by
  have at_ : ∀ i p, L[i]? = some p → es[i]? = some (rowK w p) := fun i p e => by rw [← Array.getElem?_toList, hr, List.getElem?_map, e]; rfl
  have key : ∀ l : List Nat, (∀ i ∈ l, i < L.length) → l.filterMap (fun i => es[i]?) = (l.filterMap fun i => L[i]?).map (rowK w) ∧ ((l.filterMap fun i => L[i]?).map fun p => p.2.hash w) = l.map fun i => (es.map (·.1)).getD i 0 := by
    intro l
    induction l with
    | nil => intro _; exact ⟨rfl, rfl⟩
    | cons i l ih =>
      intro hl
      obtain ⟨e1, e2⟩ := ih fun j hj => hl j (List.mem_cons_of_mem _ hj)
      have hi := hl i List.mem_cons_self
      have hLi : L[i]? = some L[i] := List.getElem?_eq_getElem hi
      have hei := at_ i _ hLi
      rw [List.filterMap_cons_some hei, List.filterMap_cons_some hLi, List.map_cons, List.map_cons, List.map_cons, e1, e2]
      refine ⟨rfl, ?_⟩
      have e5 : (es.map (·.1))[i]? = some ((L[i]).2.hash w) := by rw [Array.getElem?_map, hei]; rfl
      have e4 : (es.map (·.1)).getD i 0 = (L[i]).2.hash w := by simp [Array.getD_eq_getD_getElem?, e5]
      rw [e4]
  obtain ⟨e1, e2⟩ := key order.toList fun i hi => List.mem_range.mp (hp.mem_iff.mp hi)
  refine ⟨order.toList.filterMap fun i => L[i]?, by rw [Array.toList_filterMap]; exact e1, ?_, e2⟩
  have h1 := hp.filterMap fun i => L[i]?
  rwa [range_pick L L.length (Nat.le_refl _), List.take_length] at h1
theorem FlatT.same {h h' : Heap} {k : NestedKey} {v : Value} {o : Obj} (x : FlatT h k v) (ho : h.get? a = some o) (hd : o.data = .set es ep t) (sb : Heap.SameBut a h h') : FlatT h' k v := x.keep fun b ob vs n hb hs => by
  refine (sb.2 b fun e => ?_).trans hb
  subst e
  rw [ho] at hb; cases hb
  rw [hd] at hs; cases hs
theorem tabOk_plain {hs : List Int} (T : TabOk t hs) (b : Bool) : TabOk { t with plain := b } hs := ⟨T.ris, T.dm, T.sz, T.mok, T.bd, T.reach⟩
/-- a larger table -/
theorem tup_relay {o : Obj} (ho : s.heap.get? a = some o) (ex : o.ExactSet) (hd : o.data = .set es ep t) (hr : es.toList = L.map (rowK w)) (hz : t.place.size = es.size) (dm : t.dummies = #[]) (hfl : es.size ≤ t.mask) (nd : (L.map (·.2)).Nodup) (el : ∀ p ∈ L, FlatT s.heap p.2 p.1)
    (ld : w.params.followText "set-order" = true ∨ t.led = true) (few : L.length < 64) {wanted M : Nat} (hw : SetTable.sizeAbove wanted - 1 = M) (hM : MaskOk M) (hw2 : SetTable.sizeAbove wanted ≤ 128) (hn : L.length * 5 < M * 3) {Q : Unit → Shared → Prop}
    (hQ : ∀ h' L' es' ep' t', Heap.SameBut a s.heap h' → TupS w h' a L' es' ep' t' → L'.Perm L → Q () { s with heap := h' }) : wpAny (model P w) A (setRelay a wanted) Q E s := by
  have z : es.size = L.length := by rw [← Array.length_toList, hr, List.length_map]
  have hfits : t.fits es.size = true := by
    unfold SetTable.fits SetTable.fill
    rw [dm, Bool.and_eq_true, beq_iff_eq, decide_eq_true_eq]
    exact ⟨hz, by show t.place.size + 0 ≤ t.mask; omega⟩
  obtain ⟨t', order, e, hp, T, em, el', _, _⟩ := relaid_ok t (hs := es.map (·.1)) (wanted := wanted) hw hM (by rw [Array.size_map, z]; omega)
  rw [Array.size_map, z] at hp
  obtain ⟨L2, r1, r2, r3⟩ := rows_order order hr hp
  rw [← r3] at T
  have z2 : (order.filterMap (es[·]?)).size = es.size := by rw [← Array.length_toList, r1, List.length_map, r2.length_eq, z]
  rw [setRelay_eq]
  refine wpAny_bind (wpAny_setState_of ho hd hfits (wp_if_neg (by rw [sizeLine_eq]; omega) ?_))
  try refine wpAny_bind (wpAny_pure ?_)
  rw [e]
  dsimp only
  refine wpAny_bind (wp_if_neg (by rw [z2]; simp) ?_)
  try refine wpAny_bind (wpAny_pure ?_)
  refine wpAny_pure (wpAny_storeSet_of ho hd ?_ (by rw [z2, z, sizeLine_eq]; omega))
  have sb : Heap.SameBut a s.heap (s.heap.update a (Obj.putSet (order.filterMap (es[·]?)) t')) := Heap.SameBut.update ..
  refine hQ _ L2 _ (ep + 1) t' sb ⟨⟨_, store_at ho hd, ⟨ex.1, ex.2.1, ex.2.2⟩, rfl⟩, r1, T, (r2.map (·.2)).nodup_iff.mpr nd, fun p hp => (el p (r2.mem_iff.mp hp)).same ho hd sb, by rw [el']; exact ld, by rw [r2.length_eq, em]; exact hn, by rw [r2.length_eq]; exact few⟩ r2
theorem tup_add (R : TupS w s.heap a L es ep t) {x : Value} {k : NestedKey} (hx : FlatT s.heap k x) (hu : A.units + 8 < cLine) (hfew : L.length + 1 < 64) {Q : Bool → Shared → Prop}
    (hQ : ∀ b h' L' es' ep' t', Heap.SameBut a s.heap h' → TupS w h' a L' es' ep' t' → (k ∈ L.map (·.2) → L' = L) → (k ∉ L.map (·.2) → L'.Perm ((x, k) :: L)) → Q b { s with heap := h' }) : wpAny (model P w) A (setAddHashed a x (k.hash w)) Q E s := by
  obtain ⟨o, ho, ex, hd⟩ := R.ob
  have z := R.size
  have hroom := R.room
  unfold setAddHashed
  rw [show (100000 : Nat) = 99999 + 1 from rfl, setAddHashedIn_succ]
  refine wpAny_holding (wpAny_bind (wpAny_setState_of ho hd R.fits ?_))
  dsimp only
  have nsc : byScan x es = false := by
    obtain ⟨b, ks, rfl, _⟩ := hx
    simp [byScan, Value.scannable]
  refine wp_if_neg (by rw [nsc]; decide) ?_
  try refine wpAny_bind (wpAny_pure ?_)
  obtain ⟨K, hKf, hK, hKb⟩ := R.tab.first (by rw [List.length_map]; omega) (k.hash w)
  have hbig : K < 100000 := by
    have : 10 * SetTable.turns t.mask ≤ 1420 := by
      unfold SetTable.turns
      rcases R.tab.mok with e | e | e <;> omega
    omega
  unfold setSearch
  refine wpAny_bind (tup_search R hx hu hKf hK hKb (fun hm => ?_) (fun hm => ?_) 100000 0 none rfl (Nat.zero_le _) (by omega) fun i p hp hk => ?_)
  · exact wpAny_pure (hQ false s.heap L es ep t (Heap.SameBut.refl a s.heap) R (fun _ => rfl) fun c => absurd hm c)
  · dsimp only
    refine wpAny_bind (wpAny_setState_of ho hd R.fits ?_)
    dsimp only
    obtain ⟨q1, q2, q3, q4, q5, q6, q7, q8, q9⟩ := R.tab.put hK hKb
    generalize hpt : t.put (way t.mask (k.hash w) K) = pt at q1 q3 q4 q5 q6 q7 q8 q9 ⊢
    obtain ⟨t1, p⟩ := pt
    dsimp only at q1 q3 q4 q5 q6 q7 q8 q9 ⊢
    subst q1
    have rows1 : (SetTable.insertAt es (SetTable.below t.place (way t.mask (k.hash w) K)) (k.hash w, x)).toList = (L.take (SetTable.below t.place (way t.mask (k.hash w) K)) ++ (x, k) :: L.drop (SetTable.below t.place (way t.mask (k.hash w) K))).map (rowK w) := by
      rw [SetTable.toList_insertAt, R.rows, List.map_append, List.map_cons, List.map_take, List.map_drop]; rfl
    generalize SetTable.below t.place (way t.mask (k.hash w) K) = p at q2 q3 rows1 ⊢
    have pm := ins_perm L p (x, k)
    have hlen : (L.take p ++ (x, k) :: L.drop p).length = L.length + 1 := pm.length_eq
    have hhs : (L.take p ++ (x, k) :: L.drop p).map (fun p => p.2.hash w) = (L.map fun p => p.2.hash w).take p ++ k.hash w :: (L.map fun p => p.2.hash w).drop p := by rw [List.map_append, List.map_cons, List.map_take, List.map_drop]
    rw [← hhs] at q3
    have nd1 : ((L.take p ++ (x, k) :: L.drop p).map (·.2)).Nodup := (pm.map (·.2)).nodup_iff.mpr (List.nodup_cons.mpr ⟨hm, R.nd⟩)
    have hes : (SetTable.insertAt es p (k.hash w, x)).size = L.length + 1 := by rw [← Array.length_toList, rows1, List.length_map, hlen]
    generalize SetTable.insertAt es p (k.hash w, x) = es1 at rows1 hes ⊢
    generalize L.take p ++ (x, k) :: L.drop p = L1 at pm hlen q3 nd1 rows1
    have fin : ∀ t2 : SetTable, TabOk t2 (L1.map fun p => p.2.hash w) → t2.mask = t1.mask → t2.led = t1.led → t2.tooFull = t1.tooFull →
        wpAny (model P w) A (do
          storeSet a es1 t2
          if (!false && t2.tooFull) = true then do
            setRelay a (SetTable.grown (es.size + 1))
            pure true
          else pure true) Q E s := by
      intro t2 T2 em el2 etf
      refine wpAny_bind (wpAny_storeSet_of ho hd ?_ (by rw [hes, sizeLine_eq]; omega))
      have sb : Heap.SameBut a s.heap (s.heap.update a (Obj.putSet es1 t2)) := Heap.SameBut.update ..
      have ho1 := store_at (es' := es1) (t' := t2) ho hd
      generalize s.heap.update a (Obj.putSet es1 t2) = h1 at sb ho1 ⊢
      have el1 : ∀ p ∈ L1, FlatT h1 p.2 p.1 := fun p hp => by
        rcases List.mem_cons.mp (pm.mem_iff.mp hp) with e | hp
        · rw [e]; exact hx.same ho hd sb
        · exact (R.el p hp).same ho hd sb
      have ld1 : w.params.followText "set-order" = true ∨ t2.led = true := by rw [el2, q5]; exact R.led
      have full : t2.tooFull = true ↔ (L.length + 1) * 5 ≥ t1.mask * 3 := by
        rw [etf]
        unfold SetTable.tooFull
        rw [decide_eq_true_eq, q9, List.length_map]
      by_cases hf : t2.tooFull = true
      · have hfull := full.mp hf
        have z1 : t2.place.size = es1.size := by have h := T2.sz; rw [List.length_map, hlen] at h; rw [h, hes]
        have cs : (t.mask = 7 ∧ L.length = 4) ∨ (t.mask = 31 ∧ L.length = 18) := by
          rw [q4] at hfull
          rcases R.tab.mok with e | e | e
          · left; rw [e] at hfull hroom; exact ⟨e, by omega⟩
          · right; rw [e] at hfull hroom; exact ⟨e, by omega⟩
          · exfalso; rw [e] at hfull; omega
        have go : ∀ M, SetTable.sizeAbove (SetTable.grown (L.length + 1)) - 1 = M → MaskOk M → SetTable.sizeAbove (SetTable.grown (L.length + 1)) ≤ 128 → (L.length + 1) * 5 < M * 3 →
            wpAny (model P w) A (setRelay a (SetTable.grown (L.length + 1))) (fun _ s' => wpAny (model P w) A (pure true) Q E s') E { s with heap := h1 } := fun M h1' h2' h3' h4' => by
          refine tup_relay (s := { s with heap := h1 }) ho1 ⟨ex.1, ex.2.1, ex.2.2⟩ rfl rows1 z1 T2.dm (by rw [hes, em, q4]; rcases cs with ⟨e, e2⟩ | ⟨e, e2⟩ <;> omega) nd1 el1 ld1 (by rw [hlen]; exact hfew) h1' h2' h3' (by rw [hlen]; exact h4') ?_
          intro h2 L2 es2 ep2 t3 sb2 R2 pm2
          exact wpAny_pure (hQ true h2 L2 es2 ep2 t3 (sb.trans sb2) R2 (fun c => absurd c hm) fun _ => pm2.trans pm)
        refine wp_if_pos (by simp [hf]) (wpAny_bind ?_)
        rw [z]
        rcases cs with ⟨_, e2⟩ | ⟨_, e2⟩
        · refine go 31 (by rw [e2, size_20]) (.inr (.inl rfl)) (by rw [e2, size_20]; decide) (by omega)
        · refine go 127 (by rw [e2, size_76]) (.inr (.inr rfl)) (by rw [e2, size_76]; decide) (by omega)
      · refine wp_if_neg (by simp [hf]) (wpAny_pure (hQ true h1 L1 es1 (ep + 1) t2 sb ⟨⟨_, ho1, ⟨ex.1, ex.2.1, ex.2.2⟩, rfl⟩, rows1, T2, nd1, el1, ld1, ?_, by rw [hlen]; exact hfew⟩ (fun c => absurd c hm) fun _ => pm))
        have hnf : ¬ ((L.length + 1) * 5 ≥ t1.mask * 3) := fun c => hf (full.mpr c)
        rw [hlen, em]
        omega
    by_cases hp1 : t1.plain = true
    · refine wp_if_pos hp1 (wpAny_bind (flat_hash hx fun b => ?_))
      cases b
      · exact fin { t1 with plain := false } (tabOk_plain q3 false) rfl rfl rfl
      · exact fin t1 q3 rfl rfl rfl
    · refine wp_if_neg hp1 (wpAny_bind (wpAny_pure ?_))
      exact fin t1 q3 rfl rfl rfl
  · have hi : (L.map fun p => p.2.hash w)[i]? = some (k.hash w) := by rw [List.getElem?_map, hp, ← hk]; rfl
    have hil : i < t.place.toList.length := by
      have h1 : i < L.length := (List.getElem?_eq_some_iff.mp hp).1
      have h2 := R.tab.sz
      rw [List.length_map] at h2
      rw [Array.length_toList]
      omega
    have hj := List.getElem?_eq_getElem hil
    obtain ⟨c, hc, e⟩ := R.tab.before hK hi hj
    exact ⟨c, Nat.zero_le _, hc, by rw [hj, e]⟩
/-- sets of flat tuples -/
def tupKind (P : Program) (w : World) : SKind P w NestedKey where
  St := fun h a L => ∃ es ep t, TupS w h a L es ep t
  El := FlatT
  room := fun A => A.units + 8 < cLine
  fresh := fun {h a} e => ⟨#[], 0, _, ⟨⟨_, e, ⟨rfl, rfl, rfl⟩, rfl⟩, rfl, ⟨List.Pairwise.nil, rfl, rfl, .inl rfl, fun x hx => (by cases hx), fun i h j hi => (by simp at hi)⟩, List.nodup_nil, fun p hp => (by cases hp), (by
    show _ ∨ (!w.params.followText "set-order") = true
    cases w.params.followText "set-order"
    · exact .inr rfl
    · exact .inl rfl), (by show 0 * 5 < 7 * 3; decide), (by show 0 < 64; decide)⟩⟩
  keep := fun ⟨es, ep, t, R⟩ ka el => ⟨es, ep, t, ⟨let ⟨o, ho, r⟩ := R.ob; ⟨o, ka o ho, r⟩, R.rows, R.tab, R.nd, el, R.led, R.room, R.few⟩⟩
  elk := fun x hk => x.keep fun b o _ _ e _ => hk b o e
  add := fun {A E s a L v k Q} hu ⟨es, ep, t, R⟩ el few h => by
    unfold setAdd
    obtain ⟨b, ks, e1, e2, ni, hd, hl⟩ := id el
    subst e1
    refine wpAny_holding (wpAny_bind (pyHash_key k (.ref b) A s _ ni (by omega) ?_))
    exact tup_add (s := { s with toks := s.toks + k.draws }) R el hu few fun b h' L' es' ep' t' sb R' c1 c2 => h b h' _ L' (Nat.le_add_right _ _) sb ⟨es', ep', t', R'⟩ c1 c2
  raw := fun ⟨es, ep, t, R⟩ => ⟨R.few, R.nd, let ⟨o, ho, ex, hd⟩ := R.ob; ⟨o, es, ep, t, ho, ex, hd, R.fits, R.tab.ris, R.led, by rw [R.rows, List.map_map]; rfl⟩⟩
end
end TL

/-! T-layer, part S6: sorted(set(x)), len(set(x)) as expressions. -/
namespace TL
open PySem PySem.Spec PyProof.Rows L2
/-! ### one of each -/
def uniq {α : Type} [DecidableEq α] : List α → List α
  | [] => []
  | x :: l => x :: (uniq l).filter fun y => decide (y ≠ x)
theorem mem_uniq {α : Type} [DecidableEq α] {x : α} : ∀ {l : List α}, x ∈ uniq l ↔ x ∈ l
  | [] => Iff.rfl
  | y :: l => by
    unfold uniq
    rw [List.mem_cons, List.mem_cons, List.mem_filter, mem_uniq (l := l)]
    by_cases h : x = y <;> simp [h]
theorem nodup_uniq {α : Type} [DecidableEq α] : ∀ (l : List α), (uniq l).Nodup
  | [] => List.nodup_nil
  | y :: l => by
    unfold uniq
    refine List.nodup_cons.mpr ⟨fun h => ?_, (nodup_uniq l).filter _⟩
    have := (List.mem_filter.mp h).2
    simp at this
theorem perm_uniq {α : Type} [DecidableEq α] {ks l : List α} (nd : ks.Nodup) (h : ∀ x, x ∈ ks ↔ x ∈ l) : ks.Perm (uniq l) := (List.perm_ext_iff_of_nodup nd (nodup_uniq l)).mpr fun x => (h x).trans mem_uniq.symm
theorem uniq_self {α : Type} [DecidableEq α] : ∀ {l : List α}, l.Nodup → uniq l = l
  | [], _ => rfl
  | x :: l, h => by
    obtain ⟨h1, h2⟩ := List.nodup_cons.mp h
    unfold uniq
    rw [uniq_self h2, List.filter_eq_self.mpr]
    intro y hy
    exact decide_eq_true fun e => h1 (e ▸ hy)
/-! ### orders -/
structure Lin {α : Type} (le : α → α → Bool) : Prop where
  total : ∀ a b, (le a b || le b a) = true
  trans : ∀ a b c, le a b = true → le b c = true → le a c = true
  anti : ∀ a b, le a b = true → le b a = true → a = b
theorem Lin.same {α : Type} {le : α → α → Bool} (h : Lin le) {l l' : List α} (p : l.Perm l') : l.mergeSort le = l'.mergeSort le := by
  refine List.Perm.eq_of_pairwise (le := fun a b => le a b = true) (fun a b _ _ => h.anti a b) (List.pairwise_mergeSort h.trans h.total l) (List.pairwise_mergeSort h.trans h.total l') ?_
  exact (List.mergeSort_perm l le).trans (p.trans (List.mergeSort_perm l' le).symm)
def leS (a b : Str) : Bool := decide (a.cps.toList ≤ b.cps.toList)
def ltS (a b : Str) : Bool := decide (a.cps.toList < b.cps.toList)
theorem leS_not (a b : Str) : leS a b = !ltS b a := by
  unfold leS ltS
  by_cases h : b.cps.toList < a.cps.toList
  · rw [decide_eq_true h, decide_eq_false (List.not_le.mpr h)]; rfl
  · rw [decide_eq_false h, decide_eq_true (List.not_lt.mp h)]; rfl
theorem lin_S : Lin leS where
  total a b := by
    rcases List.le_total (l₁ := a.cps.toList) (l₂ := b.cps.toList) with h | h <;> simp [leS, h]
  trans a b c h1 h2 := by
    simp only [leS, decide_eq_true_eq] at *
    exact List.le_trans h1 h2
  anti a b h1 h2 := by
    simp only [leS, decide_eq_true_eq] at *
    have e := List.le_antisymm h1 h2
    cases a; cases b
    simpa using e
def leI (a b : Int) : Bool := decide (a ≤ b)
theorem lin_I : Lin leI where
  total a b := by simp only [leI, Bool.or_eq_true, decide_eq_true_eq]; omega
  trans a b c h1 h2 := by simp only [leI, decide_eq_true_eq] at *; omega
  anti a b h1 h2 := by simp only [leI, decide_eq_true_eq] at *; omega
def leP (p q : Str × Str) : Bool := if p.1 = q.1 then leS p.2 q.2 else leS p.1 q.1
theorem lin_P : Lin leP where
  total a b := by
    unfold leP
    by_cases h : a.1 = b.1
    · rw [if_pos h, if_pos h.symm]; exact lin_S.total _ _
    · rw [if_neg h, if_neg (Ne.symm h)]; exact lin_S.total _ _
  trans a b c h1 h2 := by
    unfold leP at *
    by_cases e1 : a.1 = b.1
    · rw [if_pos e1] at h1
      by_cases e2 : b.1 = c.1
      · rw [if_pos e2] at h2
        rw [if_pos (e1.trans e2)]; exact lin_S.trans _ _ _ h1 h2
      · rw [if_neg e2] at h2
        rw [if_neg (fun z => e2 (e1.symm.trans z)), e1]; exact h2
    · rw [if_neg e1] at h1
      by_cases e2 : b.1 = c.1
      · rw [if_pos e2] at h2
        rw [if_neg (fun z => e1 (z.trans e2.symm)), ← e2]; exact h1
      · rw [if_neg e2] at h2
        by_cases e3 : a.1 = c.1
        · exact absurd (lin_S.anti _ _ h1 (e3 ▸ h2)) e1
        · rw [if_neg e3]; exact lin_S.trans _ _ _ h1 h2
  anti a b h1 h2 := by
    unfold leP at *
    by_cases e : a.1 = b.1
    · rw [if_pos e] at h1
      rw [if_pos e.symm] at h2
      exact Prod.ext e (lin_S.anti _ _ h1 h2)
    · rw [if_neg e] at h1
      rw [if_neg (Ne.symm e)] at h2
      exact absurd (lin_S.anti _ _ h1 h2) e
/-! ### the elements of a list -/
def pairT : T → Option (Str × Str)
  | .tup [.str x, .str y] => some (x, y)
  | _ => none
def pairsT : List T → Option (List (Str × Str))
  | [] => some []
  | t :: r => match pairT t, pairsT r with
    | some p, some ps => some (p :: ps)
    | _, _ => none
abbrev ofPair (p : Str × Str) : T := .tup [.str p.1, .str p.2]
theorem pairsT_of : ∀ {ts : List T} {ps : List (Str × Str)}, pairsT ts = some ps → ts = ps.map ofPair
  | [], _, h => by cases h; rfl
  | t :: r, ps, h => by
    unfold pairsT at h
    split at h
    · rename_i p qs h1 h2
      cases h
      rw [pairsT_of h2]
      have : t = ofPair p := by
        unfold pairT at h1
        split at h1
        · cases h1; rfl
        · cases h1
      rw [this]; rfl
    · cases h
theorem strsT_of : ∀ {ts : List T} {xs : List Str}, strsT ts = some xs → ts = xs.map T.str
  | [], _, h => by cases h; rfl
  | .str x :: r, _, h => by
    simp only [strsT, Option.map_eq_some_iff] at h
    obtain ⟨ys, h1, h2⟩ := h
    subst h2
    rw [strsT_of h1]; rfl
theorem intsOf_of : ∀ {ts : List T} {xs : List Int}, intsOf ts = some xs → ts = xs.map T.int
  | [], _, h => by simp [intsOf] at h; subst h; rfl
  | .int x :: r, _, h => by
    simp only [intsOf, Option.map_eq_some_iff] at h
    obtain ⟨ys, h1, h2⟩ := h
    subst h2
    rw [intsOf_of h1]; rfl
/-- the values and what they are the keys of -/
theorem zip_map {α β : Type} {us : List α} {ks : List β} (h : us.length = ks.length) : us = (us.zip ks).map (·.1) ∧ ks = (us.zip ks).map (·.2) := by
  rw [List.map_fst_zip (by omega), List.map_snd_zip (by omega)]
  exact ⟨rfl, rfl⟩
section
variable {X : Cx} {EO : EOb} {pins : List (Addr × Obj)} {σ : L2.St} {H : Hp} {s : Shared} {m : List Addr} {th : TH}
theorem el_key {ks : List Key} {us : List Value} (r : Vals (ks.map kV) us) : us.length = ks.length ∧ ∀ p ∈ us.zip ks, RelV (kV p.2) p.1 := by
  induction ks generalizing us with
  | nil => cases r; exact ⟨rfl, fun p hp => by cases hp⟩
  | cons k ks ih =>
    cases r with
    | cons a b =>
      obtain ⟨h1, h2⟩ := ih b
      refine ⟨by simp [h1], fun p hp => ?_⟩
      rcases List.mem_cons.mp hp with e | hp
      · rw [e]; exact a
      · exact h2 p hp
theorem el_pair (I : Inv X pins σ H s) {ps : List (Str × Str)} {vs : List V} {us : List Value} (vr : VRs X.K m H (ps.map ofPair) vs) (r : Vals vs us) : us.length = ps.length ∧ ∀ p ∈ us.zip ps, FlatT s.heap (.tup [.text p.2.1, .text p.2.2]) p.1 ∧ (∃ v, RelV v p.1 ∧ VR X.K m H (ofPair p.2) v) ∧
    Reads s.heap p.1 (.tuple [.str p.2.1, .str p.2.2]) [] := by
  induction ps generalizing vs us with
  | nil => cases vr; cases r; exact ⟨rfl, fun p hp => by cases hp⟩
  | cons q ps ih =>
    cases vr with
    | cons a b =>
    cases r with
    | cons c d =>
      obtain ⟨h1, h2⟩ := ih b d
      refine ⟨by simp [h1], fun p hp => ?_⟩
      rcases List.mem_cons.mp hp with e | hp
      · rw [e]
        have a0 := a
        have c0 := c
        cases a with
        | tup g1 g2 =>
          cases c
          obtain ⟨its, rv, ⟨o, ho, hc, n, hd⟩, _⟩ := I.tuple g1.t
          cases g2 with
          | cons x1 g2 =>
          cases g2 with
          | cons x2 g2 =>
          cases g2
          cases x1
          cases x2
          cases rv with
          | cons y1 rv =>
          cases rv with
          | cons y2 rv =>
          cases rv
          obtain ⟨t1, rfl⟩ := y1
          obtain ⟨t2, rfl⟩ := y2
          refine ⟨⟨_, _, rfl, rfl, .tup ho hc hd (.cons (.text _ _) (.cons (.text _ _) .nil)), by simp [NestedKey.depth, NestedKey.depthAll], fun x hx => ?_⟩, ⟨_, c0, a0⟩, .tuple ho hc hd (.cons (.str _ _) (.cons (.str _ _) .nil))⟩
          rcases List.mem_cons.mp hx with e | hx
          · rw [e]; rfl
          · rw [List.mem_singleton.mp hx]; rfl
      · exact h2 p hp
/-- what is done with a set of the items -/
def OnSet (X : Cx) (EO : EOb) (id : String) (g : T → TH → Res T) : Prop := ∀ (pins : List (Addr × Obj)) (s : Shared) (σ : L2.St) (H : Hp) (m : List Addr) (th : TH) (t : T) (v : V) (u : Value) (Q : VK), Inv X pins σ H s → Rel (gc X) m th H → VR X.K m H t v → RelV v u → WT (gc X) EO m H (g t th) Q →
  wpAny (model X.prog X.w) X.A (call (.type "set") [u]) (fun sv s2 => wpAny (model X.prog X.w) X.A (call (.builtin id) [sv]) (EP X pins σ Q) X.xe s2) X.xe s
theorem de_onSet {id : String} {g : T → TH → Res T} {x : Str} {e : Expr} {d : ME} {p q p2 pos : Pos} (on : OnSet X EO id g) (hm : X.mg x = none) (hv : bootBuiltins x = some (.builtin id)) (hm2 : X.mg "set" = none) (h : DE X EO e d) (hg : Gl X x := by rfl) (hg2 : Gl X "set" := by rfl)
    (na : starEach [e] X.env = (false, eval e X.env) :: starEach [] X.env := by rfl) (hn : x ≠ "__name__" := by decide) (hd : (x == ("__debug__" : Str)) = false := by decide) : DE X EO (.Call (.Name x p) [.Call (.Name "set" q) [e] [] p2] [] pos) (eUn g d) := by
  refine ⟨⟨fun pins s σ H Q I ⟨m, σt, th, sr, R, w⟩ => ?_⟩⟩
  refine Call_ (ld_blt (hn := hn) (hd := hd) I hg hm hv (PyProof.Rows.callWith_builtin1 (PyProof.Rows.args_cons (Call_ (ld_blt I hg2 hm2 boot_set (PyProof.Rows.callWith_type1 (PyProof.Rows.args_cons (thn (h.pe.run pins s σ H (fun v H1 => ∃ m1 th1 t, Rel (gc X) m1 th1 H1 ∧ VR X.K m1 H1 t v ∧ WT (gc X) EO m1 H1 (g t th1) Q) I
    ⟨m, σt, th, sr, R, w.bind.imp fun t th1 m1 H1 x R1 h1 v vr => ⟨m1, th1, t, R1, vr, h1⟩⟩) fun v s1 ⟨y, H1, I1, r1, m1, th1, t, R1, vr, w1⟩ => PyProof.Rows.args_nil ?_) na) na rfl))) rfl) rfl rfl))
  exact thn (on pins s1 σ H1 m1 th1 t y v Q I1 R1 vr r1 w1) fun sv s2 h2 => PyProof.Rows.args_nil h2
def fSortSet : T → TH → Res T := fun t h => match itemsOf h t with
  | some l => if l.length < 64 then (match strsT l with
    | some xs => .ok (.ref h.length) (h ++ [.lst (((uniq xs).mergeSort leS).map T.str)])
    | none => match intsOf l with
      | some ns => .ok (.ref h.length) (h ++ [.lst (((uniq ns).mergeSort leI).map T.int)])
      | none => match pairsT l with
        | some ps => .ok (.ref h.length) (h ++ [.lst (((uniq ps).mergeSort leP).map ofPair)])
        | none => .stuck) else .stuck
  | none => .stuck
def fLenSet : T → TH → Res T := fun t h => match itemsOf h t with
  | some l => if l.length < 64 then (match strsT l with
    | some xs => .ok (.int (uniq xs).length) h
    | none => match intsOf l with
      | some ns => .ok (.int (uniq ns).length) h
      | none => match pairsT l with
        | some ps => .ok (.int (uniq ps).length) h
        | none => .stuck) else .stuck
  | none => .stuck
/-- the items, made a set of -/
theorem set_of {K : Type} (kd : SKind X.prog X.w K) {t : T} {v : V} {u : Value} {l : List T} {ks : List K} {Q : Value → Shared → Prop} (hc : X.calm = true) (hu : kd.room X.A.in1.in1.in1) (I : Inv X pins σ H s) (R : Rel (gc X) m th H) (vr : VR X.K m H t v) (ru : RelV v u) (e : itemsOf th t = some l) (hl : l.length < 64)
    (hk : ∀ vs us, VRs X.K m H l vs → Vals vs us → us.length = ks.length ∧ ∀ p ∈ us.zip ks, kd.El s.heap p.2 p.1)
    (h : ∀ (vs : List V) (us : List Value) (h' : Heap) (tk : Nat) (L : List (Value × K)), VRs X.K m H l vs → Vals vs us → kd.St h' s.heap.objs.size L → (∀ p ∈ L, p ∈ us.zip ks) → (L.map (·.2)).Nodup → (∀ k, k ∈ L.map (·.2) ↔ k ∈ ks) → (∀ b o, s.heap.get? b = some o → h'.get? b = some o) → Q (.ref s.heap.objs.size) { s with heap := h', toks := tk }) :
    wpAny (model X.prog X.w) X.A (call (.type "set") [u]) Q X.xe s := by
  obtain ⟨a, vs, ev, hq, vrs⟩ := items_sq (G := gc X) R vr e
  subst ev
  cases ru
  have key : ∀ {its : List Value}, Vals vs its → (s.heap.IsList a its.toArray ∨ s.heap.IsTuple a its.toArray) → wpAny (model X.prog X.w) X.A (call (.type "set") [Value.ref a]) Q X.xe s := by
    intro its rv hs
    obtain ⟨h1, h2⟩ := hk vs its vrs rv
    obtain ⟨z1, z2⟩ := zip_map h1
    have zl : (its.zip ks).length = ks.length := by rw [List.length_zip, h1, Nat.min_self]
    refine make_set kd (its.zip ks) (I.ok.hd hc) hs (by simpa using z1) h2 (by rw [zl, ← h1, ← rv.length, ← vrs.length]; exact hl) hu fun h' tk L st g k => ?_
    refine h vs its h' tk L vrs rv st (fun p hp => List.mem_of_mem_take (g.sub p hp)) g.nd (fun x => ⟨fun hx => ?_, fun hx => ?_⟩) k
    · obtain ⟨p, hp, rfl⟩ := List.mem_map.mp hx
      rw [z2]
      exact List.mem_map.mpr ⟨p, List.mem_of_mem_take (g.sub p hp), rfl⟩
    · rw [z2] at hx
      obtain ⟨p, hp, rfl⟩ := List.mem_map.mp hx
      exact g.all p (by rw [List.take_length]; exact hp)
  rcases hq with hq | hq
  · obtain ⟨its, rv, p, _⟩ := I.list hq
    exact key rv (.inl p.isList)
  · obtain ⟨its, rv, p, _⟩ := I.tuple hq
    exact key rv (.inr p)
/-- the sorted list, laid -/
theorem sorted_of {K : Type} (kd : SKind X.prog X.w K) {Q : VK} {h' : Heap} {tk : Nat} {L : List (Value × K)} {a : Addr} {enc : K → PyData} {toT : K → T} {C : List K} (hc : X.calm = true) (hu : X.A.units + 66 < cLine) (I : Inv X pins σ H s) (R : Rel (gc X) m th H) (k1 : ∀ b o, s.heap.get? b = some o → h'.get? b = some o) (st : kd.St h' a L)
    (hR : ∀ p ∈ L, ∃ v, RelV v p.1 ∧ VR X.K m H (toT p.2) v) (hrd : ∀ p ∈ L, Reads h' p.1 (enc p.2) []) (hal : ∀ k ∈ L.map (·.2), ∀ k' ∈ L.map (·.2), PySem.W.alike (enc k) (enc k') = true) (hk : ∀ ks : List K, (∀ k ∈ ks, k ∈ L.map (·.2)) → PySem.W.Sortable (ks.map enc)) (hd : ∀ k ∈ L.map (·.2), (enc k).depth ≤ 60)
    (hC : ∀ ks : List K, ks.Perm (L.map (·.2)) → ks.mergeSort (PySem.W.dataLe false enc) = C) (w : WT (gc X) EO m H (.ok (.ref th.length) (th ++ [.lst (C.map toT)])) Q) :
    wpAny (model X.prog X.w) X.A (call (.builtin "sorted") [.ref a]) (EP X pins σ Q) X.xe { s with heap := h', toks := tk } := by
  have I1 : Inv X pins σ H { s with heap := h', toks := tk } := I.kept k1
  refine sorted_kd kd (s := { s with heap := h', toks := tk }) st (I.ok.hd hc) (R := fun u k => RelVT X.K m H u (toT k)) (enc := enc) hR (fun p hp => ⟨[], hrd p hp, fun b hb => by cases hb⟩) hal hk (fun k hk' => by have := hd k hk'; omega) fun s' q out c ks k2 g o hq hg pm E2 => ?_
  rw [hC ks pm] at E2
  have E3 : PySem.W.EachIs (RelVT X.K m H) out (C.map toT) := by
    clear hg hC w
    induction E2 with
    | nil => exact .nil
    | cons a b ih => exact .cons a ih
  obtain ⟨zs, v1, v2⟩ := of_each E3
  have hn : H q = none := I1.hok.fresh hq
  have hlC : C.length ≤ sizeLine := by
    rw [← hC ks pm, (List.mergeSort_perm ks _).length_eq, pm.length_eq, List.length_map, sizeLine_eq]
    have := (kd.raw st).1
    omega
  have lz : zs.length ≤ sizeLine := by rw [← v1.length, List.length_map]; exact hlC
  have J := I1.call (H' := upd H q (.lst zs)) (h' := s'.heap) (g' := s'.gens) (d' := s'.drawn) (t' := s'.toks) (ch := []) (Un.laid k2 hq hn) (I1.hok.laid k2 hq ⟨lz, out, c, v2, hg⟩) (by rw [g]; exact I1.bare) (fun _ z => nomatch z)
  have e : s' = { s with heap := s'.heap, gens := s'.gens, drawn := s'.drawn, toks := s'.toks } := by
    cases s'; cases s; cases o; rfl
  rw [e]
  obtain ⟨w1, w2⟩ := lst_new R hn v1 w
  exact ⟨.ref q, _, J, rfl, w1 _ w2⟩
end
theorem key_scn : ∀ {k : Key} {u : Value}, RelV (kV k) u → u.scannable = true
  | .inl _, _, ⟨_, e⟩ => by rw [e]; rfl
  | .inr _, _, ⟨_, e⟩ => by rw [e]; rfl
def encK : Key → PyData
  | .inl i => .int i
  | .inr x => .str x
theorem le_encS (x y : Str) : leS x y = PySem.W.dataLe false encK (.inr x) (.inr y) := by
  rw [leS_not]
  show _ = !PySem.W.dataLt (.str y) (.str x)
  rw [PySem.W.dataLt_str]; rfl
theorem le_encI (x y : Int) : leI x y = PySem.W.dataLe false encK (.inl x) (.inl y) := by
  show _ = !PySem.W.dataLt (.int y) (.int x)
  rw [PySem.W.dataLt_int]
  unfold leI
  by_cases h : y < x
  · rw [decide_eq_true h, decide_eq_false (by omega)]; rfl
  · rw [decide_eq_false h, decide_eq_true (by omega)]; rfl
def toTN : NestedKey → T
  | .tup [.text x, .text y] => .tup [.str x, .str y]
  | _ => .non
def encN : NestedKey → PyData
  | .tup [.text x, .text y] => .tuple [.str x, .str y]
  | _ => .none
abbrev pk (p : Str × Str) : NestedKey := .tup [.text p.1, .text p.2]
theorem le_encP (p q : Str × Str) : leP p q = PySem.W.dataLe false encN (pk p) (pk q) := by
  show _ = !PySem.W.dataLt (.tuple [.str q.1, .str q.2]) (.tuple [.str p.1, .str p.2])
  rw [PySem.W.dataLt_pair rfl rfl, PySem.W.dataLt_str, PySem.W.dataLt_str]
  have e1 : ∀ x y : Str, PyData.eqv (.str x) (.str y) = decide (x = y) := fun x y => by
    unfold PyData.eqv
    by_cases h : x = y <;> simp [h]
  rw [e1, e1]
  unfold leP
  by_cases h : p.1 = q.1
  · rw [if_pos h, if_pos (by simp [h]), leS_not]
    by_cases h2 : p.2 = q.2
    · rw [if_pos (by simp [h2])]
      have : ltS q.2 p.2 = false := by rw [h2]; unfold ltS; exact decide_eq_false (List.lt_irrefl _)
      rw [this]
    · rw [if_neg (by simpa using Ne.symm h2)]; rfl
  · rw [if_neg h, if_neg (by simpa using Ne.symm h), leS_not]; rfl
theorem sort_map {α K : Type} [DecidableEq α] {le : α → α → Bool} {f : α → K} {enc : K → PyData} (lin : Lin le) (h : ∀ a b, le a b = PySem.W.dataLe false enc (f a) (f b)) {l : List α} {ks : List K} (p : ks.Perm ((uniq l).map f)) : ks.mergeSort (PySem.W.dataLe false enc) = ((uniq l).mergeSort le).map f := by
  obtain ⟨l', e, p'⟩ := perm_map f p (uniq l) rfl
  rw [e, ← lin.same p', List.map_mergeSort fun a _ b _ => h a b]
theorem inr_inj {x y : Str} (h : (Sum.inr x : Key) = .inr y) : x = y := Sum.inr.inj h
theorem nodup_map {α β : Type} {f : α → β} (hf : ∀ a b, f a = f b → a = b) : ∀ {l : List α}, l.Nodup → (l.map f).Nodup
  | [], _ => List.nodup_nil
  | x :: l, h => by
    obtain ⟨h1, h2⟩ := List.nodup_cons.mp h
    refine List.nodup_cons.mpr ⟨fun hm => ?_, nodup_map hf h2⟩
    obtain ⟨y, hy, e⟩ := List.mem_map.mp hm
    exact h1 (hf _ _ e ▸ hy)
theorem perm_uniq_map {α K : Type} [DecidableEq α] {f : α → K} (hf : ∀ a b, f a = f b → a = b) {ks : List K} {l : List α} (nd : ks.Nodup) (h : ∀ k, k ∈ ks ↔ k ∈ l.map f) : ks.Perm ((uniq l).map f) := by
  refine (List.perm_ext_iff_of_nodup nd (nodup_map hf (nodup_uniq l))).mpr fun k => (h k).trans ⟨fun hk => ?_, fun hk => ?_⟩
  · obtain ⟨a, ha, e⟩ := List.mem_map.mp hk
    exact List.mem_map.mpr ⟨a, mem_uniq.mpr ha, e⟩
  · obtain ⟨a, ha, e⟩ := List.mem_map.mp hk
    exact List.mem_map.mpr ⟨a, mem_uniq.mp ha, e⟩
theorem pk_inj (a b : Str × Str) (h : pk a = pk b) : a = b := by
  simp only [NestedKey.tup.injEq, List.cons.injEq, NestedKey.text.injEq, and_true] at h
  exact Prod.ext h.1 h.2
section
variable {X : Cx} {EO : EOb}
theorem on_sorted (hc : X.calm = true) (hu : X.A.units + 66 < cLine) : OnSet X EO "sorted" fSortSet := by
  intro pins s σ H m th t v u Q I R vr ru w
  unfold fSortSet at w
  split at w
  · rename_i l el
    split at w
    · rename_i hl
      split at w
      · rename_i xs hx
        refine set_of (m := m) (th := th) (H := H) (ks := xs.map Sum.inr) (scanKind X.prog X.w) hc True.intro I R vr ru el hl (fun vs us a b => ?_) fun vs us h' tk L a b st g nd mem k => ?_
        · have e := strsT_R a hx
          subst e
          obtain ⟨z1, z2⟩ := el_key (ks := xs.map Sum.inr) (us := us) (by rw [List.map_map]; exact b)
          exact ⟨z1, fun p hp => ⟨kV_is (z2 p hp), key_scn (z2 p hp)⟩⟩
        · have e := strsT_R a hx
          subst e
          obtain ⟨z1, z2⟩ := el_key (ks := xs.map Sum.inr) (us := us) (by rw [List.map_map]; exact b)
          have str : ∀ p ∈ L, ∃ x, p.2 = .inr x := fun p hp => by
            have q := (mem p.2).mp (List.mem_map.mpr ⟨p, hp, rfl⟩)
            obtain ⟨x, _, e⟩ := List.mem_map.mp q
            exact ⟨x, e.symm⟩
          have strk : ∀ k ∈ L.map (·.2), ∃ x, k = .inr x := fun k hk => by
            obtain ⟨p, hp, rfl⟩ := List.mem_map.mp hk
            exact str p hp
          refine sorted_of (EO := EO) (m := m) (th := th) (H := H) (scanKind X.prog X.w) (enc := encK) (toT := keyT) (C := ((uniq xs).mergeSort leS).map Sum.inr) hc hu I R k st (fun p hp => ?_) (fun p hp => ?_) (fun k1 h1 k2 h2 => ?_) (fun ks h1 => ?_) (fun k1 h1 => ?_) (fun ks pm => ?_) ?_
          · obtain ⟨x, e⟩ := str p hp
            have r := z2 p (g p hp)
            rw [e] at r ⊢
            exact ⟨_, r, .str x⟩
          · obtain ⟨x, e⟩ := str p hp
            have r := z2 p (g p hp)
            rw [e] at r ⊢
            obtain ⟨tk, e2⟩ := r
            rw [e2]
            exact .str _ _
          · obtain ⟨x, rfl⟩ := strk k1 h1
            obtain ⟨y, rfl⟩ := strk k2 h2
            rfl
          · refine .inr fun d hd => ?_
            obtain ⟨k, hk, rfl⟩ := List.mem_map.mp hd
            obtain ⟨x, rfl⟩ := strk k (h1 k hk)
            exact ⟨(fun z => nomatch z), fun ys z => nomatch z⟩
          · obtain ⟨x, rfl⟩ := strk k1 h1
            exact Nat.zero_le _
          · exact sort_map lin_S le_encS (pm.trans (perm_uniq_map (fun a b h => inr_inj h) nd mem))
          · rw [List.map_map]; exact w
      · rename_i hx
        split at w
        · rename_i ns hn
          refine set_of (m := m) (th := th) (H := H) (ks := ns.map Sum.inl) (scanKind X.prog X.w) hc True.intro I R vr ru el hl (fun vs us a b => ?_) fun vs us h' tk L a b st g nd mem k => ?_
          · have e := intsOf_vr a hn
            subst e
            obtain ⟨z1, z2⟩ := el_key (ks := ns.map Sum.inl) (us := us) (by rw [List.map_map]; exact b)
            exact ⟨z1, fun p hp => ⟨kV_is (z2 p hp), key_scn (z2 p hp)⟩⟩
          · have e := intsOf_vr a hn
            subst e
            obtain ⟨z1, z2⟩ := el_key (ks := ns.map Sum.inl) (us := us) (by rw [List.map_map]; exact b)
            have str : ∀ p ∈ L, ∃ x, p.2 = .inl x := fun p hp => by
              have q := (mem p.2).mp (List.mem_map.mpr ⟨p, hp, rfl⟩)
              obtain ⟨x, _, e⟩ := List.mem_map.mp q
              exact ⟨x, e.symm⟩
            have strk : ∀ k ∈ L.map (·.2), ∃ x, k = .inl x := fun k hk => by
              obtain ⟨p, hp, rfl⟩ := List.mem_map.mp hk
              exact str p hp
            refine sorted_of (EO := EO) (m := m) (th := th) (H := H) (scanKind X.prog X.w) (enc := encK) (toT := keyT) (C := ((uniq ns).mergeSort leI).map Sum.inl) hc hu I R k st (fun p hp => ?_) (fun p hp => ?_) (fun k1 h1 k2 h2 => ?_) (fun ks h1 => ?_) (fun k1 h1 => ?_) (fun ks pm => ?_) ?_
            · obtain ⟨x, e⟩ := str p hp
              have r := z2 p (g p hp)
              rw [e] at r ⊢
              exact ⟨_, r, .int x⟩
            · obtain ⟨x, e⟩ := str p hp
              have r := z2 p (g p hp)
              rw [e] at r ⊢
              obtain ⟨tk, e2⟩ := r
              rw [e2]
              exact .int _ _
            · obtain ⟨x, rfl⟩ := strk k1 h1
              obtain ⟨y, rfl⟩ := strk k2 h2
              rfl
            · refine .inr fun d hd => ?_
              obtain ⟨k, hk, rfl⟩ := List.mem_map.mp hd
              obtain ⟨x, rfl⟩ := strk k (h1 k hk)
              exact ⟨(fun z => nomatch z), fun ys z => nomatch z⟩
            · obtain ⟨x, rfl⟩ := strk k1 h1
              exact Nat.zero_le _
            · exact sort_map lin_I le_encI (pm.trans (perm_uniq_map (fun a b h => Sum.inl.inj h) nd mem))
            · rw [List.map_map]; exact w
        · split at w
          · rename_i ps hp
            have elr : l = ps.map ofPair := pairsT_of hp
            subst elr
            refine set_of (m := m) (th := th) (H := H) (ks := ps.map pk) (tupKind X.prog X.w) hc (by show X.A.in1.in1.in1.units + 8 < cLine; have e3 : X.A.in1.in1.in1.units = X.A.units + 3 := rfl; omega) I R vr ru el hl (fun vs us a b => ?_) fun vs us h' tk L a b st g nd mem k => ?_
            · obtain ⟨z1, z2⟩ := el_pair I a b
              refine ⟨by rw [List.length_map]; exact z1, fun p hp => ?_⟩
              rw [List.zip_map_right] at hp
              obtain ⟨q, hq, rfl⟩ := List.mem_map.mp hp
              exact (z2 q hq).1
            · obtain ⟨z1, z2⟩ := el_pair I a b
              have one : ∀ p ∈ L, ∃ q ∈ us.zip ps, p = (q.1, pk q.2) := fun p hp => by
                have q := g p hp
                rw [List.zip_map_right] at q
                obtain ⟨q, hq, e⟩ := List.mem_map.mp q
                exact ⟨q, hq, e.symm⟩
              have onek : ∀ k ∈ L.map (·.2), ∃ q, k = pk q := fun k hk => by
                obtain ⟨p, hp, rfl⟩ := List.mem_map.mp hk
                obtain ⟨q, _, e⟩ := one p hp
                exact ⟨q.2, by rw [e]⟩
              refine sorted_of (EO := EO) (m := m) (th := th) (H := H) (tupKind X.prog X.w) (enc := encN) (toT := toTN) (C := ((uniq ps).mergeSort leP).map pk) hc hu I R k st (fun p hp => ?_) (fun p hp => ?_) (fun k1 h1 k2 h2 => ?_) (fun ks h1 => ?_) (fun k1 h1 => ?_) (fun ks pm => ?_) ?_
              · obtain ⟨q, hq, rfl⟩ := one p hp
                exact (z2 q hq).2.1
              · obtain ⟨q, hq, rfl⟩ := one p hp
                exact PyProof.Rows.Reads.keeps k (z2 q hq).2.2
              · obtain ⟨x, rfl⟩ := onek k1 h1
                obtain ⟨y, rfl⟩ := onek k2 h2
                rfl
              · refine .inl fun d hd => ?_
                obtain ⟨k, hk, rfl⟩ := List.mem_map.mp hd
                obtain ⟨x, rfl⟩ := onek k (h1 k hk)
                exact ⟨_, _, rfl⟩
              · obtain ⟨x, rfl⟩ := onek k1 h1
                simp [encN, PyData.depth, PyData.depthAll]
              · exact sort_map lin_P le_encP (pm.trans (perm_uniq_map (fun a b h => pk_inj a b h) nd mem))
              · rw [List.map_map]; exact w
          · exact w.elim
    · exact w.elim
  · exact w.elim
theorem on_len (hc : X.calm = true) (hu : X.A.units + 66 < cLine) : OnSet X EO "len" fLenSet := by
  intro pins s σ H m th t v u Q I R vr ru w
  have fin : ∀ {K : Type} (kd : SKind X.prog X.w K) {L : List (Value × K)} {h' : Heap} {tk n : Nat}, kd.St h' s.heap.objs.size L → L.length = n → (∀ b o, s.heap.get? b = some o → h'.get? b = some o) → WT (gc X) EO m H (.ok (.int n) th) Q →
      wpAny (model X.prog X.w) X.A (call (.builtin "len") [.ref s.heap.objs.size]) (EP X pins σ Q) X.xe { s with heap := h', toks := tk } := by
    intro K kd L h' tk n st e k w
    subst e
    exact len_kd kd (s := { s with heap := h', toks := tk }) st fun tk2 => ⟨.int _, H, I.kept (t' := tk2 + 1) k, ⟨_, rfl⟩, Pn.done w R _ (.int _)⟩
  unfold fLenSet at w
  split at w
  · rename_i l el
    split at w
    · rename_i hl
      split at w
      · rename_i xs hx
        refine set_of (m := m) (th := th) (H := H) (ks := xs.map Sum.inr) (scanKind X.prog X.w) hc True.intro I R vr ru el hl (fun vs us a b => ?_) fun vs us h' tk L a b st g nd mem k => ?_
        · have e := strsT_R a hx
          subst e
          obtain ⟨z1, z2⟩ := el_key (ks := xs.map Sum.inr) (us := us) (by rw [List.map_map]; exact b)
          exact ⟨z1, fun p hp => ⟨kV_is (z2 p hp), key_scn (z2 p hp)⟩⟩
        · refine fin (scanKind X.prog X.w) st ?_ k w
          have := (perm_uniq_map (fun a b h => inr_inj h) nd mem).length_eq
          simpa using this
      · rename_i hx
        split at w
        · rename_i ns hn
          refine set_of (m := m) (th := th) (H := H) (ks := ns.map Sum.inl) (scanKind X.prog X.w) hc True.intro I R vr ru el hl (fun vs us a b => ?_) fun vs us h' tk L a b st g nd mem k => ?_
          · have e := intsOf_vr a hn
            subst e
            obtain ⟨z1, z2⟩ := el_key (ks := ns.map Sum.inl) (us := us) (by rw [List.map_map]; exact b)
            exact ⟨z1, fun p hp => ⟨kV_is (z2 p hp), key_scn (z2 p hp)⟩⟩
          · refine fin (scanKind X.prog X.w) st ?_ k w
            have := (perm_uniq_map (fun a b h => Sum.inl.inj h) nd mem).length_eq
            simpa using this
        · split at w
          · rename_i ps hp
            have elr : l = ps.map ofPair := pairsT_of hp
            subst elr
            refine set_of (m := m) (th := th) (H := H) (ks := ps.map pk) (tupKind X.prog X.w) hc (by show X.A.in1.in1.in1.units + 8 < cLine; have e3 : X.A.in1.in1.in1.units = X.A.units + 3 := rfl; omega) I R vr ru el hl (fun vs us a b => ?_) fun vs us h' tk L a b st g nd mem k => ?_
            · obtain ⟨z1, z2⟩ := el_pair I a b
              refine ⟨by rw [List.length_map]; exact z1, fun p hp => ?_⟩
              rw [List.zip_map_right] at hp
              obtain ⟨q, hq, rfl⟩ := List.mem_map.mp hp
              exact (z2 q hq).1
            · refine fin (tupKind X.prog X.w) st ?_ k w
              have := (perm_uniq_map (fun a b h => pk_inj a b h) nd mem).length_eq
              simpa using this
          · exact w.elim
    · exact w.elim
  · exact w.elim
theorem room66 {k : Nat} {A : Around} (r : Room k A) : A.units + 66 < cLine := by have := r.un; omega
variable {e : Expr} {d : ME} {p q p2 pos : Pos} {k : Nat}
theorem de_sortSet (hm : X.mg "sorted" = none) (hm2 : X.mg "set" = none) (hc : X.calm = true) (hr : Room k X.A) (h : DE X EO e d) (hg : Gl X "sorted" := by rfl) (hg2 : Gl X "set" := by rfl) (na : starEach [e] X.env = (false, eval e X.env) :: starEach [] X.env := by rfl) :
    DE X EO (.Call (.Name "sorted" p) [.Call (.Name "set" q) [e] [] p2] [] pos) (eUn fSortSet d) := de_onSet (on_sorted hc (room66 hr)) hm boot_sorted hm2 h hg hg2 na
theorem de_lenSet (hm : X.mg "len" = none) (hm2 : X.mg "set" = none) (hc : X.calm = true) (hr : Room k X.A) (h : DE X EO e d) (hg : Gl X "len" := by rfl) (hg2 : Gl X "set" := by rfl) (na : starEach [e] X.env = (false, eval e X.env) :: starEach [] X.env := by rfl) :
    DE X EO (.Call (.Name "len" p) [.Call (.Name "set" q) [e] [] p2] [] pos) (eUn fLenSet d) := de_onSet (on_len hc (room66 hr)) hm boot_len hm2 h hg hg2 na
end
end TL

/-! T-layer, part P: what loops and comprehensions give; what the laws share. -/
namespace TL
open PySem PySem.Spec PyProof.Rows L2
/-! ### loops that run over fixed things -/
/-- what is walked stays the same -/
def Fix (J : MIt) (ys : List Yv) (I : TH → Prop) : Prop := ∀ i h, I h → J i h = some (ys[i]?)
/-- a comprehension: I holds throughout; each turn tests to p, makes f -/
theorem lcN_eq {J : MIt} {g : MG} {t : MB} {e : ME} {σ0 : Sl} {ys : List Yv} {I : TH → Prop} {p : Yv → Bool} {f : Yv → T} (hJ : Fix J ys I)
    (hb : ∀ y ∈ ys, ∀ h, I h → ∃ σ1 h1 h2, g y σ0 h = .ok σ1 h1 ∧ t σ1 h1 = .ok (p y) h2 ∧ I h2 ∧ (p y = true → ∃ h3, e σ1 h2 = .ok (f y) h3 ∧ I h3)) :
    ∀ (n i : Nat) (h : TH) (acc : List T), ys.length - i < n → acc.length + (ys.length - i) ≤ sizeLine → I h → ∃ h', lcN J g t e σ0 n i h acc = .ok (acc ++ ((ys.drop i).filter p).map f) h' ∧ I h'
  | 0, i, h, acc, hn, _, _ => absurd hn (Nat.not_lt_zero _)
  | n + 1, i, h, acc, hn, hs, hI => by
    unfold lcN
    rw [hJ i h hI]
    cases hy : ys[i]? with
    | none =>
      have : ys.length ≤ i := List.getElem?_eq_none_iff.mp hy
      exact ⟨h, by simp [List.drop_eq_nil_of_le this], hI⟩
    | some y =>
      have hi : i < ys.length := (List.getElem?_eq_some_iff.mp hy).1
      have ey : ys[i] = y := (List.getElem?_eq_some_iff.mp hy).2
      have hd : ys.drop i = y :: ys.drop (i + 1) := by rw [List.drop_eq_getElem_cons hi, ey]
      obtain ⟨σ1, h1, h2, e1, e2, I2, e3⟩ := hb y (List.mem_of_getElem? hy) h hI
      simp only [e1, e2, bind_ok]
      cases hp : p y with
      | false =>
        obtain ⟨h', e4, I4⟩ := lcN_eq hJ hb n (i + 1) h2 acc (by omega) (by omega) I2
        refine ⟨h', ?_, I4⟩
        rw [if_neg (by decide), e4, hd, List.filter_cons_of_neg (by simp [hp])]
      | true =>
        obtain ⟨h3, e5, I3⟩ := e3 hp
        obtain ⟨h', e4, I4⟩ := lcN_eq hJ hb n (i + 1) h3 (acc ++ [f y]) (by omega) (by simp; omega) I3
        refine ⟨h', ?_, I4⟩
        rw [if_pos rfl, e5, bind_ok, if_pos (by omega), e4, hd, List.filter_cons_of_pos hp]
        simp
theorem eLc_eq {it : MI} {g : MG} {t : MB} {e : ME} {vs : List Nat} {σ : Sl} {h h1 : TH} {J : MIt} {ys : List Yv} {I : TH → Prop} {p : Yv → Bool} {f : Yv → T} (hit : it σ h = .ok J h1) (hJ : Fix J ys I) (hI : I h1) (hl : ys.length ≤ 1000000)
    (hb : ∀ y ∈ ys, ∀ h, I h → ∃ σ1 h1 h2, g y (wipeT σ vs) h = .ok σ1 h1 ∧ t σ1 h1 = .ok (p y) h2 ∧ I h2 ∧ (p y = true → ∃ h3, e σ1 h2 = .ok (f y) h3 ∧ I h3)) :
    ∃ h', eLc it g t e vs σ h = .ok (.ref h'.length) (h' ++ [.lst ((ys.filter p).map f)]) ∧ I h' := by
  obtain ⟨h', e1, e2⟩ := lcN_eq (p := p) (f := f) hJ hb FU 0 h1 [] (by unfold FU; omega) (by rw [sizeLine_eq]; simp; omega) hI
  refine ⟨h', ?_, e2⟩
  unfold eLc
  simp only [hit, bind_ok, e1]
  simp
/-- a loop: Iv at each turn -/
theorem forN_eq {J : MIt} {g : MG} {b : MS} {ys : List Yv} {Iv : Nat → Sl → TH → Prop} (hJ : ∀ i σ h, Iv i σ h → J i h = some (ys[i]?))
    (hb : ∀ i y, ys[i]? = some y → ∀ σ h, Iv i σ h → ∃ σ1 h1 σ2 h2, g y σ h = .ok σ1 h1 ∧ (b σ1 h1 = .nx σ2 h2 ∨ b σ1 h1 = .ct σ2 h2) ∧ Iv (i + 1) σ2 h2) :
    ∀ (n i : Nat) (σ : Sl) (h : TH), ys.length - i < n → i ≤ ys.length → Iv i σ h → ∃ σ' h', forN J g b n i σ h = .nx σ' h' ∧ Iv ys.length σ' h'
  | 0, _, _, _, hn, _, _ => absurd hn (Nat.not_lt_zero _)
  | n + 1, i, σ, h, hn, hi, hI => by
    unfold forN
    rw [hJ i σ h hI]
    cases hy : ys[i]? with
    | none =>
      have e : i = ys.length := by have := List.getElem?_eq_none_iff.mp hy; omega
      subst e
      exact ⟨σ, h, rfl, hI⟩
    | some y =>
      have hlt : i < ys.length := (List.getElem?_eq_some_iff.mp hy).1
      obtain ⟨σ1, h1, σ2, h2, e1, e2, I2⟩ := hb i y hy σ h hI
      obtain ⟨σ', h', e3, I3⟩ := forN_eq hJ hb n (i + 1) σ2 h2 (by omega) hlt I2
      refine ⟨σ', h', ?_, I3⟩
      simp only [e1, of_ok]
      rcases e2 with e2 | e2 <;> simp only [e2] <;> exact e3
/-- the same, a turn may break: then Dn -/
theorem forN_brk {J : MIt} {g : MG} {b : MS} {ys : List Yv} {Iv : Nat → Sl → TH → Prop} {Dn : Sl → TH → Prop} (hJ : ∀ i σ h, Iv i σ h → J i h = some (ys[i]?)) (hd : ∀ σ h, Iv ys.length σ h → Dn σ h)
    (hb : ∀ i y, ys[i]? = some y → ∀ σ h, Iv i σ h → ∃ σ1 h1 σ2 h2, g y σ h = .ok σ1 h1 ∧ (((b σ1 h1 = .nx σ2 h2 ∨ b σ1 h1 = .ct σ2 h2) ∧ Iv (i + 1) σ2 h2) ∨ (b σ1 h1 = .bk σ2 h2 ∧ Dn σ2 h2))) :
    ∀ (n i : Nat) (σ : Sl) (h : TH), ys.length - i < n → i ≤ ys.length → Iv i σ h → ∃ σ' h', forN J g b n i σ h = .nx σ' h' ∧ Dn σ' h'
  | 0, _, _, _, hn, _, _ => absurd hn (Nat.not_lt_zero _)
  | n + 1, i, σ, h, hn, hi, hI => by
    unfold forN
    rw [hJ i σ h hI]
    cases hy : ys[i]? with
    | none =>
      have e : i = ys.length := by have := List.getElem?_eq_none_iff.mp hy; omega
      subst e
      exact ⟨σ, h, rfl, hd σ h hI⟩
    | some y =>
      have hlt : i < ys.length := (List.getElem?_eq_some_iff.mp hy).1
      obtain ⟨σ1, h1, σ2, h2, e1, e2⟩ := hb i y hy σ h hI
      rcases e2 with ⟨e2, I2⟩ | ⟨e2, D2⟩
      · obtain ⟨σ', h', e3, I3⟩ := forN_brk hJ hd hb n (i + 1) σ2 h2 (by omega) hlt I2
        refine ⟨σ', h', ?_, I3⟩
        simp only [e1, of_ok]
        rcases e2 with e2 | e2 <;> simp only [e2] <;> exact e3
      · refine ⟨σ2, h2, ?_, D2⟩
        simp only [e1, of_ok, e2]
def rngY (lo : Int) (n : Nat) : List Yv := (List.range n).map fun i => .val (.int (lo + (i : Nat)))
theorem rng_fix {lo : Int} {n : Nat} (i : Nat) (h : TH) : itRng lo n i h = some ((rngY lo n)[i]?) := by
  unfold itRng rngY
  rw [List.getElem?_map]
  by_cases hi : i < n
  · rw [if_pos hi, List.getElem?_range hi]; rfl
  · rw [if_neg hi, List.getElem?_eq_none (by simpa using hi)]; rfl
theorem rngY_at {lo : Int} {n i : Nat} {y : Yv} (h : (rngY lo n)[i]? = some y) : i < n ∧ y = .val (.int (lo + (i : Nat))) := by
  unfold rngY at h
  rw [List.getElem?_map] at h
  by_cases hi : i < n
  · rw [List.getElem?_range hi] at h
    simp at h
    exact ⟨hi, h.symm⟩
  · rw [List.getElem?_eq_none (by simpa using hi)] at h; simp at h
theorem rngY_len (lo : Int) (n : Nat) : (rngY lo n).length = n := by simp [rngY]

/-! ### what all laws share -/
def b_cell : MS := sSeq (sIf (mB (eBin fLt (eVar 1) (eCall fLen (aCons (eVar 0) (aNil))))) (sRet (eBin fIx (eVar 0) (eVar 1))) (sNil)) (sRet (eC (.int 0)))
def F_cell : Fn := runB b_cell 0
theorem atI_nn {α : Type} {xs : List α} {k : Int} (h0 : 0 ≤ k) (h1 : k < xs.length) : atI xs k = some (xs[k.toNat]'(by omega)) := by
  unfold atI ixN
  rw [if_pos h0, if_pos h1]
  simp
theorem cell_eq (ns : List Int) (k : Int) (h : TH) (h0 : 0 ≤ k) : ∃ c, F_cell [.scr ns, .int k] h = .ok (.int c) h := by
  by_cases hk : k < ns.length
  · refine ⟨ns[k.toNat]'(by omega), ?_⟩
    have e : atI (ns.map T.int) k = some (.int (ns[k.toNat]'(by omega))) := by
      rw [atI_nn h0 (by simpa using hk)]; simp
    simp [F_cell, b_cell, runB, sSeq, sIf, SRes.of, SRes.then, mB, eBin, eVar, eCall, aCons, aNil, fLen, itemsOf, fLt, fLtB, hk, sRet, fIx, e, sNil, eC]
  · refine ⟨0, ?_⟩
    simp [F_cell, b_cell, runB, sSeq, sIf, SRes.of, SRes.then, mB, eBin, eVar, eCall, aCons, aNil, fLen, itemsOf, fLt, fLtB, hk, sRet, fIx, sNil, eC]
theorem get_last (h : TH) (x : TO) : (h ++ [x])[h.length]? = some x := by simp
theorem set_last (h : TH) (x y : TO) : (h ++ [x]).set h.length y = h ++ [y] := by
  simp [List.set_append]
def Dg (ds : List Int) : Prop := ∀ x ∈ ds, 0 ≤ x ∧ x < 1000
theorem Dg.snoc {ds : List Int} (h : Dg ds) {x : Int} (h0 : 0 ≤ x) (h1 : x < 1000) : Dg (ds ++ [x]) := fun y hy => by
  rcases List.mem_append.mp hy with z | z
  · exact h y z
  · rw [List.mem_singleton.mp z]; exact ⟨h0, h1⟩
theorem append_eq {h : TH} {ds : List Int} {x : Int} (hl : ds.length < 1000000) : fAppend (.ref h.length) [.int x] (h ++ [.lst (ds.map T.int)]) = .ok .non (h ++ [.lst ((ds ++ [x]).map T.int)]) := by
  unfold fAppend
  simp only [get_last]
  rw [if_pos (by rw [sizeLine_eq, List.length_map]; omega), set_last]
  simp
def b_in1 : MS := sIf (mB (eBin fGt (eVar 5) (eC (.int 0)))) (sSeq (sExpr (eMth msAppend (eVar 3) (aCons (eBin fMod (eCall fInt (aCons (eVar 5) (aNil))) (eC (.int 1000))) (aNil)))) (sSet 5 (eBin fDiv (eVar 5) (eC (.int 1000))))) (sNil)
def b_in2 : MS := sSeq (sSet 7 (eBin fMod (eCall fInt (aCons (eBin fAdd (eBin fAdd (eBin fMul (eVar 7) (eC (.int 16807))) (eBin fMul (eC (.int 7)) (eVar 6))) (eC (.int 1))) (aNil))) (eC (.int 2147483647)))) (sExpr (eMth msAppend (eVar 3) (aCons (eBin fMod (eCall fInt (aCons (eBin fDiv (eVar 7) (eC (.int 997))) (aNil))) (eC (.int 1000))) (aNil))))
def b_dg : MS := (sSeq (sSet 5 (eCallF 2 F_cell (aCons (eVar 0) (aCons (eVar 4) (aNil))))) (sSeq (sIf (mB (eBin fLt (eVar 5) (eC (.int 0)))) (sSet 5 (eBin fSub (eC (.int 1)) (eBin fMul (eC (.int 2)) (eVar 5)))) (sNil)) (sSeq (sIf (mB (eBin fGt (eCall fLen (aCons (eVar 3) (aNil))) (eC (.int 1500)))) (sBreak) (sNil)) (sIf (mB (eBin fGe (eVar 5) (eBin fPow (eC (.int 10)) (eC (.int 18))))) (sFor (iR1 (aCons (eC (.int 60)) (aNil))) (gName 6) b_in1) (sSeq (sSet 7 (eBin fMod (eCall fInt (aCons (eBin fAdd (eBin fAdd (eBin fMul (eVar 5) (eC (.int 48271))) (eBin fMul (eVar 4) (eC (.int 69621)))) (eC (.int 11))) (aNil))) (eC (.int 2147483647)))) (sFor (iR1 (aCons (eC (.int 12)) (aNil))) (gName 6) b_in2))))))
def b_digits : MS := sSeq (sSet 3 (eLst (aNil))) (sSeq (sFor (iR2 (aCons (eVar 1) (aCons (eVar 2) (aNil)))) (gName 4) b_dg) (sRet (eVar 3)))
def F_digits : Fn := runB b_digits 5
/-- the slots while the digits are made -/
def dgS (ns : List Int) (d : Nat) (k : Int) (c : Int) (o6 o7 : Option T) : Sl := [some (.scr ns), some (.int 0), some (.int 63), some (.ref d), some (.int k), some (.int c), o6, o7]
theorem in1_eq (ns : List Int) (h0 : TH) (k : Int) (o7 : Option T) (j : Nat) (o6 : Option T) (c : Int) (ds : List Int) (hd : Dg ds) (hl : ds.length < 900000) :
    ∃ c' ds', b_in1 (dgS ns h0.length k c o6 o7) (h0 ++ [.lst (ds.map T.int)]) = .nx (dgS ns h0.length k c' o6 o7) (h0 ++ [.lst (ds'.map T.int)]) ∧ Dg ds' ∧ ds'.length ≤ ds.length + 1 := by
  by_cases hc : 0 < c
  · refine ⟨c / 1000, ds ++ [c % 1000], ?_, hd.snoc (by omega) (by omega), by simp⟩
    have e := append_eq (h := h0) (ds := ds) (x := c % 1000) (by omega)
    simp [b_in1, dgS, sSeq, sIf, SRes.of, SRes.then, mB, eBin, eVar, eC, fGt, hc, sExpr, eMth, rcv, msAppend, aCons, aNil, eCall, fInt, fMod, e, sSet, fDiv]
  · refine ⟨c, ds, ?_, hd, by omega⟩
    simp [b_in1, dgS, sSeq, sIf, SRes.of, SRes.then, mB, eBin, eVar, eC, fGt, hc, sNil]
theorem in2_eq (ns : List Int) (h0 : TH) (k c : Int) (o7 : Int) (j : Int) (ds : List Int) (hd : Dg ds) (hl : ds.length < 900000) :
    ∃ s' ds', b_in2 (dgS ns h0.length k c (some (.int j)) (some (.int o7))) (h0 ++ [.lst (ds.map T.int)]) = .nx (dgS ns h0.length k c (some (.int j)) (some (.int s'))) (h0 ++ [.lst (ds'.map T.int)]) ∧ Dg ds' ∧ ds'.length ≤ ds.length + 1 := by
  refine ⟨(o7 * 16807 + 7 * j + 1) % 2147483647, ds ++ [(o7 * 16807 + 7 * j + 1) % 2147483647 / 997 % 1000], ?_, hd.snoc (by omega) (by omega), by simp⟩
  have e := append_eq (h := h0) (ds := ds) (x := (o7 * 16807 + 7 * j + 1) % 2147483647 / 997 % 1000) (by omega)
  simp [b_in2, dgS, sSeq, SRes.of, SRes.then, eBin, eVar, eC, sExpr, eMth, rcv, msAppend, aCons, aNil, eCall, fInt, fMod, fMul, fAdd, e, sSet, fDiv]
theorem dg_in1 (ns : List Int) (h0 : TH) (k c : Int) (o6 o7 : Option T) (ds : List Int) (hd : Dg ds) (hl : ds.length < 800000) :
    ∃ c' o6' ds', sFor (iR1 (aCons (eC (.int 60)) (aNil))) (gName 6) b_in1 (dgS ns h0.length k c o6 o7) (h0 ++ [.lst (ds.map T.int)]) = .nx (dgS ns h0.length k c' o6' o7) (h0 ++ [.lst (ds'.map T.int)]) ∧ Dg ds' ∧ ds'.length ≤ ds.length + 60 := by
  obtain ⟨σ', h', e, c', o6', ds', e1, e2, e3, e4⟩ := forN_eq (J := itRng 0 60) (g := gName 6) (b := b_in1) (ys := rngY 0 60) (Iv := fun i σ h => ∃ c' o6' ds', σ = dgS ns h0.length k c' o6' o7 ∧ h = h0 ++ [.lst (ds'.map T.int)] ∧ Dg ds' ∧ ds'.length ≤ ds.length + i) (fun i σ h _ => rng_fix i h)
    (fun i y hy σ h ⟨c', o6', ds', e1, e2, e3, e4⟩ => by
      obtain ⟨hi, rfl⟩ := rngY_at hy
      subst e1 e2
      obtain ⟨c2, ds2, q1, q2, q3⟩ := in1_eq ns h0 k o7 0 (some (.int (0 + (i : Nat)))) c' ds' e3 (by omega)
      exact ⟨_, _, _, _, rfl, .inl q1, c2, _, ds2, rfl, rfl, q2, by omega⟩) FU 0 _ _ (by rw [rngY_len]; unfold FU; omega) (Nat.zero_le _) ⟨c, o6, ds, rfl, rfl, hd, by omega⟩
  subst e1 e2
  rw [rngY_len] at e4
  refine ⟨c', o6', ds', ?_, e3, e4⟩
  simpa [sFor, iR1, aCons, aNil, eC] using e
theorem dg_in2 (ns : List Int) (h0 : TH) (k c s7 : Int) (o6 : Option T) (ds : List Int) (hd : Dg ds) (hl : ds.length < 800000) :
    ∃ o6' o7' ds', sFor (iR1 (aCons (eC (.int 12)) (aNil))) (gName 6) b_in2 (dgS ns h0.length k c o6 (some (.int s7))) (h0 ++ [.lst (ds.map T.int)]) = .nx (dgS ns h0.length k c o6' o7') (h0 ++ [.lst (ds'.map T.int)]) ∧ Dg ds' ∧ ds'.length ≤ ds.length + 12 := by
  obtain ⟨σ', h', e, s', o6', ds', e1, e2, e3, e4⟩ := forN_eq (J := itRng 0 12) (g := gName 6) (b := b_in2) (ys := rngY 0 12) (Iv := fun i σ h => ∃ s' o6' ds', σ = dgS ns h0.length k c o6' (some (.int s')) ∧ h = h0 ++ [.lst (ds'.map T.int)] ∧ Dg ds' ∧ ds'.length ≤ ds.length + i) (fun i σ h _ => rng_fix i h)
    (fun i y hy σ h ⟨s', o6', ds', e1, e2, e3, e4⟩ => by
      obtain ⟨hi, rfl⟩ := rngY_at hy
      subst e1 e2
      obtain ⟨s2, ds2, q1, q2, q3⟩ := in2_eq ns h0 k c s' (0 + (i : Nat)) ds' e3 (by omega)
      exact ⟨_, _, _, _, rfl, .inl q1, s2, _, ds2, rfl, rfl, q2, by omega⟩) FU 0 _ _ (by rw [rngY_len]; unfold FU; omega) (Nat.zero_le _) ⟨s7, o6, ds, rfl, rfl, hd, by omega⟩
  subst e1 e2
  rw [rngY_len] at e4
  refine ⟨o6', some (.int s'), ds', ?_, e3, e4⟩
  simpa [sFor, iR1, aCons, aNil, eC] using e
theorem dg_turn (ns : List Int) (h0 : TH) (k : Int) (hk : 0 ≤ k ∧ k < 63) (o5 o6 o7 : Option T) (ds : List Int) (hd : Dg ds) (hl : ds.length < 700000) :
    ∃ c' o6' o7' ds', (b_dg [some (.scr ns), some (.int 0), some (.int 63), some (.ref h0.length), some (.int k), o5, o6, o7] (h0 ++ [.lst (ds.map T.int)]) = .nx (dgS ns h0.length k c' o6' o7') (h0 ++ [.lst (ds'.map T.int)]) ∨
      b_dg [some (.scr ns), some (.int 0), some (.int 63), some (.ref h0.length), some (.int k), o5, o6, o7] (h0 ++ [.lst (ds.map T.int)]) = .bk (dgS ns h0.length k c' o6' o7') (h0 ++ [.lst (ds'.map T.int)])) ∧ Dg ds' ∧ ds'.length ≤ ds.length + 60 := by
  obtain ⟨c, hc⟩ := cell_eq ns k (h0 ++ [.lst (ds.map T.int)]) hk.1
  -- the cell made positive
  have rest : ∀ c : Int, ∃ c' o6' o7' ds', ((sSeq (sIf (mB (eBin fGt (eCall fLen (aCons (eVar 3) (aNil))) (eC (.int 1500)))) (sBreak) (sNil)) (sIf (mB (eBin fGe (eVar 5) (eBin fPow (eC (.int 10)) (eC (.int 18))))) (sFor (iR1 (aCons (eC (.int 60)) (aNil))) (gName 6) b_in1) (sSeq (sSet 7 (eBin fMod (eCall fInt (aCons (eBin fAdd (eBin fAdd (eBin fMul (eVar 5) (eC (.int 48271))) (eBin fMul (eVar 4) (eC (.int 69621)))) (eC (.int 11))) (aNil))) (eC (.int 2147483647)))) (sFor (iR1 (aCons (eC (.int 12)) (aNil))) (gName 6) b_in2)))) (dgS ns h0.length k c o6 o7) (h0 ++ [.lst (ds.map T.int)]) = .nx (dgS ns h0.length k c' o6' o7') (h0 ++ [.lst (ds'.map T.int)]) ∨
      (sSeq (sIf (mB (eBin fGt (eCall fLen (aCons (eVar 3) (aNil))) (eC (.int 1500)))) (sBreak) (sNil)) (sIf (mB (eBin fGe (eVar 5) (eBin fPow (eC (.int 10)) (eC (.int 18))))) (sFor (iR1 (aCons (eC (.int 60)) (aNil))) (gName 6) b_in1) (sSeq (sSet 7 (eBin fMod (eCall fInt (aCons (eBin fAdd (eBin fAdd (eBin fMul (eVar 5) (eC (.int 48271))) (eBin fMul (eVar 4) (eC (.int 69621)))) (eC (.int 11))) (aNil))) (eC (.int 2147483647)))) (sFor (iR1 (aCons (eC (.int 12)) (aNil))) (gName 6) b_in2)))) (dgS ns h0.length k c o6 o7) (h0 ++ [.lst (ds.map T.int)]) = .bk (dgS ns h0.length k c' o6' o7') (h0 ++ [.lst (ds'.map T.int)])) ∧ Dg ds' ∧ ds'.length ≤ ds.length + 60 := by
    intro c
    by_cases hbig : (1500 : Int) < ds.length
    · refine ⟨c, o6, o7, ds, .inr ?_, hd, by omega⟩
      simp [dgS, sSeq, sIf, SRes.of, SRes.then, mB, eBin, eVar, eC, eCall, aCons, aNil, fLen, fGt, hbig, sBreak]
    · by_cases hge : (10 : Int) ^ 18 ≤ c
      · obtain ⟨c', o6', ds', e1, e2, e3⟩ := dg_in1 ns h0 k c o6 o7 ds hd (by omega)
        refine ⟨c', o6', o7, ds', .inl ?_, e2, by omega⟩
        rw [← e1]
        have hge' : (1000000000000000000 : Int) ≤ c := by omega
        simp [dgS, sSeq, sIf, SRes.of, SRes.then, mB, eBin, eVar, eC, eCall, aCons, aNil, fLen, fGt, hbig, sNil, fGe, fPow, hge']
      · obtain ⟨o6', o7', ds', e1, e2, e3⟩ := dg_in2 ns h0 k c ((c * 48271 + k * 69621 + 11) % 2147483647) o6 ds hd (by omega)
        refine ⟨c, o6', o7', ds', .inl ?_, e2, by omega⟩
        rw [← e1]
        have hge' : ¬ (1000000000000000000 : Int) ≤ c := by omega
        simp [dgS, sSeq, sIf, SRes.of, SRes.then, mB, eBin, eVar, eC, eCall, aCons, aNil, fLen, fGt, hbig, sNil, fGe, fPow, hge', sSet, fInt, fMod, fMul, fAdd]
  by_cases hneg : c < 0
  · obtain ⟨c', o6', o7', ds', e1, e2, e3⟩ := rest (1 - 2 * c)
    refine ⟨c', o6', o7', ds', ?_, e2, e3⟩
    rcases e1 with e1 | e1
    · refine .inl ?_
      rw [← e1]
      unfold b_dg
      simp [dgS, sSeq, SRes.then, SRes.of, sSet, eCallF, aCons, aNil, eVar, hc, sIf, mB, eBin, eC, fLt, fLtB, hneg, fSub, fMul]
    · refine .inr ?_
      rw [← e1]
      unfold b_dg
      simp [dgS, sSeq, SRes.then, SRes.of, sSet, eCallF, aCons, aNil, eVar, hc, sIf, mB, eBin, eC, fLt, fLtB, hneg, fSub, fMul]
  · obtain ⟨c', o6', o7', ds', e1, e2, e3⟩ := rest c
    refine ⟨c', o6', o7', ds', ?_, e2, e3⟩
    rcases e1 with e1 | e1
    · refine .inl ?_
      rw [← e1]
      unfold b_dg
      simp [dgS, sSeq, SRes.then, SRes.of, sSet, eCallF, aCons, aNil, eVar, hc, sIf, mB, eBin, eC, fLt, fLtB, hneg, sNil]
    · refine .inr ?_
      rw [← e1]
      unfold b_dg
      simp [dgS, sSeq, SRes.then, SRes.of, sSet, eCallF, aCons, aNil, eVar, hc, sIf, mB, eBin, eC, fLt, fLtB, hneg, sNil]
theorem digits_eq (ns : List Int) (h0 : TH) : ∃ ds : List Int, F_digits [.scr ns, .int 0, .int 63] h0 = .ok (.ref h0.length) (h0 ++ [.lst (ds.map T.int)]) ∧ Dg ds ∧ ds.length ≤ 4000 := by
  obtain ⟨σ', h', e, c, o5, o6, o7, ds, e1, e2, e3, e4⟩ := forN_brk (J := itRng 0 63) (g := gName 4) (b := b_dg) (ys := rngY 0 63)
    (Iv := fun i σ h => ∃ o4 o5 o6 o7, ∃ ds : List Int, σ = [some (.scr ns), some (.int 0), some (.int 63), some (.ref h0.length), o4, o5, o6, o7] ∧ h = h0 ++ [.lst (ds.map T.int)] ∧ Dg ds ∧ ds.length ≤ 60 * i)
    (Dn := fun σ h => ∃ o4 o5 o6 o7, ∃ ds : List Int, σ = [some (.scr ns), some (.int 0), some (.int 63), some (.ref h0.length), o4, o5, o6, o7] ∧ h = h0 ++ [.lst (ds.map T.int)] ∧ Dg ds ∧ ds.length ≤ 4000)
    (fun i σ h _ => rng_fix i h) (fun σ h ⟨o4, o5, o6, o7, ds, e1, e2, e3, e4⟩ => ⟨o4, o5, o6, o7, ds, e1, e2, e3, by rw [rngY_len] at e4; omega⟩)
    (fun i y hy σ h ⟨o4, o5, o6, o7, ds, e1, e2, e3, e4⟩ => by
      obtain ⟨hi, rfl⟩ := rngY_at hy
      subst e1 e2
      obtain ⟨c', o6', o7', ds', q1, q2, q3⟩ := dg_turn ns h0 (0 + (i : Nat)) (by omega) o5 o6 o7 ds e3 (by omega)
      refine ⟨_, _, dgS ns h0.length (0 + (i : Nat)) c' o6' o7', h0 ++ [.lst (ds'.map T.int)], rfl, ?_⟩
      rcases q1 with q1 | q1
      · exact .inl ⟨.inl q1, _, _, _, _, ds', rfl, rfl, q2, by omega⟩
      · exact .inr ⟨q1, _, _, _, _, ds', rfl, rfl, q2, by omega⟩) FU 0 [some (.scr ns), some (.int 0), some (.int 63), some (.ref h0.length), none, none, none, none] (h0 ++ [.lst []]) (by rw [rngY_len]; unfold FU; omega) (Nat.zero_le _) ⟨none, none, none, none, [], rfl, rfl, (fun x hx => (by cases hx)), (by simp)⟩
  subst e1 e2
  refine ⟨ds, ?_, e3, e4⟩
  have e' : forN (itRng 0 63) (gName 4) b_dg FU 0 [some (.scr ns), some (.int 0), some (.int 63), some (.ref h0.length), none, none, none, none] (h0 ++ [.lst []]) = .nx [some (.scr ns), some (.int 0), some (.int 63), some (.ref h0.length), c, o5, o6, o7] (h0 ++ [.lst (ds.map T.int)]) := e
  simp [F_digits, b_digits, runB, sSeq, sSet, eLst, aNil, SRes.of, SRes.then, sFor, iR2, aCons, eVar, sRet, e', List.replicate]
/-- the box: the digits at d, the next one's place -/
def Bx (h : TH) (b d : Nat) : Prop := ∃ (at_ : Int) (ds : List Int), h[b]? = some (.lst [.ref d, .int at_]) ∧ 0 ≤ at_ ∧ h[d]? = some (.lst (ds.map T.int)) ∧ Dg ds ∧ d ≠ b
/-- what was there stays, but for the box -/
structure Gw (b : Nat) (h h' : TH) : Prop where
  len : h.length ≤ h'.length
  at_ : ∀ k o, k ≠ b → h[k]? = some o → h'[k]? = some o
theorem Gw.refl (b : Nat) (h : TH) : Gw b h h := ⟨Nat.le_refl _, fun _ _ _ e => e⟩
theorem Gw.trans {b : Nat} {h1 h2 h3 : TH} (x : Gw b h1 h2) (y : Gw b h2 h3) : Gw b h1 h3 := ⟨Nat.le_trans x.len y.len, fun k o hk e => y.at_ k o hk (x.at_ k o hk e)⟩
theorem app_get {h : TH} {k : Nat} {o : TO} (r : TH) (e : h[k]? = some o) : (h ++ r)[k]? = some o := by
  rw [List.getElem?_append_left (List.getElem?_eq_some_iff.mp e).1]; exact e
theorem Gw.app (b : Nat) (h r : TH) : Gw b h (h ++ r) := ⟨by simp, fun k o _ e => app_get r e⟩
theorem Bx.app {h : TH} {b d : Nat} (x : Bx h b d) (r : TH) : Bx (h ++ r) b d :=
  let ⟨a, ds, e1, e2, e3, e4, e5⟩ := x; ⟨a, ds, app_get r e1, e2, app_get r e3, e4, e5⟩
def b_draw : MS := sSeq (sSet 2 (eBin fIx (eVar 0) (eC (.int 1)))) (sSeq (sAsg (eBin fAdd (eVar 2) (eC (.int 1))) (gSub fSetL (eVar 0) (eC (.int 1)))) (sSeq (sIf (mB (eBin fLt (eVar 2) (eCall fLen (aCons (eBin fIx (eVar 0) (eC (.int 0))) (aNil))))) (sRet (eBin fMod (eCall fInt (aCons (eBin fIx (eBin fIx (eVar 0) (eC (.int 0))) (eVar 2)) (aNil))) (eVar 1))) (sNil)) (sRet (eBin fMod (eCall fInt (aCons (eBin fMul (eVar 2) (eC (.int 7))) (aNil))) (eVar 1)))))
def F_draw : Fn := runB b_draw 1
theorem draw_eq {h : TH} {b d : Nat} {many : Int} (x : Bx h b d) (hm : 0 < many) : ∃ (r : Int) (h' : TH), F_draw [.ref b, .int many] h = .ok (.int r) h' ∧ 0 ≤ r ∧ r < many ∧ Bx h' b d ∧ Gw b h h' ∧ h'.length = h.length := by
  obtain ⟨a, ds, e1, e2, e3, e4, e5⟩ := x
  have hb : b < h.length := (List.getElem?_eq_some_iff.mp e1).1
  have i1 : atI [T.ref d, T.int a] 1 = some (.int a) := rfl
  have i0 : ∀ z : Int, atI [T.ref d, T.int z] 0 = some (.ref d) := fun z => rfl
  have x2 : ixN 2 1 = some 1 := rfl
  have gb : (h.set b (.lst [.ref d, .int (a + 1)]))[b]? = some (.lst [.ref d, .int (a + 1)]) := by rw [List.getElem?_set_self hb]
  have gd : (h.set b (.lst [.ref d, .int (a + 1)]))[d]? = some (.lst (ds.map T.int)) := by rw [List.getElem?_set_ne (Ne.symm e5)]; exact e3
  have B' : Bx (h.set b (.lst [.ref d, .int (a + 1)])) b d := ⟨a + 1, ds, gb, by omega, gd, e4, e5⟩
  have G' : Gw b h (h.set b (.lst [.ref d, .int (a + 1)])) := ⟨by simp, fun k o hk e => by rw [List.getElem?_set_ne (Ne.symm hk)]; exact e⟩
  by_cases hl : a < ds.length
  · have ix : atI (ds.map T.int) a = some (.int (ds[a.toNat]'(by omega))) := by
      rw [atI_nn e2 (by simpa using hl)]; simp
    refine ⟨ds[a.toNat]'(by omega) % many, _, ?_, Int.emod_nonneg _ (by omega), Int.emod_lt_of_pos _ hm, B', G', by simp⟩
    simp [F_draw, b_draw, runB, sSeq, SRes.of, SRes.then, sSet, eBin, eVar, eC, fIx, itemsOf, e1, i1, sAsg, fAdd, gSub, fSetL, x2, sIf, mB, eCall, aCons, aNil, gb, gd, i0, fLen, fLt, fLtB, hl, sRet, ix, fInt, fMod, hm]
  · refine ⟨a * 7 % many, _, ?_, Int.emod_nonneg _ (by omega), Int.emod_lt_of_pos _ hm, B', G', by simp⟩
    simp [F_draw, b_draw, runB, sSeq, SRes.of, SRes.then, sSet, eBin, eVar, eC, fIx, itemsOf, e1, i1, sAsg, fAdd, gSub, fSetL, x2, sIf, mB, eCall, aCons, aNil, gb, gd, i0, fLen, fLt, fLtB, hl, sRet, fInt, fMod, hm, sNil, fMul]
end TL

/-! T-layer, part Q: things that are compared, changed. -/
namespace TL
open PySem PySem.Spec PyProof.Rows L2
/-- a thing: to depth n, rows of at most L, apart from the box at b -/
def Gd (b L : Nat) (h : TH) : Nat → T → Prop
  | 0, _ => False
  | n + 1, t => match t with
    | .non => True
    | .bl _ => True
    | .int _ => True
    | .str x => x.length ≤ 100 ∧ PyData.canLay0 (.str x) = true
    | .tup ts => ts.length ≤ L ∧ ∀ t ∈ ts, Gd b L h n t
    | .ref k => k ≠ b ∧ ∃ ts, h[k]? = some (.lst ts) ∧ ts.length ≤ L ∧ ∀ t ∈ ts, Gd b L h n t
    | .scr _ => False
theorem Gd.mono {b L L' : Nat} {h h' : TH} (hL : L ≤ L') (g : Gw b h h') : ∀ {n n' : Nat} {t : T}, n ≤ n' → Gd b L h n t → Gd b L' h' n' t
  | 0, _, _, _, x => x.elim
  | n + 1, 0, _, hn, _ => absurd hn (by omega)
  | n + 1, n' + 1, t, hn, x => by
    cases t with
    | non => trivial
    | bl _ => trivial
    | int _ => trivial
    | str _ => exact x
    | tup ts => exact ⟨Nat.le_trans x.1 hL, fun t ht => Gd.mono hL g (by omega) (x.2 t ht)⟩
    | ref k =>
      obtain ⟨hk, ts, e, hl, a⟩ := x
      exact ⟨hk, ts, g.at_ k _ hk e, Nat.le_trans hl hL, fun t ht => Gd.mono hL g (by omega) (a t ht)⟩
    | scr _ => exact x.elim
theorem mapM_all {α β : Type} {f : α → Option β} {P : β → Prop} : ∀ {l : List α}, (∀ a ∈ l, ∃ d, f a = some d ∧ P d) → ∃ ds, l.mapM f = some ds ∧ ds.length = l.length ∧ ∀ d ∈ ds, P d
  | [], _ => ⟨[], rfl, rfl, fun d hd => by cases hd⟩
  | a :: l, h => by
    obtain ⟨d, e, p⟩ := h a List.mem_cons_self
    obtain ⟨ds, e2, hl, p2⟩ := mapM_all fun x hx => h x (List.mem_cons_of_mem _ hx)
    refine ⟨d :: ds, by rw [List.mapM_cons, e, e2]; rfl, by simp [hl], fun x hx => ?_⟩
    rcases List.mem_cons.mp hx with z | z
    · rw [z]; exact p
    · exact p2 x z
theorem canAll : ∀ {ds : List PyData}, (∀ d ∈ ds, d.canLay0 = true) → PyData.canLayAll0 ds = true
  | [], _ => rfl
  | d :: ds, h => by
    show (d.canLay0 && PyData.canLayAll0 ds) = true
    rw [h d List.mem_cons_self, canAll fun x hx => h x (List.mem_cons_of_mem _ hx)]; rfl
theorem depthAll_le {n : Nat} : ∀ {ds : List PyData}, (∀ d ∈ ds, d.depth ≤ n) → PyData.depthAll ds ≤ n
  | [], _ => Nat.zero_le _
  | d :: ds, h => by
    show max d.depth (PyData.depthAll ds) ≤ n
    exact Nat.max_le.mpr ⟨h d List.mem_cons_self, depthAll_le fun x hx => h x (List.mem_cons_of_mem _ hx)⟩
theorem gd_dat {b L : Nat} {h : TH} : ∀ {n : Nat} {t : T}, Gd b L h n t → ∀ m, n ≤ m → ∃ d, dat m h t = some d ∧ d.canLay0 = true ∧ d.depth ≤ n
  | 0, _, x, _, _ => x.elim
  | n + 1, t, x, 0, hm => absurd hm (by omega)
  | n + 1, t, x, m + 1, hm => by
    have rows : ∀ ts : List T, (∀ t ∈ ts, Gd b L h n t) → ∃ ds, ts.mapM (dat m h) = some ds ∧ ds.length = ts.length ∧ ∀ d ∈ ds, d.canLay0 = true ∧ d.depth ≤ n := fun ts a => mapM_all fun t ht => gd_dat (a t ht) m (by omega)
    cases t with
    | non => exact ⟨_, rfl, rfl, Nat.zero_le _⟩
    | bl _ => exact ⟨_, rfl, rfl, Nat.zero_le _⟩
    | int _ => exact ⟨_, rfl, rfl, Nat.zero_le _⟩
    | str z => exact ⟨_, rfl, x.2, Nat.zero_le _⟩
    | tup ts =>
      obtain ⟨ds, e, _, p⟩ := rows ts x.2
      refine ⟨.tuple ds, by simp only [dat, e]; rfl, canAll fun d hd => (p d hd).1, Nat.succ_le_succ (depthAll_le fun d hd => (p d hd).2)⟩
    | ref k =>
      obtain ⟨hk, ts, e0, hl, a⟩ := x
      obtain ⟨ds, e, _, p⟩ := rows ts a
      refine ⟨.list ds, by simp only [dat, e0, e]; rfl, canAll fun d hd => (p d hd).1, Nat.succ_le_succ (depthAll_le fun d hd => (p d hd).2)⟩
    | scr _ => exact x.elim
theorem gd_ty {b L : Nat} {h : TH} {n : Nat} {t : T} (x : Gd b L h n t) : ∃ ty, tyT h t = some ty := by
  cases n with
  | zero => exact x.elim
  | succ n =>
    cases t with
    | ref k => obtain ⟨_, ts, e, _⟩ := x; exact ⟨.lst, by simp [tyT, e]⟩
    | scr _ => exact x.elim
    | _ => exact ⟨_, rfl⟩
/-- what a thing's isinstance of str, of tuple says -/
def isS : T → Bool
  | .str _ => true
  | _ => false
def isT : T → Bool
  | .tup _ => true
  | _ => false
theorem inst_str {b L : Nat} {h : TH} {n : Nat} {t : T} (x : Gd b L h n t) : fIsInst .str t h = .ok (.bl (isS t)) h := by
  cases n with
  | zero => exact x.elim
  | succ n =>
    cases t with
    | ref k => obtain ⟨_, ts, e, _⟩ := x; simp [fIsInst, tyT, e, isS, Ty.is]
    | scr _ => exact x.elim
    | _ => simp [fIsInst, tyT, isS, Ty.is]
theorem inst_tup {b L : Nat} {h : TH} {n : Nat} {t : T} (x : Gd b L h n t) : fIsInst .tup t h = .ok (.bl (isT t)) h := by
  cases n with
  | zero => exact x.elim
  | succ n =>
    cases t with
    | ref k => obtain ⟨_, ts, e, _⟩ := x; simp [fIsInst, tyT, e, isT, Ty.is]
    | scr _ => exact x.elim
    | _ => simp [fIsInst, tyT, isT, Ty.is]
/-- is it just this text -/
def eqS (z : Str) : T → Bool
  | .str x => decide (x = z)
  | _ => false
theorem eq_str {b L : Nat} {h : TH} {n : Nat} {t : T} (z : Str) (hz : PyData.canLay0 (.str z) = true) (x : Gd b L h n t) (hn : n ≤ 60) : fEqB t (.str z) h = .ok (eqS z t) h := by
  obtain ⟨d, e, c, dp⟩ := gd_dat x 66 (by omega)
  have sz : SeqAt.shaped (.str z) = true := by
    unfold SeqAt.shaped
    rw [hz]; rfl
  have sd : SeqAt.shaped d = true := by
    unfold SeqAt.shaped
    rw [c, Bool.true_and, decide_eq_true_eq]; omega
  have ez : dat 66 h (.str z) = some (.str z) := rfl
  cases t with
  | str y => rfl
  | int i =>
    cases e
    simp only [fEqB, ez, eqS]
    rw [show dat 66 h (.int i) = some (.int i) from rfl]
    simp [sz, sd, PyData.eqv]
  | non => cases e; simp only [fEqB, ez, eqS]; rw [show dat 66 h .non = some .none from rfl]; simp [sz, sd, PyData.eqv]
  | bl q => cases e; simp only [fEqB, ez, eqS]; rw [show dat 66 h (.bl q) = some (.bool q) from rfl]; simp [sz, sd, PyData.eqv]
  | tup ts =>
    simp only [fEqB, ez, eqS, e, sz, sd, and_self, if_true]
    have : ∃ ds, d = .tuple ds := by
      simp only [dat, Option.map_eq_some_iff] at e
      obtain ⟨ds, _, e⟩ := e
      exact ⟨ds, e.symm⟩
    obtain ⟨ds, rfl⟩ := this
    rfl
  | ref k =>
    simp only [fEqB, ez, eqS, e, sz, sd, and_self, if_true]
    have : ∃ ds, d = .list ds := by
      simp only [dat] at e
      split at e
      · simp only [Option.map_eq_some_iff] at e
        obtain ⟨ds, _, e⟩ := e
        exact ⟨ds, e.symm⟩
      · cases e
    obtain ⟨ds, rfl⟩ := this
    rfl
  | scr ns =>
    cases n with
    | zero => exact x.elim
    | succ n => exact x.elim
theorem join_one (s : Str) : Txt.join ("" : Str) [s] = s := by
  cases s; rfl
def b_like (g : Fn) : MS := sSeq (sIf (mB (eUn (fIsInst .tup) (eVar 1))) (sSeq (sIf (mOr (mNot (mB (eUn (fIsInst .tup) (eVar 0)))) (mB (eBin fNe (eCall fLen (aCons (eVar 0) (aNil))) (eCall fLen (aCons (eVar 1) (aNil)))))) (sRet (eC (.bl false))) (sNil)) (sRet (eBin fEq (eLc (iR1 (aCons (eCall fLen (aCons (eVar 1) (aNil))) (aNil))) (gName 2) (mNot (mB (eCallF 2 g (aCons (eBin fIx (eVar 0) (eVar 2)) (aCons (eBin fIx (eVar 1) (eVar 2)) (aNil)))))) (eC (.int 1)) [2]) (eLst (aNil))))) (sNil)) (sSeq (sIf (mB (eBin fIs (eVar 1) (eC .non))) (sRet (eBin fIs (eVar 0) (eC .non))) (sNil)) (sSeq (sIf (mB (eBin fIs (eVar 1) (eC (.bl true)))) (sRet (eBin fIs (eVar 0) (eC (.bl true)))) (sNil)) (sSeq (sIf (mB (eBin fIs (eVar 1) (eC (.bl false)))) (sRet (eBin fIs (eVar 0) (eC (.bl false)))) (sNil)) (sSeq (sIf (mB (eUn (fIsInst .str) (eVar 1))) (sRet (eAnd (eUn (fIsInst .str) (eVar 0)) (eBin fEq (eMth msJoin (eC (.str "")) (aCons (eLst (aCons (eVar 0) (aNil))) (aNil))) (eVar 1)))) (sNil)) (sRet (eAnd (eUn (fIsInst .int) (eVar 0)) (eAnd (eNot (eUn (fIsInst .bl) (eVar 0))) (eBin fEq (eVar 0) (eVar 1)))))))))
theorem like_str {b L : Nat} {h : TH} {m : Nat} {t : T} (n : Nat) (x : Gd b L h m t) (z : Str) : ∃ r, recF b_like 1 (n + 1) [t, .str z] h = .ok (.bl (eqS z t)) (h ++ r) := by
  have e0 := inst_str x
  cases t with
  | str s =>
    refine ⟨[.lst [.str s]], ?_⟩
    have hl : s.length ≤ 100 := by
      cases m with
      | zero => exact x.elim
      | succ m => exact x.1
    have hz : s.length + (("" : Str)).length ≤ 16777216 := by
      have : (("" : Str)).length = 0 := by decide
      omega
    simp [recF, b_like, runB, sSeq, sIf, SRes.of, SRes.then, mB, eUn, eVar, fIsInst, tyT, Ty.is, sNil, eBin, eC, fIs, fIsB, isN, isBl, sRet, eAnd, eMth, rcv, msJoin, aCons, aNil, eLst, fJoin, fJoin1, strsT, sizeLine_eq, get_last, join_one, fEq, fEqB, eqS, hz]
  | _ =>
    refine ⟨[], ?_⟩
    have e1 : fIsInst .tup (.str z) h = .ok (.bl false) h := by simp [fIsInst, tyT, Ty.is]
    have e2 : fIsInst .str (.str z) h = .ok (.bl true) h := by simp [fIsInst, tyT, Ty.is]
    simp [recF, b_like, runB, sSeq, sIf, SRes.of, SRes.then, mB, eUn, eVar, sNil, eBin, eC, fIs, fIsB, isN, isBl, sRet, eAnd, e0, e1, e2, isS, eqS]
theorem like_bl (n : Nat) (a c : Bool) (h : TH) : recF b_like 1 (n + 1) [.bl a, .bl c] h = .ok (.bl (a == c)) h := by
  cases a <;> cases c <;> simp [recF, b_like, runB, sSeq, sIf, SRes.of, SRes.then, mB, eUn, eVar, fIsInst, tyT, Ty.is, sNil, eBin, eC, fIs, fIsB, isN, isBl, sRet]
/-! ### a heap that grows at its end -/
def Gr (h h' : TH) : Prop := ∃ r, h' = h ++ r
theorem Gr.refl (h : TH) : Gr h h := ⟨[], by simp⟩
theorem Gr.trans {a b c : TH} (x : Gr a b) (y : Gr b c) : Gr a c := by
  obtain ⟨r, rfl⟩ := x
  obtain ⟨q, rfl⟩ := y
  exact ⟨r ++ q, by simp⟩
theorem Gr.app (h r : TH) : Gr h (h ++ r) := ⟨r, rfl⟩
theorem Gr.gw {h h' : TH} (b : Nat) (x : Gr h h') : Gw b h h' := by
  obtain ⟨r, rfl⟩ := x
  exact Gw.app b h r
theorem Gr.bx {h h' : TH} {b d : Nat} (x : Gr h h') (y : Bx h b d) : Bx h' b d := by
  obtain ⟨r, rfl⟩ := x
  exact y.app r
theorem Gr.get {h h' : TH} {k : Nat} {o : TO} (x : Gr h h') (e : h[k]? = some o) : h'[k]? = some o := by
  obtain ⟨r, rfl⟩ := x
  exact app_get r e
theorem eLc_gr {it : MI} {g : MG} {t : MB} {e : ME} {vs : List Nat} {σ : Sl} {h : TH} {J : MIt} {ys : List Yv} {p : Yv → Bool} {f : Yv → T} (hit : ∃ h1, it σ h = .ok J h1 ∧ Gr h h1) (hJ : ∀ i h', Gr h h' → J i h' = some (ys[i]?)) (hl : ys.length ≤ 1000000)
    (hb : ∀ y ∈ ys, ∀ h', Gr h h' → ∃ σ1 h2, g y (wipeT σ vs) h' = .ok σ1 h' ∧ t σ1 h' = .ok (p y) h2 ∧ Gr h' h2 ∧ (p y = true → ∃ h3, e σ1 h2 = .ok (f y) h3 ∧ Gr h2 h3)) :
    ∃ h', Gr h h' ∧ eLc it g t e vs σ h = .ok (.ref h'.length) (h' ++ [.lst ((ys.filter p).map f)]) := by
  obtain ⟨h1, e1, g1⟩ := hit
  obtain ⟨h', e2, g2⟩ := eLc_eq (I := fun h' => Gr h h') (p := p) (f := f) e1 (fun i h' x => hJ i h' x) g1 hl fun y hy h' x => by
    obtain ⟨σ1, h2, q1, q2, q3, q4⟩ := hb y hy h' x
    refine ⟨σ1, h', h2, q1, q2, x.trans q3, fun hp => ?_⟩
    obtain ⟨h3, q5, q6⟩ := q4 hp
    exact ⟨h3, q5, (x.trans q3).trans q6⟩
  exact ⟨h', g2, e2⟩
theorem blsOf_map {α : Type} (q : α → Bool) : ∀ l : List α, blsOf (l.map fun c => T.bl (q c)) = some (l.map q)
  | [] => rfl
  | c :: l => by simp [blsOf, blsOf_map q l]
/-- all([..]) over a made list -/
theorem all_of {h : TH} {l : List T} {bs : List Bool} (e : blsOf l = some bs) : fAll [.ref h.length] (h ++ [.lst l]) = .ok (.bl (bs.all id)) (h ++ [.lst l]) := by
  unfold fAll lstArg
  simp [e]
theorem dat_ref {n : Nat} {h : TH} {k : Nat} {l : List T} {ds : List PyData} (e : h[k]? = some (.lst l)) (e2 : l.mapM (dat n h) = some ds) : dat (n + 1) h (.ref k) = some (.list ds) := by
  show (match h[k]? with | some (.lst ts) => (ts.mapM (dat n h)).map PyData.list | _ => none) = _
  rw [e]
  show (l.mapM (dat n h)).map PyData.list = _
  rw [e2]; rfl
theorem dat_tup {n : Nat} {h : TH} {l : List T} {ds : List PyData} (e2 : l.mapM (dat n h) = some ds) : dat (n + 1) h (.tup l) = some (.tuple ds) := by
  show (l.mapM (dat n h)).map PyData.tuple = _
  rw [e2]; rfl
/-- is a == [] for a made list -/
theorem eq_nil {h2 : TH} {l : List T} (hd : ∃ ds, l.mapM (dat 65 h2) = some ds ∧ ds.length = l.length ∧ SeqAt.shaped (.list ds) = true) (k k2 : Nat) (e1 : h2[k]? = some (.lst l)) (e2 : h2[k2]? = some (.lst [])) : fEqB (.ref k) (.ref k2) h2 = .ok (decide (l = [])) h2 := by
  obtain ⟨ds, q1, q2, q3⟩ := hd
  unfold fEqB
  have d1 : dat 66 h2 (.ref k) = some (.list ds) := dat_ref e1 q1
  have d2 : dat 66 h2 (.ref k2) = some (.list []) := dat_ref e2 rfl
  have s0 : SeqAt.shaped (.list []) = true := by decide
  simp only [d1, d2, q3, s0, and_self, if_true]
  cases l with
  | nil => cases ds with
    | nil => rfl
    | cons d ds => simp at q2
  | cons t l => cases ds with
    | nil => simp at q2
    | cons d ds => simp [PyData.eqv, PyData.eqvAll]
theorem strY {z : Str} (i : Nat) : ((z.cps[i]?).map fun c => Yv.val (.str ⟨#[c]⟩)) = (z.cps.toList.map fun c => Yv.val (.str ⟨#[c]⟩))[i]? := by
  rw [List.getElem?_map, Array.getElem?_toList]
theorem tupY {ts : List T} (i : Nat) : ((ts[i]?).map Yv.val) = (ts.map Yv.val)[i]? := by rw [List.getElem?_map]
def inS (a b : Str) : Bool := !(Builtin.Str.occurrences b a 0 b.length 1).isEmpty
/-- all([e for ..]) -/
theorem all_lc {it : MI} {g : MG} {e : ME} {vs : List Nat} {σ : Sl} {h : TH} {J : MIt} {ys : List Yv} {q : Yv → Bool} (hit : ∃ h1, it σ h = .ok J h1 ∧ Gr h h1) (hJ : ∀ i h', Gr h h' → J i h' = some (ys[i]?)) (hl : ys.length ≤ 1000000)
    (hb : ∀ y ∈ ys, ∀ h', Gr h h' → ∃ σ1 h2, g y (wipeT σ vs) h' = .ok σ1 h' ∧ e σ1 h' = .ok (.bl (q y)) h2 ∧ Gr h' h2) :
    ∃ h', Gr h h' ∧ eCall fAll (aCons (eLc it g mYes e vs) aNil) σ h = .ok (.bl (ys.all q)) h' := by
  obtain ⟨h', g1, e1⟩ := eLc_gr (p := fun _ => true) (f := fun y => .bl (q y)) (t := mYes) (e := e) hit hJ hl fun y hy h' x => by
    obtain ⟨σ1, h2, q1, q2, q3⟩ := hb y hy h' x
    exact ⟨σ1, h', q1, rfl, Gr.refl _, fun _ => ⟨h2, q2, q3⟩⟩
  refine ⟨h' ++ [.lst ((ys.filter fun _ => true).map fun y => .bl (q y))], g1.trans (Gr.app _ _), ?_⟩
  have hb : blsOf ((ys.filter fun _ => true).map fun y => T.bl (q y)) = some (ys.map q) := by
    rw [List.filter_eq_self.mpr (fun _ _ => rfl)]
    exact blsOf_map q ys
  simp only [eCall, aCons, aNil, e1, bind_ok, all_of hb, List.all_map]
  rfl
/-- [e for .. if t] == [] -/
theorem nil_lc {it : MI} {g : MG} {t : MB} {e : ME} {vs : List Nat} {σ : Sl} {h : TH} {J : MIt} {ys : List Yv} {p : Yv → Bool} {f : Yv → T} (hit : ∃ h1, it σ h = .ok J h1 ∧ Gr h h1) (hJ : ∀ i h', Gr h h' → J i h' = some (ys[i]?)) (hl : ys.length ≤ 1000000)
    (hf : ∀ y ∈ ys, ∃ d, (∀ h, dat 65 h (f y) = some d) ∧ d.canLay0 = true ∧ d.depth = 0)
    (hb : ∀ y ∈ ys, ∀ h', Gr h h' → ∃ σ1 h2, g y (wipeT σ vs) h' = .ok σ1 h' ∧ t σ1 h' = .ok (p y) h2 ∧ Gr h' h2 ∧ (p y = true → ∃ h3, e σ1 h2 = .ok (f y) h3 ∧ Gr h2 h3)) :
    ∃ h', Gr h h' ∧ eBin fEq (eLc it g t e vs) (eLst aNil) σ h = .ok (.bl (ys.all fun y => !p y)) h' ∧ eBin fNe (eLc it g t e vs) (eLst aNil) σ h = .ok (.bl (!ys.all fun y => !p y)) h' := by
  obtain ⟨h', g1, e1⟩ := eLc_gr (p := p) (f := f) (t := t) (e := e) hit hJ hl hb
  refine ⟨h' ++ [.lst ((ys.filter p).map f)] ++ [.lst []], (g1.trans (Gr.app _ _)).trans (Gr.app _ _), ?_⟩
  have dd : ∃ ds, ((ys.filter p).map f).mapM (dat 65 (h' ++ [.lst ((ys.filter p).map f)] ++ [.lst []])) = some ds ∧ ds.length = ((ys.filter p).map f).length ∧ SeqAt.shaped (.list ds) = true := by
    obtain ⟨ds, q1, q2, q3⟩ := mapM_all (f := dat 65 (h' ++ [.lst ((ys.filter p).map f)] ++ [.lst []])) (P := fun d => d.canLay0 = true ∧ d.depth ≤ 0) (l := (ys.filter p).map f) fun a ha => by
      obtain ⟨y, hy, rfl⟩ := List.mem_map.mp ha
      obtain ⟨d, q1, q2, q3⟩ := hf y (List.mem_filter.mp hy).1
      exact ⟨d, q1 _, q2, by omega⟩
    refine ⟨ds, q1, q2, ?_⟩
    unfold SeqAt.shaped
    rw [Bool.and_eq_true, decide_eq_true_eq]
    refine ⟨canAll fun d hd => (q3 d hd).1, ?_⟩
    have : PyData.depthAll ds ≤ 0 := depthAll_le fun d hd => (q3 d hd).2
    show PyData.depthAll ds + 1 ≤ 64
    omega
  have ev : decide ((ys.filter p).map f = []) = ys.all fun y => !p y := by
    rw [Bool.eq_iff_iff]
    simp [List.filter_eq_nil_iff]
  have k1 : (h' ++ [TO.lst ((ys.filter p).map f)] ++ [.lst []])[h'.length]? = some (.lst ((ys.filter p).map f)) := by simp
  have k2 : (h' ++ [TO.lst ((ys.filter p).map f)] ++ [.lst []])[(h' ++ [TO.lst ((ys.filter p).map f)]).length]? = some (.lst []) := get_last _ _
  have fe := eq_nil dd h'.length (h' ++ [TO.lst ((ys.filter p).map f)]).length k1 k2
  have z : (0 : Nat) ≤ sizeLine := Nat.zero_le _
  rw [← ev]
  constructor
  · simp only [eBin, e1, bind_ok, eLst, aNil, List.length_nil, z, if_true, fEq, fe]
  · simp only [eBin, e1, bind_ok, eLst, aNil, List.length_nil, z, if_true, fNe, fe]
/-! ### ascending -/
def ascB {α : Type} (lt : α → α → Bool) (l : List α) : Bool := (l.zip (l.drop 1)).all fun p => lt p.1 p.2
theorem ascB_cons {α : Type} (lt : α → α → Bool) (a b : α) (l : List α) : ascB lt (a :: b :: l) = (lt a b && ascB lt (b :: l)) := by
  simp [ascB]
theorem asc_pair {α : Type} {lt : α → α → Bool} (tr : ∀ a b c, lt a b = true → lt b c = true → lt a c = true) : ∀ l : List α, ascB lt l = true ↔ l.Pairwise fun a b => lt a b = true
  | [] => by simp [ascB]
  | [a] => by simp [ascB]
  | a :: b :: l => by
    rw [ascB_cons, Bool.and_eq_true, asc_pair tr (b :: l), List.pairwise_cons (a := a)]
    refine ⟨fun ⟨h1, h2⟩ => ⟨fun x hx => ?_, h2⟩, fun ⟨h1, h2⟩ => ⟨h1 b List.mem_cons_self, h2⟩⟩
    rcases List.mem_cons.mp hx with e | hx
    · rw [e]; exact h1
    · exact tr a b x h1 ((List.pairwise_cons.mp h2).1 x hx)
theorem Lin.refl {α : Type} {le : α → α → Bool} (h : Lin le) (a : α) : le a a = true := by have := h.total a a; simpa using this
theorem Lin.lt_tr {α : Type} {le : α → α → Bool} (h : Lin le) (a b c : α) (h1 : (!le b a) = true) (h2 : (!le c b) = true) : (!le c a) = true := by
  have e1 : le b a = false := by simpa using h1
  have e2 : le c b = false := by simpa using h2
  have t1 := h.total a b
  rw [e1, Bool.or_false] at t1
  cases e : le c a with
  | false => rfl
  | true => rw [h.trans c a b e t1] at e2; cases e2
theorem asc_sorted {α : Type} [DecidableEq α] {le : α → α → Bool} (h : Lin le) (l : List α) : ascB (fun a b => !le b a) l = decide (l = (uniq l).mergeSort le) := by
  rw [Bool.eq_iff_iff, decide_eq_true_eq, asc_pair h.lt_tr]
  constructor
  · intro p
    have nd : l.Nodup := p.imp fun {a b} hab e => by
      subst e
      rw [h.refl] at hab; cases hab
    rw [uniq_self nd]
    refine (List.mergeSort_of_pairwise (p.imp fun {a b} hab => ?_)).symm
    have := h.total a b
    have e : le b a = false := by simpa using hab
    rw [e, Bool.or_false] at this
    exact this
  · intro e
    have nd : l.Nodup := by
      rw [e]
      exact (List.mergeSort_perm (uniq l) le).nodup_iff.mpr (nodup_uniq l)
    have p : l.Pairwise fun a b => le a b = true := by
      rw [e]
      exact List.pairwise_mergeSort h.trans h.total (uniq l)
    refine List.Pairwise.imp (R := fun a b => le a b = true ∧ a ≠ b) (fun {a b} hab => ?_) (List.Pairwise.and p nd)
    cases e2 : le b a with
    | false => rfl
    | true => exact absurd (h.anti a b hab.1 e2) hab.2
theorem zipY {ts us : List T} (i : Nat) : (match ts[i]?, us[i]? with
    | some x, some y => some (Yv.parts [x, y])
    | _, _ => none) = ((ts.zip us).map fun p => Yv.parts [p.1, p.2])[i]? := by
  rw [List.getElem?_map, List.zip_eq_zipWith, List.getElem?_zipWith]
  cases ts[i]? <;> cases us[i]? <;> rfl
theorem cut1 {α : Type} (l : List α) : cutL l (some 1) none = l.drop 1 := by
  unfold cutL
  have e1 : HT.sIx l.length 0 (some 1) = min 1 l.length := HT.sIx_nat l.length 0 1
  have e2 : HT.sIx l.length l.length none = l.length := rfl
  rw [e1, e2]
  cases l with
  | nil => rfl
  | cons a l =>
    have : min 1 (a :: l).length = 1 := by simp
    rw [this]
    simp
def ltP (p q : Str × Str) : Bool := !leP q p
theorem ltS_not (a b : Str) : ltS a b = !leS b a := by rw [leS_not]; simp
theorem lt_strs (a b : Str) (h : TH) : fLt (.str a) (.str b) h = .ok (.bl (ltS a b)) h := rfl
theorem lt_pairs (a b : Str × Str) (h : TH) : fLt (ofPair a) (ofPair b) h = .ok (.bl (ltP a b)) h := by
  have d : ∀ p : Str × Str, dat 66 h (ofPair p) = some (.tuple [.str p.1, .str p.2]) := fun p => rfl
  have e : PySem.W.dataLt (.tuple [.str a.1, .str a.2]) (.tuple [.str b.1, .str b.2]) = ltP a b := by
    unfold ltP
    rw [le_encP]
    show _ = !!PySem.W.dataLt (.tuple [.str a.1, .str a.2]) (.tuple [.str b.1, .str b.2])
    simp
  have al : PySem.W.alike (.tuple [.str a.1, .str a.2]) (.tuple [.str b.1, .str b.2]) = true := rfl
  have dp : (PyData.tuple [.str a.1, .str a.2]).depth ≤ 63 := by simp [PyData.depth, PyData.depthAll]
  unfold fLt fLtB
  simp only [d]
  rw [if_pos ⟨al, (fun z => by cases z), dp⟩, e]
  rfl
/-! ### rows of texts, of pairs -/
theorem mapM_strs (m : Nat) (h : TH) : ∀ xs : List Str, (xs.map T.str).mapM (dat (m + 1) h) = some (xs.map PyData.str)
  | [] => rfl
  | x :: xs => by
    rw [List.map_cons, List.mapM_cons, mapM_strs m h xs]; rfl
theorem mapM_pairs (m : Nat) (h : TH) : ∀ ps : List (Str × Str), (ps.map ofPair).mapM (dat (m + 2) h) = some (ps.map fun p => PyData.tuple [.str p.1, .str p.2])
  | [] => rfl
  | x :: xs => by
    rw [List.map_cons, List.mapM_cons, mapM_pairs m h xs]; rfl
def okS (x : Str) : Prop := PyData.canLay0 (.str x) = true
theorem eqvAll_strs : ∀ xs ys : List Str, PyData.eqvAll (xs.map .str) (ys.map .str) = decide (xs = ys)
  | [], [] => by simp [PyData.eqvAll]
  | [], _ :: _ => by simp [PyData.eqvAll]
  | _ :: _, [] => by simp [PyData.eqvAll]
  | x :: xs, y :: ys => by
    simp only [List.map_cons, PyData.eqvAll, PyData.eqv, eqvAll_strs xs ys, List.cons.injEq, Bool.decide_and]
    congr 1
theorem eqvAll_pairs : ∀ xs ys : List (Str × Str), PyData.eqvAll (xs.map fun p => .tuple [.str p.1, .str p.2]) (ys.map fun p => .tuple [.str p.1, .str p.2]) = decide (xs = ys)
  | [], [] => by simp [PyData.eqvAll]
  | [], _ :: _ => by simp [PyData.eqvAll]
  | _ :: _, [] => by simp [PyData.eqvAll]
  | x :: xs, y :: ys => by
    simp only [List.map_cons, PyData.eqvAll, PyData.eqv, eqvAll_pairs xs ys, List.cons.injEq, Bool.decide_and]
    congr 1
    obtain ⟨x1, x2⟩ := x
    obtain ⟨y1, y2⟩ := y
    by_cases h : x1 = y1 <;> by_cases h2 : x2 = y2 <;> simp [h, h2]
theorem shaped_strs {xs : List Str} (h : ∀ x ∈ xs, okS x) : SeqAt.shaped (.list (xs.map .str)) = true := by
  unfold SeqAt.shaped
  rw [Bool.and_eq_true, decide_eq_true_eq]
  refine ⟨canAll fun d hd => ?_, ?_⟩
  · obtain ⟨x, hx, rfl⟩ := List.mem_map.mp hd
    exact h x hx
  · have : PyData.depthAll (xs.map PyData.str) ≤ 0 := depthAll_le fun d hd => by
      obtain ⟨x, hx, rfl⟩ := List.mem_map.mp hd
      exact Nat.le_refl _
    show PyData.depthAll (xs.map PyData.str) + 1 ≤ 64
    omega
theorem shaped_pairs {xs : List (Str × Str)} (h : ∀ x ∈ xs, okS x.1 ∧ okS x.2) : SeqAt.shaped (.list (xs.map fun p => .tuple [.str p.1, .str p.2])) = true := by
  unfold SeqAt.shaped
  rw [Bool.and_eq_true, decide_eq_true_eq]
  refine ⟨canAll fun d hd => ?_, ?_⟩
  · obtain ⟨x, hx, rfl⟩ := List.mem_map.mp hd
    show (PyData.canLay0 (.str x.1) && (PyData.canLay0 (.str x.2) && true)) = true
    rw [(h x hx).1, (h x hx).2]; rfl
  · have : PyData.depthAll (xs.map fun p => PyData.tuple [.str p.1, .str p.2]) ≤ 1 := depthAll_le fun d hd => by
      obtain ⟨x, hx, rfl⟩ := List.mem_map.mp hd
      simp [PyData.depth, PyData.depthAll]
    show PyData.depthAll (xs.map fun p => PyData.tuple [.str p.1, .str p.2]) + 1 ≤ 64
    omega
theorem eq_strs {h : TH} {k k2 : Nat} {xs ys : List Str} (e1 : h[k]? = some (.lst (xs.map T.str))) (e2 : h[k2]? = some (.lst (ys.map T.str))) (h1 : ∀ x ∈ xs, okS x) (h2 : ∀ x ∈ ys, okS x) : fEqB (.ref k) (.ref k2) h = .ok (decide (xs = ys)) h := by
  unfold fEqB
  have d1 : dat 66 h (.ref k) = some (.list (xs.map .str)) := dat_ref e1 (mapM_strs 64 h xs)
  have d2 : dat 66 h (.ref k2) = some (.list (ys.map .str)) := dat_ref e2 (mapM_strs 64 h ys)
  simp only [d1, d2, shaped_strs h1, shaped_strs h2, and_self, if_true]
  show Res.ok (PyData.eqvAll _ _) h = _
  rw [eqvAll_strs]
theorem eq_pairs {h : TH} {k k2 : Nat} {xs ys : List (Str × Str)} (e1 : h[k]? = some (.lst (xs.map ofPair))) (e2 : h[k2]? = some (.lst (ys.map ofPair))) (h1 : ∀ x ∈ xs, okS x.1 ∧ okS x.2) (h2 : ∀ x ∈ ys, okS x.1 ∧ okS x.2) : fEqB (.ref k) (.ref k2) h = .ok (decide (xs = ys)) h := by
  unfold fEqB
  have d1 : dat 66 h (.ref k) = some (.list (xs.map fun p => .tuple [.str p.1, .str p.2])) := dat_ref e1 (mapM_pairs 63 h xs)
  have d2 : dat 66 h (.ref k2) = some (.list (ys.map fun p => .tuple [.str p.1, .str p.2])) := dat_ref e2 (mapM_pairs 63 h ys)
  simp only [d1, d2, shaped_pairs h1, shaped_pairs h2, and_self, if_true]
  show Res.ok (PyData.eqvAll _ _) h = _
  rw [eqvAll_pairs]
theorem in_strs {h : TH} {a : Str} {xs : List Str} (ha : okS a) (hx : ∀ x ∈ xs, okS x) : fInB (.str a) (.tup (xs.map T.str)) h = .ok (decide (a ∈ xs)) h := by
  have d1 : dat 66 h (.str a) = some (.str a) := rfl
  have d2 : (xs.map T.str).mapM (dat 66 h) = some (xs.map .str) := mapM_strs 65 h xs
  have ca : PyData.canLayAll0 (xs.map .str) = true := canAll fun d hd => by
    obtain ⟨x, hx', rfl⟩ := List.mem_map.mp hd
    exact hx x hx'
  have dp : (PyData.str a).depth ≤ 62 := Nat.zero_le _
  have c0 : (PyData.str a).canLay0 = true := ha
  simp only [fInB, itemsOf, d1, d2, ca, dp, c0, and_self, if_true]
  congr 1
  rw [List.any_map, Bool.eq_iff_iff, List.any_eq_true, decide_eq_true_eq]
  constructor
  · rintro ⟨x, hx, e⟩
    have : x = a := by simpa [PyData.eqv] using e
    rw [← this]; exact hx
  · intro hm
    exact ⟨a, hm, by simp [PyData.eqv]⟩
end TL

/-! T-layer, part H: dicts whose keys are whole numbers and texts. -/
namespace TL
open PySem PySem.Spec PyProof.Rows L2
/-- the key that a value is -/
def kOf : T → Option Key
  | .int i => some (.inl i)
  | .str x => some (.inr x)
  | _ => none
theorem kOf_keyT (k : Key) : kOf (keyT k) = some k := by cases k <;> rfl
theorem kOf_of {t : T} {k : Key} (h : kOf t = some k) : t = keyT k := by
  cases t <;> simp [kOf] at h <;> subst h <;> rfl
/-- look-up -/
def dAt : List (T × T) → Key → Option T
  | [], _ => none
  | p :: r, k => if kOf p.1 = some k then some p.2 else dAt r k
/-- store: in its place, or at the end -/
def dPut (kvs : List (T × T)) (k : Key) (v : T) : List (T × T) :=
  if (dAt kvs k).isSome = true then kvs.map (fun p => if kOf p.1 = some k then (p.1, v) else p) else kvs ++ [(keyT k, v)]
def dDrop (kvs : List (T × T)) (k : Key) : List (T × T) := kvs.filter fun p => decide (kOf p.1 ≠ some k)
section
variable {G : Gc} {m m' : List Addr} {H H' : Hp}
theorem kr_len {kvs : List (T × T)} {xs : List (Key × V)} (r : KR G.K m H kvs xs) : kvs.length = xs.length := by
  unfold KR at r
  induction r with
  | nil => rfl
  | cons _ _ ih => simp [ih]
theorem kr_none {kvs : List (T × T)} {xs : List (Key × V)} (r : KR G.K m H kvs xs) (k : Key) : dAt kvs k = none → valV xs k = none := by
  unfold KR at r
  induction r with
  | nil => intro _; rfl
  | @cons p q ps qs h _ ih =>
    intro e
    have e1 : kOf p.1 = some q.1 := by rw [h.1]; exact kOf_keyT _
    by_cases c : q.1 = k
    · rw [dAt, if_pos (by rw [e1, c])] at e; cases e
    · rw [dAt, if_neg (by rw [e1]; intro z; exact c (Option.some.inj z))] at e
      rw [valV_neg c]
      exact ih e
theorem kr_some {kvs : List (T × T)} {xs : List (Key × V)} (r : KR G.K m H kvs xs) (k : Key) {t : T} : dAt kvs k = some t → ∃ v, valV xs k = some v ∧ VR G.K m H t v := by
  unfold KR at r
  induction r with
  | nil => intro e; cases e
  | @cons p q ps qs h _ ih =>
    intro e
    have e1 : kOf p.1 = some q.1 := by rw [h.1]; exact kOf_keyT _
    by_cases c : q.1 = k
    · rw [dAt, if_pos (by rw [e1, c])] at e
      cases e
      exact ⟨q.2, valV_pos c, h.2⟩
    · rw [dAt, if_neg (by rw [e1]; intro z; exact c (Option.some.inj z))] at e
      rw [valV_neg c]
      exact ih e
theorem kr_is {kvs : List (T × T)} {xs : List (Key × V)} (r : KR G.K m H kvs xs) (k : Key) : (valV xs k).isSome = (dAt kvs k).isSome := by
  cases e : dAt kvs k with
  | none => rw [kr_none r k e]; rfl
  | some t => obtain ⟨v, e2, _⟩ := kr_some r k e; rw [e2]; rfl
theorem kr_map {kvs : List (T × T)} {xs : List (Key × V)} (r : KR G.K m H kvs xs) (k : Key) {t : T} {v : V} (rv : VR G.K m H t v) :
    KR G.K m H (kvs.map fun p => if kOf p.1 = some k then (p.1, t) else p) (xs.map fun kv => if kv.1 = k then (kv.1, v) else kv) := by
  unfold KR at r ⊢
  induction r with
  | nil => exact .nil
  | @cons p q ps qs h _ ih =>
    have e1 : kOf p.1 = some q.1 := by rw [h.1]; exact kOf_keyT _
    rw [List.map_cons, List.map_cons]
    by_cases c : q.1 = k
    · rw [if_pos (by rw [e1, c]), if_pos c]
      exact .cons ⟨h.1, rv⟩ ih
    · rw [if_neg (by rw [e1]; intro z; exact c (Option.some.inj z)), if_neg c]
      exact .cons h ih
theorem kr_snoc {kvs : List (T × T)} {xs : List (Key × V)} (r : KR G.K m H kvs xs) (k : Key) {t : T} {v : V} (rv : VR G.K m H t v) :
    KR G.K m H (kvs ++ [(keyT k, t)]) (xs ++ [(k, v)]) := by
  unfold KR at r ⊢
  induction r with
  | nil => exact .cons ⟨rfl, rv⟩ .nil
  | cons h _ ih => exact .cons h ih
theorem kr_put {kvs : List (T × T)} {xs : List (Key × V)} (r : KR G.K m H kvs xs) (k : Key) {t : T} {v : V} (rv : VR G.K m H t v) : KR G.K m H (dPut kvs k t) (putK xs k v) := by
  unfold dPut putK
  rw [valV_any, kr_is r k]
  by_cases c : (dAt kvs k).isSome = true
  · rw [if_pos c, if_pos c]; exact kr_map r k rv
  · rw [if_neg c, if_neg c]; exact kr_snoc r k rv
theorem kr_drop {kvs : List (T × T)} {xs : List (Key × V)} (r : KR G.K m H kvs xs) (k : Key) : KR G.K m H (dDrop kvs k) (dropK xs k) := by
  unfold KR at r ⊢
  unfold dDrop dropK
  induction r with
  | nil => exact .nil
  | @cons p q ps qs h _ ih =>
    have e1 : kOf p.1 = some q.1 := by rw [h.1]; exact kOf_keyT _
    by_cases c : q.1 = k
    · rw [List.filter_cons_of_neg (by rw [e1, c]; simp), List.filter_cons_of_neg (by simp [c])]
      exact ih
    · rw [List.filter_cons_of_pos (by rw [e1]; simpa using c), List.filter_cons_of_pos (by simp [c])]
      exact .cons h ih
theorem VR.k {K : PySem.W.Frag} {t : T} {v : V} {k : Key} (r : VR K m H t v) (h : kOf t = some k) : v = kV k := by
  have e := kOf_of h
  subst e
  cases k <;> cases r <;> rfl
end
section
variable {X : Cx} {EO : EOb}
/-- d[k], xs[i], s[i] -/
def fIxD : Op2 := fun x y h => match x with
  | .ref n => match h[n]? with
    | some (.dic kvs) => match kOf y with
      | some k => match dAt kvs k with
        | some t => .ok t h
        | none => .stuck
      | none => .stuck
    | _ => fIx x y h
  | _ => fIx x y h
theorem ix_D (hu : X.A.units + 64 < cLine) : IxR X (rT (gc X) EO fIxD) := by
  intro value slice pins s σ H x y v u Q I rx ry ⟨m, th, a, b, R, ra, rb, w⟩ hs
  unfold fIxD at w
  split at w
  · rename_i n
    split at w
    · rename_i kvs hk
      split at w
      · rename_i k ek
        split at w
        · rename_i t et
          cases ra with
          | @ref _ p h1 =>
          obtain ⟨xs, h2, h3⟩ := R.at_ n p _ h1 hk
          obtain ⟨z, e3, rz⟩ := kr_some (G := gc X) h3 k et
          have ey := VR.k rb ek
          subst ey
          obtain rfl : v = Value.ref p := rx
          have g : DGet H p (kV k) (some z) := by rw [← e3]; exact .k h2
          exact tail_any (dict_typeIs I g) PySem.F.slot_dict_getitem.lookup (d_getItem (by omega) I g ry fun w' s' I' rw' => ⟨z, H, I', rw', Pn.done w R _ rz⟩) hs
        · exact w.elim
      · exact w.elim
    · exact ix_T value slice pins s σ H x y v u Q I rx ry ⟨m, th, _, b, R, ra, rb, w⟩ hs
  · exact ix_T value slice pins s σ H x y v u Q I rx ry ⟨m, th, _, b, R, ra, rb, w⟩ hs
variable {a b : Expr} {da db : ME} {pos : Pos}
theorem de_ixD (hu : X.A.units + 64 < cLine) (ha : DE X EO a da) (hb : DE X EO b db) (hs : PlainIx b := by intro _ _; rfl) : DE X EO (.Subscript a b pos) (eBin fIxD da db) := ⟨(pe_ix (ix_D hu) ha.pe hb.pe hs).of tOp_of⟩
/-- k in d; else as before -/
def fInD : Op2 := fun x y h => match y with
  | .ref n => match h[n]? with
    | some (.dic kvs) => match kOf x with
      | some k => .ok (.bl (dAt kvs k).isSome) h
      | none => .stuck
    | some (.lck kvs) => match kOf x with
      | some k => .ok (.bl (dAt kvs k).isSome) h
      | none => .stuck
    | _ => fIn x y h
  | _ => fIn x y h
def fNotInD : Op2 := fun x y h => match y with
  | .ref n => match h[n]? with
    | some (.dic kvs) => match kOf x with
      | some k => .ok (.bl (!(dAt kvs k).isSome)) h
      | none => .stuck
    | some (.lck kvs) => match kOf x with
      | some k => .ok (.bl (!(dAt kvs k).isSome)) h
      | none => .stuck
    | _ => fNotIn x y h
  | _ => fNotIn x y h
theorem dget_of {m : List Addr} {H : Hp} {th : TH} {n : Nat} {p : Addr} {k : Key} {kvs : List (T × T)} (R : Rel (gc X) m th H) (h1 : m[n]? = some p) (hk : th[n]? = some (.dic kvs) ∨ th[n]? = some (.lck kvs)) :
    ∃ xs, KR X.K m H kvs xs ∧ DGet H p (kV k) (valV xs k) := by
  rcases hk with hk | hk
  · obtain ⟨xs, h2, h3⟩ := R.at_ n p _ h1 hk
    exact ⟨xs, h3, .k h2⟩
  · obtain ⟨od, xs, h2, h3⟩ := R.at_ n p _ h1 hk
    exact ⟨xs, h3, .inl ⟨xs, k, .inr ⟨od, h2⟩, rfl, rfl⟩⟩
theorem of_inD (hu : X.A.units + 64 < cLine) : OpF X EO (compareOp .In) fInD := by
  intro pins s σ H x y v u Q I rx ry ⟨m, th, a, b, R, ra, rb, w⟩
  unfold fInD at w
  split at w
  · rename_i n
    have go : ∀ (kvs : List (T × T)) (k : Key), (th[n]? = some (.dic kvs) ∨ th[n]? = some (.lck kvs)) → kOf a = some k → WT (gc X) EO m H (.ok (.bl (dAt kvs k).isSome) th) Q →
        wpAny (model X.prog X.w) X.A (compareOp .In v u) (EP X pins σ Q) X.xe s := by
      intro kvs k hk ek w
      cases rb with
      | @ref _ p h1 =>
      obtain ⟨xs, h3, g⟩ := dget_of (k := k) R h1 hk
      have ey := VR.k ra ek
      subst ey
      obtain rfl : u = Value.ref p := ry
      refine d_in (by omega) I g rx fun s' I' => ⟨.bl _, H, I', rfl, ?_⟩
      rw [kr_is (G := gc X) h3 k]
      exact Pn.done w R _ (.bl _)
    split at w
    · rename_i kvs hk
      split at w
      · rename_i k ek
        exact go kvs k (.inl hk) ek w
      · exact w.elim
    · rename_i kvs hk
      split at w
      · rename_i k ek
        exact go kvs k (.inr hk) ek w
      · exact w.elim
    · exact of_in hu pins s σ H x y v u Q I rx ry ⟨m, th, a, _, R, ra, rb, w⟩
  · exact of_in hu pins s σ H x y v u Q I rx ry ⟨m, th, a, _, R, ra, rb, w⟩
theorem of_notInD (hu : X.A.units + 64 < cLine) : OpF X EO (compareOp .NotIn) fNotInD := by
  intro pins s σ H x y v u Q I rx ry ⟨m, th, a, b, R, ra, rb, w⟩
  unfold fNotInD at w
  split at w
  · rename_i n
    have go : ∀ (kvs : List (T × T)) (k : Key), (th[n]? = some (.dic kvs) ∨ th[n]? = some (.lck kvs)) → kOf a = some k → WT (gc X) EO m H (.ok (.bl (!(dAt kvs k).isSome)) th) Q →
        wpAny (model X.prog X.w) X.A (compareOp .NotIn v u) (EP X pins σ Q) X.xe s := by
      intro kvs k hk ek w
      cases rb with
      | @ref _ p h1 =>
      obtain ⟨xs, h3, g⟩ := dget_of (k := k) R h1 hk
      have ey := VR.k ra ek
      subst ey
      obtain rfl : u = Value.ref p := ry
      refine d_notIn (by omega) I g rx fun s' I' => ⟨.bl _, H, I', rfl, ?_⟩
      rw [kr_is (G := gc X) h3 k]
      exact Pn.done w R _ (.bl _)
    split at w
    · rename_i kvs hk
      split at w
      · rename_i k ek
        exact go kvs k (.inl hk) ek w
      · exact w.elim
    · rename_i kvs hk
      split at w
      · rename_i k ek
        exact go kvs k (.inr hk) ek w
      · exact w.elim
    · exact of_notIn hu pins s σ H x y v u Q I rx ry ⟨m, th, a, _, R, ra, rb, w⟩
  · exact of_notIn hu pins s σ H x y v u Q I rx ry ⟨m, th, a, _, R, ra, rb, w⟩
/-- d[k] = v, xs[i] = v -/
def fSetD : T → T → T → TH → Res Unit := fun o i t h => match o with
  | .ref n => match h[n]? with
    | some (.dic kvs) => match kOf i with
      | some k => if kvs.length < sizeLine then .ok () (h.set n (.dic (dPut kvs k t))) else .stuck
      | none => .stuck
    | _ => fSetL o i t h
  | _ => fSetL o i t h
theorem set_D (hu : X.A.units + 64 < cLine) : PSet X (tDSet (gc X) EO fSetD) := by
  intro pins s σ H o i v ov iv u Q I ro ri rv ⟨m, th, to, ti, tv, R, vo, vi, vv, w⟩
  unfold fSetD at w
  split at w
  · rename_i n
    split at w
    · rename_i kvs hk
      split at w
      · rename_i k ek
        split at w
        · rename_i hl
          cases vo with
          | @ref _ a h1 =>
          obtain ⟨xs, h2, h3⟩ := R.at_ n a _ h1 hk
          have ey := VR.k vi ek
          subst ey
          have kp : Keep H (upd H a (.dK (putK xs k v))) := by
            obtain ⟨n1, n2, _⟩ := (R.at_ n a _ h1 hk).not
            exact keep_upd n1 n2 _
          obtain ⟨R2, x⟩ := R.store h1 hk (.dK (putK xs k v)) (o' := .dic (dPut kvs k tv)) ⟨_, upd_same, (kr_put (G := gc X) h3 k vv).mono (List.prefix_refl _) kp⟩
          have hl2 : xs.length < sizeLine := by rw [← kr_len (G := gc X) h3]; exact hl
          obtain rfl : ov = Value.ref a := ro
          exact d_setItem (by omega) I (DPut.k h2 hl2) ri rv fun s' I' => ⟨_, I', w m _ x R2⟩
        · exact w.elim
      · exact w.elim
    · exact set_L pins s σ H o i v ov iv u Q I ro ri rv ⟨m, th, _, ti, tv, R, vo, vi, vv, w⟩
  · exact set_L pins s σ H o i v ov iv u Q I ro ri rv ⟨m, th, _, ti, tv, R, vo, vi, vv, w⟩
end
end TL

/-! T-layer, part H2: methods of dicts whose keys are whole numbers and texts; empty display, del. -/
namespace TL
open PySem PySem.Spec PyProof.Rows L2
section
variable {X : Cx} {EO : EOb} {pos : Pos}
theorem getD_vr {m : List Addr} {H : Hp} {kvs : List (T × T)} {xs : List (Key × V)} (r : KR X.K m H kvs xs) (k : Key) {t : T} {v : V} (rv : VR X.K m H t v) :
    VR X.K m H ((dAt kvs k).getD t) ((valV xs k).getD v) := by
  cases e : dAt kvs k with
  | none => rw [kr_none (G := gc X) r k e]; exact rv
  | some u => obtain ⟨z, e2, rz⟩ := kr_some (G := gc X) r k e; rw [e2]; exact rz
/-- the pairs of a dict, turned through or not -/
def dicOf (h : TH) : T → Option (List (T × T))
  | .ref n => match h[n]? with
    | some (.dic kvs) => some kvs
    | some (.lck kvs) => some kvs
    | _ => none
  | _ => none
theorem dicOf_at {m : List Addr} {H : Hp} {th : TH} {t : T} {v : V} {kvs : List (T × T)} (R : Rel (gc X) m th H) (r : VR X.K m H t v) (e : dicOf th t = some kvs) :
    ∃ p xs, v = .ref p ∧ KR X.K m H kvs xs ∧ ∀ k, DGet H p (kV k) (valV xs k) := by
  cases r with
  | @ref n a h1 =>
    simp only [dicOf] at e
    split at e
    · rename_i us hk
      cases e
      obtain ⟨xs, h2, h3⟩ := R.at_ n a _ h1 hk
      exact ⟨a, xs, rfl, h3, fun k => .k h2⟩
    · rename_i us hk
      cases e
      obtain ⟨od, xs, h2, h3⟩ := R.at_ n a _ h1 hk
      exact ⟨a, xs, rfl, h3, fun k => .inl ⟨xs, k, .inr ⟨od, h2⟩, rfl, rfl⟩⟩
    · cases e
  | _ => simp [dicOf] at e
def fGet : Mt := fun t ts h => match dicOf h t with
  | some kvs => match ts with
    | [y] => match kOf y with
      | some k => .ok ((dAt kvs k).getD .non) h
      | none => .stuck
    | [y, z] => match kOf y with
      | some k => .ok ((dAt kvs k).getD z) h
      | none => .stuck
    | _ => .stuck
  | none => .stuck
theorem mt_get' (hu : X.A.units + 64 < cLine) : MtF X EO "dict" "get" fGet := by
  refine mt_mk PySem.F.plainAttrs_dict PySem.F.slot_dict_get PySem.F.type_dict_get fun pins s σ H x xs v us Q I rx rs ⟨m, th, t, ts, R, vr, vrs, w⟩ => ?_
  unfold fGet at w
  split at w
  · rename_i kvs ek
    obtain ⟨p, zs, rfl, h3, g⟩ := dicOf_at R vr ek
    obtain rfl : v = Value.ref p := rx
    split at w
    · rename_i y
      split at w
      · rename_i k ey
        cases vrs with
        | cons r1 rr =>
        cases rr
        obtain ⟨u, rfl, ru⟩ := rs.one
        have e := VR.k r1 ey
        subst e
        exact d_get1 (by omega) I (g k) ru fun w' s' I' rw' => ⟨_, H, I', rw', Pn.done w R _ (getD_vr h3 k .non)⟩
      · exact w.elim
    · rename_i y z
      split at w
      · rename_i k ey
        cases vrs with
        | cons r1 rr =>
        cases rr with
        | cons r2 rr =>
        cases rr
        cases rs with
        | cons ru rs =>
        obtain ⟨u2, rfl, ru2⟩ := Vals.one rs
        have e := VR.k r1 ey
        subst e
        exact d_get2 (by omega) I (g k) ru ru2 fun w' s' I' rw' => ⟨_, H, I', rw', Pn.done w R _ (getD_vr h3 k r2)⟩
      · exact w.elim
    · exact w.elim
  · exact w.elim
def msGet : MtT := fun T => if T = "dict" then some fGet else none
theorem mts_get (hu : X.A.units + 64 < cLine) : MtsF X EO "get" msGet := by
  intro T f h
  unfold msGet at h
  split at h
  · rename_i e; subst e; cases h; exact mt_get' hu
  · cases h
/-- {} -/
def eDicN : ME := fun _ h => .ok (.ref h.length) (h ++ [.dic []])
theorem dic_new {G : Gc} {m : List Addr} {H : Hp} {th : TH} {p : Addr} {xs : List (Key × V)} {kvs : List (T × T)} {Φ : T → TH → List Addr → Hp → Prop} (R : Rel G m th H) (hp : H p = none) (vr : KR G.K m H kvs xs)
    (h : Pn G EO m H (.ok (.ref th.length) (th ++ [.dic kvs])) Φ) : Φ (.ref th.length) (th ++ [.dic kvs]) (m ++ [p]) (upd H p (.dK xs)) ∧ VR G.K (m ++ [p]) (upd H p (.dK xs)) (.ref th.length) (.ref p) := by
  have kp : Keep H (upd H p (.dK xs)) := keep_new hp _
  obtain ⟨R2, x⟩ := R.push hp (.dK xs) (.dic kvs) ⟨xs, upd_same, KR.mono (G := G) (List.prefix_append _ _) kp vr⟩
  exact ⟨h _ _ x R2, .ref (by rw [← R.len]; exact push_at)⟩
theorem de_dicN : DE X EO (.Dict [] [] pos) eDicN := by
  refine ⟨(pe_dnewK (X := X) (pos := pos)).of fun σ H Q ⟨m, σt, th, sr, R, h⟩ p hp => ?_⟩
  obtain ⟨w1, w2⟩ := dic_new (xs := []) (kvs := []) R hp .nil h
  exact w1 _ w2
def fSetdefault : Mt := fun t ts h => match t, ts with
  | .ref n, [y, z] => match h[n]? with
    | some (.dic kvs) => match kOf y with
      | some k => match dAt kvs k with
        | some u => .ok u h
        | none => if kvs.length < sizeLine then .ok z (h.set n (.dic (kvs ++ [(keyT k, z)]))) else .stuck
      | none => .stuck
    | _ => .stuck
  | _, _ => .stuck
def fPopD : Mt := fun t ts h => match t, ts with
  | .ref n, y :: zs => match h[n]? with
    | some (.dic kvs) => match kOf y with
      | some k => match dAt kvs k with
        | some u => if zs.length ≤ 1 then .ok u (h.set n (.dic (dDrop kvs k))) else .stuck
        | none => match zs with
          | [z] => .ok z h
          | _ => .stuck
      | none => .stuck
    | _ => .stuck
  | _, _ => .stuck
theorem dic_store {m : List Addr} {H : Hp} {th : TH} {n : Nat} {a : Addr} {kvs kws : List (T × T)} {ys : List (Key × V)} (R : Rel (gc X) m th H) (hm : m[n]? = some a) (hk : th[n]? = some (.dic kvs)) (r : KR X.K m H kws ys) :
    Rel (gc X) m (th.set n (.dic kws)) (upd H a (.dK ys)) ∧ Ext m H m (upd H a (.dK ys)) := by
  have kp : Keep H (upd H a (.dK ys)) := by
    obtain ⟨n1, n2, _⟩ := (R.at_ n a _ hm hk).not
    exact keep_upd n1 n2 _
  exact R.store hm hk (.dK ys) (o' := .dic kws) ⟨_, upd_same, KR.mono (G := gc X) (List.prefix_refl _) kp r⟩
theorem mt_popD' : MtF X EO "dict" "pop" fPopD := by
  refine mt_mk PySem.F.plainAttrs_dict PySem.F.slot_dict_pop PySem.F.type_dict_pop fun pins s σ H x xs v us Q I rx rs ⟨m, th, t, ts, R, vr, vrs, w⟩ => ?_
  unfold fPopD at w
  split at w
  · rename_i n y zs
    split at w
    · rename_i kvs hk
      split at w
      · rename_i k ey
        cases vr with
        | @ref _ a h1 =>
        obtain ⟨ws, h2, h3⟩ := R.at_ n a _ h1 hk
        obtain rfl : v = Value.ref a := rx
        cases vrs with
        | cons r1 rr =>
        have e := VR.k r1 ey
        subst e
        cases rs with
        | cons ru rs =>
        split at w
        · rename_i u eu
          split at w
          · rename_i hl
            obtain ⟨z, e3, rz⟩ := kr_some (G := gc X) h3 k eu
            obtain ⟨R2, x2⟩ := dic_store R h1 hk (kr_drop (G := gc X) h3 k)
            refine d_pop I h2 ru e3 ?_ fun w' s' I' rw' => ⟨z, _, I', rw', w m _ x2 R2 _ (rz.mono x2.pre x2.kp)⟩
            have hl2 := rs.length
            have hl3 := rr.length
            cases rs with
            | nil => exact .inl rfl
            | cons q rs =>
              cases rs with
              | nil => exact .inr ⟨_, rfl⟩
              | cons q2 rs => simp at hl2 hl3; omega
          · exact w.elim
        · rename_i eu
          split at w
          · rename_i z
            cases rr with
            | cons r2 rr =>
            cases rr
            obtain ⟨u2, rfl, ru2⟩ := Vals.one rs
            exact d_popD I h2 ru (kr_none (G := gc X) h3 k eu) fun s' I' => ⟨_, H, I', ru2, Pn.done w R _ r2⟩
          · exact w.elim
      · exact w.elim
    · exact w.elim
  · exact w.elim
end
end TL

/-! T-layer, part H3: dict(x) of a dict, of a list of pairs. -/
namespace TL
open PySem PySem.Spec PyProof.Rows L2
def kpairs : List T → Option (List (Key × T))
  | [] => some []
  | .tup [a, b] :: r => match kOf a, kpairs r with
    | some k, some ps => some ((k, b) :: ps)
    | _, _ => none
  | _ => none
def dMrg (acc : List (T × T)) (ps : List (Key × T)) : List (T × T) := ps.foldl (fun acc p => dPut acc p.1 p.2) acc
section
variable {G : Gc} {m : List Addr} {H : Hp}
def PKs (K : PySem.W.Frag) (m : List Addr) (H : Hp) : List (Key × T) → List (Key × V) → Prop := Paired fun p q => p.1 = q.1 ∧ VR K m H p.2 q.2
theorem kr_merge {ps : List (Key × T)} {qs : List (Key × V)} (r : PKs G.K m H ps qs) : ∀ {kvs : List (T × T)} {xs : List (Key × V)}, KR G.K m H kvs xs → KR G.K m H (dMrg kvs ps) (mergeK xs qs) := by
  unfold PKs at r
  induction r with
  | nil => intro kvs xs h; exact h
  | @cons p q ps qs e _ ih =>
    intro kvs xs h
    have h2 := kr_put (G := G) h p.1 e.2
    rw [show putK xs p.1 q.2 = putK xs q.1 q.2 by rw [e.1]] at h2
    exact ih h2
theorem pairs_at : ∀ {ts : List T} {vs : List V} {ps : List (Key × T)}, VRs G.K m H ts vs → kpairs ts = some ps →
    ∃ (as : List Addr) (qs : List (Key × V)), vs = as.map V.ref ∧ Paired (fun p kv => SqT G.K H p [kV kv.1, kv.2]) as qs ∧ PKs G.K m H ps qs
  | _, _, _, .nil, e => by
    simp only [kpairs, Option.some.injEq] at e
    subst e
    exact ⟨[], [], rfl, .nil, .nil⟩
  | _, _, ps, .cons (t := t) r rs, e => by
    unfold kpairs at e
    split at e
    · rename_i z; cases z
    · rename_i a b l z
      cases z
      split at e
      · rename_i k ps2 ek ep
        cases e
        obtain ⟨as, qs, e1, e2, e3⟩ := pairs_at rs ep
        cases r with
        | @tup _ p xs h1 h2 =>
        cases h2 with
        | cons ra h2 =>
        cases h2 with
        | cons rb h2 =>
        cases h2
        have ev := VR.k ra ek
        subst ev
        exact ⟨p :: as, (k, _) :: qs, by rw [e1]; rfl, .cons h1.t e2, .cons ⟨rfl, rb⟩ e3⟩
      · cases e
    · cases e
end
section
variable {X : Cx} {EO : EOb}
def fDict : Fn := fun ts h => match ts with
  | [.ref n] => match h[n]? with
    | some (.dic kvs) => .ok (.ref h.length) (h ++ [.dic kvs])
    | some (.lck kvs) => .ok (.ref h.length) (h ++ [.dic kvs])
    | some (.lst xs) => match kpairs xs with
      | some ps => .ok (.ref h.length) (h ++ [.dic (dMrg [] ps)])
      | none => .stuck
    | _ => .stuck
  | _ => .stuck
theorem cf_dict (hc : X.calm = true) : CallF X EO (.type "dict") fDict := by
  intro pins s σ H xs us Q I r ⟨m, th, ts, R, rs, w⟩
  unfold fDict at w
  split at w
  · rename_i n
    cases rs with
    | cons vr rr =>
    cases rr
    cases vr with
    | @ref _ a h1 =>
    split at w
    · rename_i kvs hk
      obtain ⟨ys, h2, h3⟩ := R.at_ n a _ h1 hk
      refine call_dictD pins s σ H _ us Q I r ⟨a, ys, rfl, .inl h2, fun p hp => ?_⟩
      obtain ⟨w1, w2⟩ := dic_new R hp h3 w
      exact w1 _ w2
    · rename_i kvs hk
      obtain ⟨od, ys, h2, h3⟩ := R.at_ n a _ h1 hk
      refine call_dictD pins s σ H _ us Q I r ⟨a, ys, rfl, .inr ⟨od, h2⟩, fun p hp => ?_⟩
      obtain ⟨w1, w2⟩ := dic_new R hp h3 w
      exact w1 _ w2
    · rename_i l hk
      split at w
      · rename_i ps ep
        obtain ⟨ys, h2, h3⟩ := R.at_ n a _ h1 hk
        obtain ⟨as, qs, e1, e2, e3⟩ := pairs_at (G := gc X) h3 ep
        subst e1
        refine call_dictP hc pins s σ H _ us Q I r ⟨a, as, qs, rfl, .of h2, e2, fun p hp => ?_⟩
        obtain ⟨w1, w2⟩ := dic_new R hp (kr_merge (G := gc X) e3 .nil) w
        exact w1 _ w2
      · exact w.elim
    · exact w.elim
  · exact w.elim
end
end TL

/-! T-layer, part H4: setdefault. -/
namespace TL
open PySem PySem.Spec PyProof.Rows L2
section
variable {X : Cx} {EO : EOb} {pos : Pos}
def fSetdef : Mt := fun t ts h => match t, ts with
  | .ref n, [y, z] => match h[n]? with
    | some (.dic kvs) => match kOf y with
      | some k => if kvs.length < sizeLine then (match dAt kvs k with
        | some u => .ok u h
        | none => .ok z (h.set n (.dic (dPut kvs k z)))) else .stuck
      | none => .stuck
    | _ => .stuck
  | _, _ => .stuck
theorem mt_setdef' : MtF X EO "dict" "setdefault" fSetdef := by
  refine mt_mk PySem.F.plainAttrs_dict PySem.F.slot_dict_setdefault PySem.F.type_dict_setdefault fun pins s σ H x xs v us Q I rx rs ⟨m, th, t, ts, R, vr, vrs, w⟩ => ?_
  unfold fSetdef at w
  split at w
  · rename_i n y z
    split at w
    · rename_i kvs hk
      split at w
      · rename_i k ey
        split at w
        · rename_i hl
          cases vr with
          | @ref _ a h1 =>
          obtain ⟨ws, h2, h3⟩ := R.at_ n a _ h1 hk
          obtain rfl : v = Value.ref a := rx
          cases vrs with
          | cons r1 rr =>
          cases rr with
          | cons r2 rr =>
          cases rr
          cases rs with
          | cons ru rs =>
          obtain ⟨u2, rfl, ru2⟩ := Vals.one rs
          have e := VR.k r1 ey
          subst e
          refine d_setd I h2 ru ru2 (by rw [← KR.length h3]; exact hl) (fun c hc w' s' I' rw' => ?_) fun hn w' s' I' rw' => ?_
          · split at w
            · rename_i c2 ec
              obtain ⟨c3, e3, rz⟩ := kr_some (G := gc X) h3 k ec
              rw [hc] at e3; cases e3
              exact ⟨c, H, I', rw', Pn.done w R _ rz⟩
            · rename_i ec
              rw [kr_none (G := gc X) h3 k ec] at hc; cases hc
          · split at w
            · rename_i c2 ec
              obtain ⟨c3, e3, rz⟩ := kr_some (G := gc X) h3 k ec
              rw [hn] at e3; cases e3
            · rename_i ec
              obtain ⟨R2, x2⟩ := dic_store R h1 hk (kr_put (G := gc X) h3 k r2)
              exact ⟨_, _, I', rw', w m _ x2 R2 _ (r2.mono x2.pre x2.kp)⟩
        · exact w.elim
      · exact w.elim
    · exact w.elim
  · exact w.elim
def msSetdef : MtT := fun T => if T = "dict" then some fSetdef else none
theorem mts_setdef : MtsF X EO "setdefault" msSetdef := by
  intro T f h
  unfold msSetdef at h
  split at h
  · rename_i e; subst e; cases h; exact mt_setdef'
  · cases h
def msPop : MtT := fun T => if T = "list" then some fPopL else if T = "dict" then some fPopD else none
theorem mts_pop : MtsF X EO "pop" msPop := by
  intro T f h
  unfold msPop at h
  split at h
  · rename_i e; subst e; cases h; exact mt_pop'
  · split at h
    · rename_i e; subst e; cases h; exact mt_popD'
    · cases h
end
end TL

/-! T-layer, part H5: dict(x) of a tuple of pairs. -/
namespace TL
open PySem PySem.Spec PyProof.Rows L2
section
variable {X : Cx} {EO : EOb} {pos : Pos}
theorem pairs_of2 {pins : List (Addr × Obj)} {σ : L2.St} {H : Hp} {s : Shared} (I : Inv X pins σ H s) : ∀ {ps : List Addr} {kvs : List (Key × V)}, Paired (fun p kv => SqT X.K H p [kV kv.1, kv.2]) ps kvs →
    ∃ (prs : List (Key × Value)) (P : List (Value × Value)), KV kvs prs ∧ prs.length = ps.length ∧ P.length = ps.length ∧
      ∀ (j : Nat) (k v : Value), P[j]? = some (k, v) → (∃ b, ps[j]? = some b ∧ s.heap.IsTuple b #[k, v]) ∧ ∃ key, prs[j]? = some (key, v) ∧ (mixKind X.prog X.w).is key k = true
  | _, _, .nil => ⟨[], [], .nil, rfl, rfl, fun j k v e => by simp at e⟩
  | _, _, .cons (a := p) (b := kv) h t => by
    obtain ⟨prs, P, r, hl, hl2, hp⟩ := pairs_of2 I t
    obtain ⟨its, rv, ht, _⟩ := I.tuple h
    obtain ⟨u, y, ei, ru, ry⟩ := vals2 rv
    subst ei
    refine ⟨(kv.1, y) :: prs, (u, y) :: P, .cons ⟨rfl, ry⟩ r, by simp [hl], by simp [hl2], fun j k v e => ?_⟩
    cases j with
    | zero =>
      simp only [List.getElem?_cons_zero, Option.some.injEq, Prod.mk.injEq] at e
      obtain ⟨e1, e2⟩ := e
      subst e1 e2
      exact ⟨⟨p, rfl, ht⟩, kv.1, rfl, kV_is ru⟩
    | succ j => simpa using hp j k v (by simpa using e)
theorem call_dictPT (hcalm : X.calm = true) : CallR X (.type "dict") (fun xs H Q => ∃ (a : Addr) (ps : List Addr) (kvs : List (Key × V)), xs = [.ref a] ∧ TpS X.K H a (ps.map V.ref) ∧ Paired (fun p kv => SqT X.K H p [kV kv.1, kv.2]) ps kvs ∧
    ∀ p, H p = none → Q (.ref p) (upd H p (.dK (mergeK [] kvs)))) := by
  intro pins s σ H xs us Q I r ⟨a, ps, kvs, ex, hq, hp, q⟩
  subst ex
  obtain ⟨u, rfl, rx⟩ := r.one
  obtain rfl : u = Value.ref a := rx
  have key : ∃ its : List Value, Vals (ps.map V.ref) its ∧ PlainSeq "tuple" s.heap a its.toArray ∧ its.length ≤ sizeLine := by
    rcases hq with ⟨o, h, hd⟩ | ⟨o, its, n, hk, hc, hd, hdat, hz, rv⟩
    · obtain ⟨q1, z, its, rv, o', e', hc, n, hdat⟩ := (show s.heap.get? a = some o ∧ ObjOk X.prog X.w H s.heap a (.tup (ps.map V.ref)) from I.hok _ _ h)
      rw [q1] at e'; cases e'
      exact ⟨its, rv, ⟨o, n, q1, hc, hd, hdat⟩, by rw [← rv.length]; exact z⟩
    · exact ⟨its.toList, rv, ⟨o, n, I.kIn _ o hk, hc, hd, by simpa using hdat⟩, by simpa using hz⟩
  obtain ⟨its, rv, pl, hz⟩ := key
  have ei : its = ps.map Value.ref := refs_at rv
  subst ei
  rw [List.length_map] at hz
  obtain ⟨prs, P, rel, hl, hl2, hpr⟩ := pairs_of2 I hp
  refine _root_.PySem.call_dict_pairs (knd := mixKind X.prog X.w) (kvs := prs) (_root_.PySem.PairArg.tuple a (ps.map Value.ref).toArray (fun j => ps.getD j 0) P) (I.ok.hd hcalm) ⟨pl, by simp [hl2], fun j k v e => ?_⟩ ⟨by rw [hl, hl2], fun i k v e => ?_⟩ (by rw [hl2]; exact hz) fun h' tk hd' k => ?_
  · obtain ⟨⟨b, e1, e2⟩, _⟩ := hpr j k v e
    exact ⟨by simp [e1], .inl (by simpa [e1] using e2)⟩
  · exact (hpr i k v e).2
  · have hm : (s.heap.objs.size == sysModules) = false := beq_eq_false_iff_ne.mpr (Nat.ne_of_gt I.big)
    have hlen : (mergeK [] kvs).length ≤ sizeLine := by
      refine Nat.le_trans (length_mergeK kvs []) ?_
      rw [List.length_nil, Nat.zero_add, rel.length, hl]
      exact hz
    exact ⟨.ref s.heap.objs.size, upd H s.heap.objs.size (.dK (mergeK [] kvs)), I.laid (t' := tk) (fun b o e => k b o (by simp) e) (Nat.le_refl _) (show ObjOk X.prog X.w _ _ _ (.dK (mergeK [] kvs)) from ⟨hlen, hm, merged [] prs, KV.merge rel .nil, hd'⟩), rfl, q _ (I.hok.fresh (Nat.le_refl _))⟩
/-- dict(x) of a dict, a list or a tuple of pairs -/
def fDictA : Fn := fun ts h => match ts with
  | [.tup xs] => match kpairs xs with
    | some ps => .ok (.ref h.length) (h ++ [.dic (dMrg [] ps)])
    | none => .stuck
  | _ => fDict ts h
theorem cf_dictA (hc : X.calm = true) : CallF X EO (.type "dict") fDictA := by
  intro pins s σ H xs us Q I r ⟨m, th, ts, R, rs, w⟩
  unfold fDictA at w
  split at w
  · rename_i l
    split at w
    · rename_i ps ep
      cases rs with
      | cons vr rr =>
      cases rr
      cases vr with
      | @tup _ a ys h1 h2 =>
      obtain ⟨as, qs, e1, e2, e3⟩ := pairs_at (G := gc X) h2 ep
      subst e1
      refine call_dictPT hc pins s σ H _ us Q I r ⟨a, as, qs, rfl, h1, e2, fun p hp => ?_⟩
      obtain ⟨w1, w2⟩ := dic_new R hp (kr_merge (G := gc X) e3 .nil) w
      exact w1 _ w2
    · exact w.elim
  · exact cf_dict hc pins s σ H xs us Q I r ⟨m, th, ts, R, rs, w⟩
end
end TL

/-! T-layer, part H6: dict comprehensions of one clause. -/
namespace TL
open PySem PySem.Spec PyProof.Rows L2
section
variable {X : Cx} {EO : EOb} {pos : Pos} {e tg : Expr}
/-- an object of another kind that is none of ours changes -/
theorem Rel.otherD {G : Gc} {m : List Addr} {th : TH} {H : Hp} {p : Addr} {xs : List (Key × V)} (R : Rel G m th H) (hp : p ∉ m) (hl : H p = Option.some (.dK xs)) (u : HO) : Rel G m th (upd H p u) ∧ Keep H (upd H p u) := by
  have k : Keep H (upd H p u) := keep_upd (fun ob ys e => by rw [hl] at e; cases e) (fun ob ys e => by rw [hl] at e; cases e) u
  exact ⟨⟨R.len, R.nd, fun j b q hb hq => (R.at_ j b q hb hq).mono (List.prefix_refl _) k (upd_ne fun e => hp (e ▸ List.mem_of_getElem? hb))⟩, k⟩
/-- what stands at p is ours from now on -/
theorem Rel.take {G : Gc} {m : List Addr} {th : TH} {H : Hp} {p : Addr} {o : TO} (R : Rel G m th H) (hp : p ∉ m) (r : OR G m H p o) : Rel G (m ++ [p]) (th ++ [o]) H := by
  refine ⟨by simp [R.len], ?_, fun j b q hb hq => ?_⟩
  · rw [List.nodup_append]
    refine ⟨R.nd, by simp, fun b hb c hc => ?_⟩
    have : c = p := by simpa using hc
    subst this
    exact fun e => hp (e ▸ hb)
  · by_cases hj : j < m.length
    · rw [List.getElem?_append_left hj] at hb
      rw [List.getElem?_append_left (by rw [← R.len]; exact hj)] at hq
      exact (R.at_ j b q hb hq).mono (List.prefix_append _ _) (Keep.refl _) rfl
    · rw [List.getElem?_append_right (by omega)] at hb
      rw [List.getElem?_append_right (by rw [← R.len]; omega)] at hq
      have e0 : j - m.length = 0 := by
        by_cases h : j - m.length = 0
        · exact h
        · rw [List.getElem?_eq_none (by simp; omega)] at hb; cases hb
      rw [e0] at hb
      have e1 : j - th.length = 0 := by rw [← R.len]; exact e0
      rw [e1] at hq
      simp only [List.getElem?_cons_zero, Option.some.injEq] at hb hq
      subst hb hq
      exact r.mono (List.prefix_append _ _) (Keep.refl _) rfl
def dcN (J : MIt) (g : MG) (t : MB) (ek ev : ME) (σ0 : Sl) : Nat → Nat → TH → List (T × T) → Res (List (T × T))
  | 0, _, _, _ => .stuck
  | n + 1, i, h, acc => match J i h with
    | none => .stuck
    | some none => .ok acc h
    | some (some y) => (g y σ0 h).bind fun σ1 h1 => (t σ1 h1).bind fun c h2 =>
      if c = true then (ek σ1 h2).bind fun k h3 => (ev σ1 h3).bind fun z h4 => match kOf k with
        | some key => if acc.length < sizeLine then dcN J g t ek ev σ0 n (i + 1) h4 (dPut acc key z) else .stuck
        | none => .stuck
      else dcN J g t ek ev σ0 n (i + 1) h2 acc
def eDc (it : MI) (g : MG) (t : MB) (ek ev : ME) (vs : List Nat) : ME := fun σ h => (it σ h).bind fun J h1 => (dcN J g t ek ev (wipeT σ vs) FU 0 h1 []).bind fun kvs h2 => .ok (.ref h2.length) (h2 ++ [.dic kvs])
variable {di : MI} {vs : List Nat} {g : MG} {t : MB} {dk dv : ME}
theorem tDc_of (σ : L2.St) (H : Hp) (Q : VK) (w : tD (gc X) EO (eDc di g t dk dv vs) σ H Q) : tDc (tDI (gc X) EO di) (tDG (gc X) EO vs g) (tDT (gc X) EO t) (tD (gc X) EO dk) (tD (gc X) EO dv) vs σ H Q := by
  obtain ⟨m, σt, th, sr, R, h⟩ := w
  refine ⟨m, σt, th, sr, R, h.bind.imp fun J th1 m1 H1 x R1 h1 Jv hJ D hD => ?_⟩
  have sr1 := (sr.mono x.pre x.kp).wipe vs
  have pf : D ∉ m1 := R1.fresh hD
  refine ⟨fun i n H => ∃ m th acc xs, Ext m1 H1 m H ∧ Rel (gc X) m th H ∧ D ∉ m ∧ H D = some (.dK xs) ∧ KR X.K m H acc xs ∧ Pn (gc X) EO m1 H1 (dcN J g t dk dv (wipeT σt vs) n i th acc) fun kvs h2 _ _ => Pn (gc X) EO m1 H1 (.ok (.ref h2.length) (h2 ++ [.dic kvs])) fun t _ m' H' => ∀ v, VR X.K m' H' t v → Q v H',
    ⟨FU, m1, th1, [], [], (Ext.refl _ _).own hD _, (R1.aside hD _).1, pf, upd_same, .nil, h1.bind0⟩, ?_⟩
  rintro i n H ⟨m2, th2, acc, xs, x2, R2, pf2, hD2, va, h2⟩
  cases n with
  | zero => exact h2.elim
  | succ n =>
    have q := hJ i m2 th2 H x2 R2
    unfold dcN at h2
    split at h2
    · exact h2.elim
    · rename_i e1
      rw [e1] at q
      refine .inl ⟨q, ?_⟩
      have h3 := h2 m2 H x2 R2
      have x4 : Ext m1 H1 (m2 ++ [D]) H := by
        refine ⟨x2.pre.trans (List.prefix_append _ _), fun a ha hn => ?_, x2.fr, x2.kp⟩
        rcases List.mem_append.mp ha with z | z
        · exact x2.new a z hn
        · have : a = D := by simpa using z
          rw [this]; exact hD
      exact h3 _ H x4 (R2.take pf2 (o := .dic acc) ⟨xs, hD2, va⟩) _ (.ref (by rw [← R2.len]; exact push_at))
    · rename_i y e1
      rw [e1] at q
      refine .inr ⟨q.1, _, fun H' w => ⟨n, Nat.lt_succ_self _, w⟩, fun x' H' hy => ?_⟩
      obtain ⟨x3, R3, yr⟩ := q.2 x' H' hy
      have x13 := x2.trans x3
      refine ⟨m2, wipeT σt vs, th2, y, sr1.mono x13.pre x13.kp, R3, yr, (Pn.ext h2.bind0 x13).imp fun σt4 th4 m4 H4 x4 R4 h4 σ4 sr4 hw => ⟨by rw [hw]; exact wipe_idem _ _, m4, σt4, th4, sr4, R4, ?_⟩⟩
      have x14 := x13.trans x4
      have nD : ∀ {m' H''}, Ext m2 H' m' H'' → D ∉ m' ∧ H'' D = some (.dK xs) := fun {m' H''} y => by
        have e := x3.fr D _ hD2 pf2
        refine ⟨fun z => ?_, y.fr D _ e pf2⟩
        rw [y.new D z pf2] at e; cases e
      refine (Pn.ext h4.bind0 x14).imp fun b th5 m5 H5 x5 R5 h5 => ?_
      have x15 := x14.trans x5
      cases b with
      | false =>
        obtain ⟨n1, n2⟩ := nD (x4.trans x5)
        refine iteF ⟨m5, th5, acc, xs, x15, R5, n1, n2, KR.mono (G := gc X) x5.pre x5.kp (KR.mono (G := gc X) x4.pre x4.kp (KR.mono (G := gc X) x3.pre x3.kp va)), h5⟩
      | true =>
        refine iteT ⟨m5, σt4, th5, sr4.mono x5.pre x5.kp, R5, (Pn.ext (Pn.bind0 h5) x15).imp fun k th6 m6 H6 x6 R6 h6 kv krr => ?_⟩
        have x16 := x15.trans x6
        refine ⟨m6, σt4, th6, (sr4.mono x5.pre x5.kp).mono x6.pre x6.kp, R6, (Pn.ext (Pn.bind0 h6) x16).imp fun z th7 m7 H7 x7 R7 h7 v vr => ?_⟩
        have x17 := x16.trans x7
        obtain ⟨n1, n2⟩ := nD (((x4.trans x5).trans x6).trans x7)
        split at h7
        · rename_i key ek
          split at h7
          · rename_i hl
            have va7 := KR.mono (G := gc X) x7.pre x7.kp (KR.mono (G := gc X) x6.pre x6.kp (KR.mono (G := gc X) x5.pre x5.kp (KR.mono (G := gc X) x4.pre x4.kp (KR.mono (G := gc X) x3.pre x3.kp va))))
            obtain ⟨R8, k8⟩ := R7.otherD n1 n2 (.dK (putK xs key v))
            exact ⟨xs, key, VR.k krr ek, n2, by rw [← KR.length va]; exact hl, m7, th7, dPut acc key z, putK xs key v, x17.own hD _, R8, n1, upd_same, KR.mono (G := gc X) (List.prefix_refl _) k8 (kr_put (G := gc X) va7 key vr), h7⟩
          · exact h7.elim
        · exact h7.elim
theorem de_dc {kx vx iter : Expr} {ifs : List Expr} {scope : Scope} {own : List (Str × Nat)} (hc : X.calm = true) (hN : X.N.Nodup) (ok : BlkOk X.N X.env.scope scope own) (hi : DI X EO tg iter di)
    (hg : ∀ s H C cl fp, DG (blkX X s H scope cl C fp) EO tg (own.map (·.2)) g) (ht : ∀ s H C cl fp, DTs (blkX X s H scope cl C fp) EO ifs t) (hk : ∀ s H C cl fp, DE (blkX X s H scope cl C fp) EO kx dk) (he : ∀ s H C cl fp, DE (blkX X s H scope cl C fp) EO vx dv)
    (hs : ∀ x, foldedSetIterable iter X.env x = pure x := by intro _; rfl) : DE X EO (.DictComp kx vx [⟨tg, iter, ifs, 0⟩] scope pos) (eDc di g t dk dv (own.map (·.2))) :=
  ⟨(pe_dc (g := tDG (gc X) EO (own.map (·.2)) g) (tt := tDT (gc X) EO t) (tk := tD (gc X) EO dk) (tv := tD (gc X) EO dv) hc hN hi.pi ok (fun s H C cl fp => (hg s H C cl fp).pg) (fun s H C cl fp => (ht s H C cl fp).pts) (fun s H C cl fp => (hk s H C cl fp).pe) (fun s H C cl fp => (he s H C cl fp).pe) hs).of tDc_of⟩
end
end TL

/-! T-layer, part I: a dict comprehension given to a name, list * int, o[i] += e, index, max with a default, three names at once. -/
namespace TL
open PySem PySem.Spec PyProof.Rows L2
section
variable {X : Cx}
theorem psSetDc {i : Nat} {y : Str} {py : Pos} {kx vx tg iter : Expr} {ifs : List Expr} {scope : Scope} {own : List (Str × Nat)} {pos spos : Pos} {wi : TI} {g : TG} {tt : TT} {tk tv : TE} (hc : X.calm = true) (hN : X.N.Nodup) (hy : X.N[i]? = some y) (hyl : X.env.scope.names.lookup y = some .local)
    (hsw : swapsWith (.DictComp kx vx [⟨tg, iter, ifs, 0⟩] scope pos) (some (.Name y py)) spos.line X.env = pure true) (hi : PI X tg iter wi) (ok : BlkOk X.N X.env.scope scope own)
    (hg : ∀ (s : Shared) (H : Hp) (C : Addr) (cl : List (Str × Addr)) (fp : List Addr), PG (X.blk s H scope (compEnvC scope cl C X.env) fp) tg g) (ht : ∀ (s : Shared) (H : Hp) (C : Addr) (cl : List (Str × Addr)) (fp : List Addr), PTs (X.blk s H scope (compEnvC scope cl C X.env) fp) ifs tt)
    (hk : ∀ (s : Shared) (H : Hp) (C : Addr) (cl : List (Str × Addr)) (fp : List Addr), PE (X.blk s H scope (compEnvC scope cl C X.env) fp) kx tk)
    (he : ∀ (s : Shared) (H : Hp) (C : Addr) (cl : List (Str × Addr)) (fp : List Addr), PE (X.blk s H scope (compEnvC scope cl C X.env) fp) vx tv) (hs : ∀ x, foldedSetIterable iter X.env x = pure x := by intro _; rfl) :
    PS X (.Assign [.Name y py] (.DictComp kx vx [⟨tg, iter, ifs, 0⟩] scope pos) spos) (tAsg (tDc wi g tt tk tv (own.map (·.2))) (L2.gName i)) := by
  refine ⟨fun pins s σ H D I h => ?_⟩
  rw [exec_Assign_Name_used _ _ _ _ hsw]
  refine wpAny_bind (wpAny_standAt (wpAny_bind ?_))
  show wpAny _ X.A (do let _ ← comprehension (.DictComp kx vx [⟨tg, iter, ifs, 0⟩] scope pos) scope X.env (firstIterPos [⟨tg, iter, ifs, 0⟩] pos) newDict false (eval iter X.env) (some (assign (.Name y py) X.env))) _ _ s
  have h : tDc wi g tt tk tv (own.map (·.2)) σ H (fun x H1 => L2.gName i x σ H1 D.nx) := h
  refine wpAny_bind (thn (dc_core (Qf := fun _ s' => SP X pins D .next s') hc hN I hi ok hg ht hk he hs h fun L C s' m H' I' q hn f => ?_) fun _ s' hq => wpAny_pure (wpAny_pure hq))
  show wpAny _ _ (assign (.Name y py) X.env (.ref L)) _ _ _
  refine wpAny_assign_Name (store_ok2 (v := V.ref L) I' hN hy (.inl hyl) rfl (fun s2 I2 ⟨a, sb, ha⟩ => ?_) (.inr hyl))
  obtain ⟨f0, f1, f2, f3, f4, f5⟩ := f
  have haC : C ≠ a := by
    rcases ha with z | z
    · rw [z]; exact f1
    · exact fun e => f4 y a z e.symm
  refine ⟨m, hn.sameBut sb haC, fun h3 sb3 => ?_⟩
  exact ⟨_, H', I2.turned (t' := s2.toks) (fun b o hb e => (sb3.2 b hb).trans e) f0 f1 f3 f4 f5, q⟩
theorem swD_true {kx vx : Expr} {gs : List Comprehension} {scope : Scope} {pos py : Pos} {y : Str} {l : Nat} {env : Env} (hk : env.scope.kind = .function) (hy : env.scope.names.lookup y = some .local) (hl : (py.line == pos.line) = true)
    (ha : (scope.names.any fun (n, k) => n == y && (k == .local || k == .cell)) = false) : swapsWith (.DictComp kx vx gs scope pos) (some (.Name y py)) l env = pure true := by
  have ky : env.kindOf y = some .local := hy
  have hb : env.blockKind = .function := by unfold Env.blockKind; rw [hk]; rfl
  unfold swapsWith
  simp only [hb, ky, ha, Expr.pos, hl]
  rfl
end
section
variable {X : Cx} {EO : EOb} {pos : Pos} {e tg : Expr} {di : MI} {g : MG} {t : MB} {dk dv : ME}
theorem ds_setDc {i : Nat} {y : Str} {py cpos spos : Pos} {kx vx iter : Expr} {ifs : List Expr} {scope : Scope} {own : List (Str × Nat)} (hc : X.calm = true) (hN : X.N.Nodup) (ok : BlkOk X.N X.env.scope scope own) (hi : DI X EO tg iter di)
    (hg : ∀ s H C cl fp, DG (blkX X s H scope cl C fp) EO tg (own.map (·.2)) g) (ht : ∀ s H C cl fp, DTs (blkX X s H scope cl C fp) EO ifs t) (hk : ∀ s H C cl fp, DE (blkX X s H scope cl C fp) EO kx dk) (he : ∀ s H C cl fp, DE (blkX X s H scope cl C fp) EO vx dv)
    (hsw : swapsWith (.DictComp kx vx [⟨tg, iter, ifs, 0⟩] scope cpos) (some (.Name y py)) spos.line X.env = pure true) (hy : X.N[i]? = some y := by rfl) (hyl : X.env.scope.names.lookup y = some .local := by rfl)
    (hs : ∀ x, foldedSetIterable iter X.env x = pure x := by intro _; rfl) : DS X EO (.Assign [.Name y py] (.DictComp kx vx [⟨tg, iter, ifs, 0⟩] scope cpos) spos) (sSet i (eDc di g t dk dv (own.map (·.2)))) := by
  refine ⟨(psSetDc (g := tDG (gc X) EO (own.map (·.2)) g) (tt := tDT (gc X) EO t) (tk := tD (gc X) EO dk) (tv := tD (gc X) EO dv) hc hN hy hyl hsw hi.pi ok (fun s H C cl fp => (hg s H C cl fp).pg) (fun s H C cl fp => (ht s H C cl fp).pts) (fun s H C cl fp => (hk s H C cl fp).pe) (fun s H C cl fp => (he s H C cl fp).pe) hs).of fun D σ H ⟨m, σt, th, sr, R, h⟩ => ?_⟩
  refine tDc_of σ H _ ⟨m, σt, th, sr, R, (PnS.of h).imp fun t th1 m1 H1 x R1 h1 v vr => ?_⟩
  exact h1 m1 H1 _ (Ext.refl _ _) R1 ((sr.mono x.pre x.kp).set i vr)

/-! ### list * int -/
theorem VRs.rep {K : PySem.W.Frag} {m : List Addr} {H : Hp} {ts : List T} {xs : List V} (r : VRs K m H ts xs) : ∀ n : Nat, VRs K m H (List.replicate n ts).flatten (List.replicate n xs).flatten
  | 0 => .nil
  | n + 1 => by
    rw [List.replicate_succ, List.replicate_succ, List.flatten_cons, List.flatten_cons]
    exact r.append (VRs.rep r n)
def fMulL : Op2 := fun x y h => match x, y with
  | .ref n, .int k => match h[n]? with
    | some (.lst ts) => if (-(2 ^ 63) ≤ k ∧ k < 2 ^ 63) ∧ ts.length * k.toNat ≤ sizeLine then .ok (.ref h.length) (h ++ [.lst (List.replicate k.toNat ts).flatten]) else .stuck
    | _ => .stuck
  | _, _ => fMul x y h
theorem of_mulL : OpF X EO (binaryOp .Mult) fMulL := by
  intro pins s σ H x y v u Q I rx ry ⟨m, th, a, b, R, ra, rb, w⟩
  unfold fMulL at w
  split at w
  · rename_i n k
    split at w
    · rename_i ts hk
      split at w
      · rename_i hl
        obtain ⟨p, xs, ev, hm, hH, r⟩ := ref_lst R ra hk
        subst ev
        cases rb
        refine op_rep pins s σ H _ _ v u Q I rx ry ⟨p, k, xs, rfl, rfl, hH, hl.1.1, hl.1.2, by rw [← r.length]; exact hl.2, fun q hq => ?_⟩
        have kp : Keep H (upd H q (.lst (List.replicate k.toNat xs).flatten)) := keep_new hq _
        obtain ⟨R2, x2⟩ := R.push hq (.lst (List.replicate k.toNat xs).flatten) (.lst (List.replicate k.toNat ts).flatten) ⟨_, upd_same, (r.rep _).mono (List.prefix_append _ _) kp⟩
        exact w _ _ x2 R2 _ (.ref (by rw [← R.len]; exact push_at))
      · exact w.elim
    · exact w.elim
  · exact of_mul pins s σ H x y v u Q I rx ry ⟨m, th, a, b, R, ra, rb, w⟩

/-! ### o[i] += e -/
def fGetS : Op2 := fun x y h => match x with
  | .ref n => match h[n]? with
    | some (.lst ts) => match y with
      | .int i => if 0 ≤ i ∧ i < 2 ^ 63 then match ts[i.toNat]? with
        | some t => .ok t h
        | none => .stuck
        else .stuck
      | _ => .stuck
    | some (.dic kvs) => match kOf y with
      | some k => match dAt kvs k with
        | some t => .ok t h
        | none => .stuck
      | none => .stuck
    | _ => .stuck
  | _ => .stuck
theorem get_S (hu : X.A.units + 64 < cLine) : PGet X (rT (gc X) EO fGetS) := by
  intro pins s σ H o i ov iv Q I ro ri ⟨m, th, a, b, R, ra, rb, w⟩
  unfold fGetS at w
  split at w
  · rename_i n
    split at w
    · rename_i ts hk
      split at w
      · rename_i k
        split at w
        · rename_i hi
          split at w
          · rename_i t ht
            obtain ⟨p, xs, ev, hm, hH, r⟩ := ref_lst R ra hk
            subst ev
            obtain rfl : ov = Value.ref p := ro
            cases rb
            obtain ⟨tk, rfl⟩ := ri
            obtain ⟨its, rv, hl, _⟩ := I.list (.of hH)
            obtain ⟨z, hz, rz⟩ := r.get ht
            obtain ⟨u, hu2, ru⟩ := rv.get hz
            exact wpAny_getItem_list hl.isList hi.1 hi.2 (by simpa using hu2) ⟨z, H, I, ru, Pn.done w R _ rz⟩
          · exact w.elim
        · exact w.elim
      · exact w.elim
    · rename_i kvs hk
      split at w
      · rename_i k ek
        split at w
        · rename_i t et
          cases ra with
          | @ref _ p h1 =>
          obtain ⟨xs, h2, h3⟩ := R.at_ n p _ h1 hk
          obtain ⟨z, e3, rz⟩ := kr_some (G := gc X) h3 k et
          have ey := VR.k rb ek
          subst ey
          obtain rfl : ov = Value.ref p := ro
          have g : DGet H p (kV k) (some z) := by rw [← e3]; exact .k h2
          exact d_getItem (by omega) I g ri fun w' s' I' rw' => ⟨z, H, I', rw', Pn.done w R _ rz⟩
        · exact w.elim
      · exact w.elim
    · exact w.elim
  · exact w.elim
def sAugS (o i e : ME) (f : Op2) : MS := fun σ h => SRes.of (o σ h) fun x h1 => SRes.of (i σ h1) fun y h2 => SRes.of (fGetS x y h2) fun z h3 => SRes.of (e σ h3) fun u h4 => SRes.of (f z u h4) fun w h5 => SRes.of (fSetD x y w h5) fun _ h6 => .nx σ h6
theorem ds_augS {o i e : Expr} {dO dI d : ME} {f : Op2} {op : Operator} {tpos : Pos} (hu : X.A.units + 64 < cLine) (ho : DE X EO o dO) (hi : DE X EO i dI) (hf : OpF X EO (inplaceOp op) f) (he : DE X EO e d)
    (ha : ∀ ov iv new, augStore i ov iv new = (do holding [new, ov, iv] (setItem ov iv new); release [new, ov, iv] []; pure .next) := by intros; rfl) : DS X EO (.AugAssign (.Subscript o i tpos) op e pos) (sAugS dO dI d f) := by
  refine ⟨(ps_augS ho.pe hi.pe (get_S (EO := EO) hu) he.pe hf (set_D (EO := EO) hu) ha).of fun D σ H ⟨m, σt, th, sr, R, h⟩ => ?_⟩
  refine ⟨m, σt, th, sr, R, (PnS.of h).imp fun x th1 m1 H1 x1 R1 h1 vo ro => ?_⟩
  refine ⟨m1, σt, th1, sr.mono x1.pre x1.kp, R1, (PnS.of h1).imp fun y th2 m2 H2 x2 R2 h2 vi ri => ?_⟩
  refine ⟨m2, th2, x, y, R2, ro.mono x2.pre x2.kp, ri, (PnS.of h2).imp fun z th3 m3 H3 x3 R3 h3 vz rz => ?_⟩
  have x13 := (x1.trans x2).trans x3
  refine ⟨m3, σt, th3, sr.mono x13.pre x13.kp, R3, (PnS.of h3).imp fun u th4 m4 H4 x4 R4 h4 vu ru => ?_⟩
  refine ⟨m4, th4, z, u, R4, rz.mono x4.pre x4.kp, ru, (PnS.of h4).imp fun w th5 m5 H5 x5 R5 h5 vw rw => ?_⟩
  have x25 := ((x3.trans x4).trans x5)
  have x15 := x2.trans x25
  refine ⟨m5, th5, x, y, w, R5, ro.mono x15.pre x15.kp, ri.mono x25.pre x25.kp, rw, (PnS.of h5).imp fun _ th6 m6 H6 x6 R6 h6 => ?_⟩
  have x16 := (x1.trans x15).trans x6
  exact h6 m6 H6 _ (Ext.refl _ _) R6 (sr.mono x16.pre x16.kp)

/-! ### index -/
def idxS (z : Str) : List Str → Option Nat
  | [] => none
  | y :: r => if y = z then some 0 else (idxS z r).map (· + 1)
theorem idxS_ok {z : Str} : ∀ {ys : List Str} {j : Nat}, idxS z ys = some j → ys[j]? = some z ∧ ∀ m, m < j → ys[m]? ≠ some z
  | [], _, h => by cases h
  | y :: r, j, h => by
    unfold idxS at h
    split at h
    · rename_i e; subst e; cases h
      exact ⟨rfl, fun m hm => by omega⟩
    · rename_i e
      simp only [Option.map_eq_some_iff] at h
      obtain ⟨i, h1, h2⟩ := h
      subst h2
      obtain ⟨a, b⟩ := idxS_ok h1
      refine ⟨by simpa using a, fun m hm => ?_⟩
      cases m with
      | zero => simpa using e
      | succ m => simpa using b m (by omega)
def fIndexT : Mt := fun t ts h => match t, ts with
  | .tup us, [.str z] => match strsT us with
    | some ys => match idxS z ys with
      | some j => .ok (.int (j : Nat)) h
      | none => .stuck
    | none => .stuck
  | _, _ => .stuck
def fIndexL : Mt := fun t ts h => match t, ts with
  | .ref k, [.str z] => match h[k]? with
    | some (.lst us) => match strsT us with
      | some ys => match idxS z ys with
        | some j => .ok (.int (j : Nat)) h
        | none => .stuck
      | none => .stuck
    | _ => .stuck
  | _, _ => .stuck
theorem mt_indexT' : MtF X EO "tuple" "index" fIndexT := by
  refine mt_mk PySem.F.plainAttrs_tuple PySem.F.slot_tuple_index PySem.F.type_tuple_index fun pins s σ H x xs v us Q I rx rs ⟨m, th, t, ts, R, vr, vrs, w⟩ => ?_
  unfold fIndexT at w
  split at w
  · rename_i l z
    split at w
    · rename_i ys ey
      split at w
      · rename_i j ej
        cases vr with
        | @tup _ a zs h1 h2 =>
        have e := strsT_R h2 ey
        subst e
        cases vrs with
        | cons r1 rr =>
        cases rr; cases r1
        obtain ⟨q1, q2⟩ := idxS_ok ej
        exact mt_tup_index pins s σ H _ _ v us Q I rx rs ⟨a, ys, z, j, rfl, rfl, h1.t, q1, q2, Pn.done w R _ (.int _)⟩
      · exact w.elim
    · exact w.elim
  · exact w.elim
theorem mt_indexL' : MtF X EO "list" "index" fIndexL := by
  refine mt_mk PySem.F.plainAttrs_list PySem.F.slot_list_index PySem.F.type_list_index fun pins s σ H x xs v us Q I rx rs ⟨m, th, t, ts, R, vr, vrs, w⟩ => ?_
  unfold fIndexL at w
  split at w
  · rename_i k z
    split at w
    · rename_i l hk
      split at w
      · rename_i ys ey
        split at w
        · rename_i j ej
          obtain ⟨a, zs, ev, hm, hH, r⟩ := ref_lst R vr hk
          subst ev
          have e := strsT_R r ey
          subst e
          cases vrs with
          | cons r1 rr =>
          cases rr; cases r1
          obtain ⟨q1, q2⟩ := idxS_ok ej
          refine mt_index pins s σ H _ _ v us Q I rx rs ⟨a, ys.map V.str, .str z, j, .str z, rfl, rfl, .of hH, rfl, by simp [List.all_map, flatV], by simp [q1], by simp [eqV], fun m z' hm hz' => ?_, Pn.done w R _ (.int _)⟩
          rw [List.getElem?_map, Option.map_eq_some_iff] at hz'
          obtain ⟨y, h1, h2⟩ := hz'
          subst h2
          have : y ≠ z := fun e => q2 m hm (e ▸ h1)
          simp [eqV, this]
        · exact w.elim
      · exact w.elim
    · exact w.elim
  · exact w.elim
def msIndex : MtT := fun T => if T = "tuple" then some fIndexT else if T = "list" then some fIndexL else none
theorem mts_index : MtsF X EO "index" msIndex := by
  intro T f h
  unfold msIndex at h
  split at h
  · rename_i e; subst e; cases h; exact mt_indexT'
  · split at h
    · rename_i e; subst e; cases h; exact mt_indexL'
    · cases h

/-! ### three names at once -/
def sPar3 (i j l : Nat) (as : ML) : MS := fun σ h => SRes.of (as σ h) fun ts h1 => match ts with
  | [a, b, c] => .nx (((σ.set i (some a)).set j (some b)).set l (some c)) h1
  | _ => .stuck
theorem ds_par3 {i j l : Nat} {x y z : Str} {a b c : Expr} {da : ML} {px py pz pt : Pos} {kt k2 : Nat} {pt2 : Pos} (hc : X.calm = true) (hN : X.N.Nodup) (ha : DA X EO [a, b, c] da) (hi : X.N[i]? = some x := by rfl) (hj : X.N[j]? = some y := by rfl) (hl : X.N[l]? = some z := by rfl) (hij : i ≠ j := by decide) (hil : i ≠ l := by decide) (hjl : j ≠ l := by decide)
    (hx : X.env.scope.names.lookup x = some .local := by rfl) (hy : X.env.scope.names.lookup y = some .local := by rfl) (hz : X.env.scope.names.lookup z = some .local := by rfl)
    (hw : swappedStores [.Tuple [.Name x px, .Name y py, .Name z pz] kt pt] (.Tuple [a, b, c] k2 pt2) X.env = pure (some [x, y, z]) := by rfl)
    (hs : swapsWithSole [.Tuple [.Name x px, .Name y py, .Name z pz] kt pt] (.Tuple [a, b, c] k2 pt2) pos.line X.env = pure false := by rfl) :
    DS X EO (.Assign [.Tuple [.Name x px, .Name y py, .Name z pz] kt pt] (.Tuple [a, b, c] k2 pt2) pos) (sPar3 i j l da) := by
  refine ⟨(ps_par3 hc hN hi hj hl hij hil hjl hx hy hz ha.pa hw hs).of fun D σ H ⟨m, σt, th, sr, R, h⟩ => ⟨m, σt, th, sr, R, (PnS.of h).imp fun ts th1 m1 H1 x R1 h1 vs vrs => ?_⟩⟩
  split at h1
  · cases vrs with
    | cons v1 r =>
    cases r with
    | cons v2 r =>
    cases r with
    | cons v3 r =>
    cases r
    exact ⟨_, _, _, rfl, h1 m1 H1 _ (Ext.refl _ _) R1 ((((sr.mono x.pre x.kp).set i v1).set j v2).set l v3)⟩
  · exact h1.elim

/-! ### max(xs, default=d) -/
theorem depth_ints : ∀ ns : List Int, PyData.depthAll (ns.map .int) = 0
  | [] => rfl
  | n :: r => by rw [List.map_cons, PyData.depthAll, depth_ints r]; rfl
def rMaxD (K : PySem.W.Frag) : List V → List V → Hp → VK → Prop := fun vs zs H Q => ∃ (a : Addr) (ns : List Int) (d : V), vs = [V.ref a] ∧ zs = [d] ∧ SqL K H a (ns.map V.int) ∧ Q (match maxI ns with | some k => .int k | none => d) H
theorem cr_maxD (hc : X.calm = true) (hu : X.A.units + 64 < cLine) : CallRK X (.builtin "max") [("default" : Str)] (rMaxD X.K) := by
  intro pins s σ H xs zs us ws Q I rx rz ⟨a, ns, d, e1, e2, hs, q⟩
  subst e1 e2
  obtain ⟨ud, rfl, rd⟩ := rz.one
  obtain ⟨its, rv, hl, _⟩ := I.list hs
  rw [Vals.ref1 rx]
  obtain ⟨as, hr⟩ := Dp.readsAll I (ns.map PyData.int) _ its (dp_ints ns) rv
  have hdp := depth_ints ns
  show wpAny _ _ (call (.builtin "max") [.ref a] [(Str.ofString "default", ud)]) _ _ s
  refine PySem.W.max_list_default (I.ok.hd hc) hl.isList (by simpa using hr) ⟨?_, ?_⟩ (by omega) (fun e h' tk hk => ?_) fun y ys i v h' tk bs e hv hrd hk => ?_
  · intro x hx y hy
    obtain ⟨i, _, rfl⟩ := List.mem_map.mp hx
    obtain ⟨j, _, rfl⟩ := List.mem_map.mp hy
    rfl
  · intro x hx e
    obtain ⟨i, _, rfl⟩ := List.mem_map.mp hx
    cases e
  · cases ns with
    | nil => exact ⟨d, H, I.kept hk, rd, q⟩
    | cons n r => cases e
  · cases ns with
    | nil => cases e
    | cons n r =>
      cases e
      rw [PySem.W.maxD_ints] at hrd
      cases hrd
      exact ⟨.int _, H, I.kept hk, ⟨_, rfl⟩, q⟩
def fMaxD (ts zs : List T) (h : TH) : Res T := match zs with
  | [d] => match lstArg h ts with
    | some l => match intsOf l with
      | some bs => match maxI bs with
        | some m => .ok (.int m) h
        | none => .ok d h
      | none => .stuck
    | none => .stuck
  | _ => .stuck
def eMaxD (as ks : ML) : ME := fun σ h => (as σ h).bind fun ts h1 => (ks σ h1).bind fun zs h2 => fMaxD ts zs h2
theorem de_maxD {e d : Expr} {de dd : ME} {p kp : Pos} (hc : X.calm = true) (hu : X.A.units + 64 < cLine) (hm : X.mg "max" = none) (he : DE X EO e de) (hd : DE X EO d dd) (hg : Gl X "max" := by rfl)
    (h1 : backTo pos (starEach [e] X.env) = (false, eval e X.env) :: backTo pos (starEach [] X.env) := by rfl) (hpl : (backTo pos (starEach [e] X.env)).any (·.1) = false := by rfl)
    (hall : (backToKw pos (keywordEach [⟨some "default", d, kp⟩] X.env)).all (·.1.isSome) = true := by rfl) (hnone : (backToKw pos (keywordEach [⟨some "default", d, kp⟩] X.env)).any (·.1.isNone) = false := by rfl)
    (hks : (backToKw pos (keywordEach [⟨some "default", d, kp⟩] X.env)).filterMap (·.1) = [("default" : Str)] := by rfl)
    (hst : starEach [e] X.env = (false, eval e X.env) :: starEach [] X.env := by rfl) :
    DE X EO (.Call (.Name "max" p) [e] [⟨some "default", d, kp⟩] pos) (eMaxD (aCons de aNil) (aCons dd aNil)) := by
  refine ⟨(pe_callBK (cr_maxD hc hu) hg hm (by decide +kernel) (da_cons he da_nil hst).pa (pk_cons hd.pe pk_nil) (by decide) (by decide) h1 hpl hall hnone hks).of fun σ H Q ⟨m, σt, th, sr, R, h⟩ => ?_⟩
  refine ⟨m, σt, th, sr, R, h.bind.imp fun ts th1 m1 H1 x R1 h1 vs vrs => ?_⟩
  have h2 : Pn (gc X) EO m1 H1 ((aCons dd aNil σt th1).bind fun zs h2 => fMaxD ts zs h2) fun t _ m' H' => ∀ v, VR (gc X).K m' H' t v → Q v H' := h1
  have h3 := Pn.bind h2
  unfold aCons at h3
  refine ⟨m1, σt, th1, sr.mono x.pre x.kp, R1, h3.bind.imp fun t th2 m2 H2 x2 R2 h4 v vr => ?_⟩
  show rMaxD _ _ _ _ _
  have h5 : Pn (gc X) EO m2 H2 (fMaxD ts [t] th2) fun t _ m' H' => ∀ v, VR (gc X).K m' H' t v → Q v H' := Pn.done h4 R2
  unfold fMaxD at h5
  split at h5
  · rename_i d2 ed
    cases ed
    split at h5
    · rename_i l el
      split at h5
      · rename_i bs eb
        obtain ⟨a, ys, ev, hH, r⟩ := lstArg_at (G := gc X) R2 (vrs.mono x2.pre x2.kp) el
        subst ev
        have e3 := intsOf_vr r eb
        subst e3
        refine ⟨a, bs, v, rfl, rfl, .of hH, ?_⟩
        split at h5
        · rename_i k ek
          exact Pn.done h5 R2 _ (.int _)
        · rename_i ek
          exact Pn.done h5 R2 _ vr
      · exact h5.elim
    · exact h5.elim
  · rename_i q
    exact (q _ rfl).elim
end
end TL

/-! T-layer, part I2: sorted of a tuple. -/
namespace TL
open PySem PySem.Spec PyProof.Rows L2
section
variable {prog : Program} {w : World} {A : Around} {E : Value → Shared → Prop} {s : Shared}
theorem collectTup {l : Addr} {vs : List Value} {Q : List Value → Shared → Prop} (hl : s.heap.IsTuple l vs.toArray)
    (h : Q vs { s with heap := (s.heap.push (seqObj "list" #[] 0)).update s.heap.objs.size (Obj.mapSeq (· ++ vs.toArray)) }) (hsz : vs.length ≤ sizeLine) :
    wpAny (model prog w) A (collect (.ref l)) Q E s := by
  obtain ⟨o, ho, hc, n, hd⟩ := id hl
  unfold collect
  refine wpAny_bind (wpAny_runValue (codeAny_builtin entry_proto_collect' ?_))
  show wpAny _ _ (do again (.builtin "list.__iadd__" ⟨[← newList [], .ref l], []⟩)) _ _ s
  refine wpAny_bind (wpAny_newList (wpAny_pure ⟨Code.quiet_builtin _ (by decide +kernel), codeAny_builtin entry_list_iadd' ?_⟩))
  show wpAny _ _ (Builtin.List.listExtendWith (.ref s.heap.objs.size) (.ref l) (.ref s.heap.objs.size)) _ _ { s with heap := s.heap.push (seqObj "list" #[] 0) }
  unfold Builtin.List.listExtendWith
  have ho' : (s.heap.push (seqObj "list" #[] 0)).get? l = some o := Heap.get?_push_of_some _ ho
  refine wpAny_bind (wpAny_typeOf (T := "tuple") ⟨o, ho', hc⟩ ?_)
  have ht : (Value.type "tuple" == Value.type "tuple") = true := by rfl
  rw [if_pos (by rw [ht]; simp)]
  refine wpAny_bind (listItems_at ho' hd ?_)
  refine wpAny_bind (listItems_at (xs := #[]) (n := 0) (Heap.get?_push_size _ rfl) rfl ?_)
  rw [if_neg (by simp)]
  refine wpAny_bind (listUpdate_at (xs := #[]) (n := 0) (Heap.get?_push_size _ rfl) rfl ?_ (Nat.zero_le _) (by show (#[] ++ vs.toArray).size ≤ sizeLine + 1; simp only [Array.size_append, List.size_toArray, List.length_nil]; omega))
  refine wpAny_pure ?_
  refine wpAny_bind (wpAny_load (get?_update_seq (Heap.get?_push_size _ rfl) _) ?_)
  show wpAny _ _ (pure ((#[] : Array Value) ++ vs.toArray).toList) Q E _
  rw [show ((#[] : Array Value) ++ vs.toArray).toList = vs by simp]
  exact wpAny_pure h
theorem sortedTup {β : Type} {enc : β → PyData} {bs : List β} {R : Value → β → Prop} {l : Addr} {vs : List Value} {Q : Value → Shared → Prop} (hl : s.heap.IsTuple l vs.toArray) (e : PySem.W.EachIs R vs bs) (er : PySem.W.EachIs (fun v b => ∃ as, Reads s.heap v (enc b) as) vs bs) (hal : PySem.W.AllAlike (bs.map enc)) (hk : PySem.W.Sortable (bs.map enc)) (hL : bs.length ≤ sizeLine)
    (hu : ∀ b, b ∈ bs → A.units + 2 + (enc b).depth < cLine) (h : ∀ out, out.length = bs.length → PySem.W.EachIs R out (bs.mergeSort (PySem.W.dataLe false enc)) → Q (.ref (s.heap.objs.size + 1)) { s with heap := sortedAll s.heap vs (List.toArray out) }) :
    wpAny (model prog w) A (call (.builtin "sorted") [.ref l]) Q E s := by
  have hL2 : vs.length ≤ sizeLine := by rw [e.length]; exact hL
  have er' : PySem.W.EachIs (fun v b => ∃ as, Reads (PySem.W.sortingHeap (PySem.W.copyHeap s.heap vs) (s.heap.objs.size + 1) vs) v (enc b) as) vs bs := er.mono fun _ _ ⟨as, r⟩ => ⟨as, PyProof.Rows.Reads.keeps (fun _ _ => PySem.W.sorting_copy_old) r⟩
  refine Calls.call_function_entry kind_sorted plain_sorted entry_sorted (args_sorted1 _) ?_
  unfold Builtin.«sorted»
  refine wpAny_bind (m := checkCount "sorted" 1 1 _) (wpAny_pure (wpAny_bind (collectTup hl ?_ hL2)))
  refine wpAny_bind (wpAny_newList ?_ hL2)
  have hsz : ((s.heap.push (seqObj "list" #[] 0)).update s.heap.objs.size (Obj.mapSeq (· ++ vs.toArray))).objs.size = s.heap.objs.size + 1 := by
    rw [Heap.size_update, size_push']
  show wpAny _ _ _ _ _ { s with heap := PySem.W.copyHeap s.heap vs }
  rw [hsz]
  refine wpAny_bind (wpAny_holding (wpAny_call_entry_kw slot_list_sort ⟨_, PySem.W.copyHeap_at s.heap vs, rfl⟩ entry_list_sort ?body (args_list_sort _)))
  case body =>
    show wpAny (model prog w) A.in1.in1 (Builtin.«list.sort» ⟨[.ref (s.heap.objs.size + 1)], []⟩) _ _ _
    refine wpAny_mono (PySem.W.list_sort_vals (s := { s with heap := PySem.W.copyHeap s.heap vs }) (P := fun f s' => f = .done (.ret .none) ∧ Q (.ref (s.heap.objs.size + 1)) s') (PySem.W.copyHeap_at s.heap vs) (PySem.W.SortsAt.data (s := { s with heap := PySem.W.sortingHeap (PySem.W.copyHeap s.heap vs) (s.heap.objs.size + 1) vs }) (PySem.W.each_map (R := fun v d => ∃ as, Reads (PySem.W.sortingHeap (PySem.W.copyHeap s.heap vs) (s.heap.objs.size + 1) vs) v d as) enc er') hal hk (PySem.W.bound_map hu)) hL2 ⟨rfl, h _ (by rw [PySem.W.sortVals_length false rfl]; exact e.length) (PySem.W.sortVals_data false e er' hal)⟩) (fun f s' hf => ?_) fun _ _ e => e
    obtain ⟨rfl, hq⟩ := hf
    exact ⟨_, rfl, wpAny_pure ⟨_, rfl, hq⟩⟩
end
section
variable {X : Cx} {EO : EOb}
def fSortedT : Fn := fun ts h => match ts with
  | [.tup l] => match sortT h l with
    | some l' => .ok (.ref h.length) (h ++ [.lst l'])
    | none => .stuck
  | _ => fSorted ts h
theorem cf_sortedT (hu : X.A.units + 66 < cLine) : CallF X EO (.builtin "sorted") fSortedT := by
  intro pins s σ H xs us Q I r ⟨m, th, ts, R, rs, w⟩
  unfold fSortedT at w
  split at w
  · rename_i l
    split at w
    · rename_i l' e1
      cases rs with
      | cons vr rr =>
      cases rr
      cases vr with
      | @tup _ a ys h1 h3 =>
      obtain ⟨u, rfl, rx⟩ := r.one
      cases (show u = Value.ref a from rx)
      obtain ⟨its, ri, pl, hz⟩ := I.tuple h1.t
      unfold sortT at e1
      split at e1
      · rename_i hc
        cases e1
        obtain ⟨c1, c2, c3, c4⟩ := hc
        have E := each_of h3 ri
        have hl := h3.length
        have hl2 := ri.length
        refine sortedTup (bs := l) (enc := encT th) (R := RelVT X.K m H) pl E (enc_reads I R E c1) (allAlike_ok c2) (sortable_ok c3) (by omega) (fun b hb => ?_) fun out hout E2 => ?_
        · have := of_decide_eq_true (List.all_eq_true.mp c4 b hb)
          omega
        · obtain ⟨zs, v1, v2⟩ := of_each E2
          obtain ⟨c, hcap⟩ := PyProof.Rows.sortedAll_at s.heap its out.toArray
          have hnew : s.heap.objs.size ≤ s.heap.objs.size + 1 := Nat.le_succ _
          have hf : H (s.heap.objs.size + 1) = none := I.hok.fresh hnew
          have lz : zs.length ≤ sizeLine := by have := v2.length; omega
          have I2 : Inv X pins σ (upd H (s.heap.objs.size + 1) (.lst zs)) { s with heap := PyProof.Rows.sortedAll s.heap its out.toArray } :=
            I.laid (a := s.heap.objs.size + 1) (t' := s.toks) (fun b o e => PyProof.Rows.sortedAll_old e) hnew ⟨lz, out, c, v2, hcap⟩
          obtain ⟨w1, w2⟩ := lst_new R hf v1 w
          exact ⟨.ref (s.heap.objs.size + 1), _, I2, rfl, w1 _ w2⟩
      · cases e1
    · exact w.elim
  · exact cf_sorted hu pins s σ H xs us Q I r ⟨m, th, ts, R, rs, w⟩
end
end TL

/-! T-layer, part W: what is wanted behind a result: rules to step through denotations forward. -/
namespace TL
open PySem PySem.Spec PyProof.Rows L2
/-- the result is there and does Q -/
def W {α : Type} (r : Res α) (Q : α → TH → Prop) : Prop := ∃ a h, r = .ok a h ∧ Q a h
/-- a statement's result -/
def WS (r : SRes) (nx : Sl → TH → Prop) (rt : T → TH → Prop) (bk ct : Sl → TH → Prop) : Prop := match r with
  | .nx σ h => nx σ h
  | .rt t h => rt t h
  | .bk σ h => bk σ h
  | .ct σ h => ct σ h
  | _ => False
section
variable {α β : Type} {Q Q' : α → TH → Prop} {r : Res α} {a : α} {h h1 : TH}
theorem W.ok (q : Q a h) : W (.ok a h) Q := ⟨a, h, rfl, q⟩
theorem W.eq (e : r = .ok a h) (q : Q a h) : W r Q := ⟨a, h, e, q⟩
theorem W.imp (x : W r Q) (f : ∀ a h, Q a h → Q' a h) : W r Q' := let ⟨a, h, e, q⟩ := x; ⟨a, h, e, f a h q⟩
theorem W.bind {f : α → TH → Res β} {P : β → TH → Prop} (x : W r fun a h => W (f a h) P) : W (r.bind f) P := by
  obtain ⟨a, h, e, b, h2, e2, q⟩ := x
  exact ⟨b, h2, by rw [e, bind_ok, e2], q⟩
theorem W.of {f : α → TH → SRes} {nx : Sl → TH → Prop} {rt : T → TH → Prop} {bk ct : Sl → TH → Prop} (x : W r fun a h => WS (f a h) nx rt bk ct) : WS (SRes.of r f) nx rt bk ct := by
  obtain ⟨a, h, e, q⟩ := x
  rw [e, of_ok]; exact q
end
section
variable {Q : T → TH → Prop} {QB : Bool → TH → Prop} {QL : List T → TH → Prop} {QO : Option Int → TH → Prop} {QS : Sl → TH → Prop} {σ : Sl} {h : TH} {a b c : ME} {as ks r : ML} {f f' : Op2} {g : Fn} {t u : MB} {i n : Nat} {x y : T}
theorem w_var (e : σ[i]? = some (some x)) (q : Q x h) : W (eVar i σ h) Q := ⟨x, h, by unfold eVar; rw [e], q⟩
theorem w_c (q : Q x h) : W (eC x σ h) Q := ⟨x, h, rfl, q⟩
theorem w_bin (w : W (a σ h) fun x h1 => W (b σ h1) fun y h2 => W (f x y h2) Q) : W (eBin f a b σ h) Q := W.bind (w.imp fun _ _ w => W.bind w)
theorem w_un {f : T → TH → Res T} (w : W (a σ h) fun x h1 => W (f x h1) Q) : W (eUn f a σ h) Q := W.bind w
theorem w_nil (q : QL [] h) : W (aNil σ h) QL := ⟨[], h, rfl, q⟩
theorem w_cons (w : W (a σ h) fun x h1 => W (r σ h1) fun xs h2 => QL (x :: xs) h2) : W (aCons a r σ h) QL := W.bind (w.imp fun _ _ w => W.bind (w.imp fun _ _ q => W.ok q))
theorem w_call (w : W (as σ h) fun xs h1 => W (g xs h1) Q) : W (eCall g as σ h) Q := W.bind w
theorem w_callF (w : W (as σ h) fun xs h1 => xs.length = n ∧ W (g xs h1) Q) : W (eCallF n g as σ h) Q := W.bind (w.imp fun xs h1 ⟨e, w⟩ => by
  obtain ⟨v, h2, e2, q⟩ := w
  exact ⟨v, h2, (if_pos e).trans e2, q⟩)
theorem w_tup (w : W (as σ h) fun xs h1 => xs.length ≤ 1000000 ∧ Q (.tup xs) h1) : W (eTup as σ h) Q := W.bind (w.imp fun xs h1 ⟨e, q⟩ => ⟨_, _, if_pos (by rw [sizeLine_eq]; omega), q⟩)
theorem w_lst (w : W (as σ h) fun xs h1 => xs.length ≤ 1000000 ∧ Q (.ref h1.length) (h1 ++ [.lst xs])) : W (eLst as σ h) Q := W.bind (w.imp fun xs h1 ⟨e, q⟩ => ⟨_, _, if_pos (by rw [sizeLine_eq]; omega), q⟩)
theorem w_dicN (q : Q (.ref h.length) (h ++ [.dic []])) : W (eDicN σ h) Q := ⟨_, _, rfl, q⟩
theorem w_mB (w : W (a σ h) fun x h1 => ∃ k, x = .bl k ∧ QB k h1) : W (mB a σ h) QB := W.bind (w.imp fun x h1 ⟨k, e, q⟩ => by subst e; exact W.ok q)
theorem w_mAnd (w : W (t σ h) fun k h1 => (k = false → QB false h1) ∧ (k = true → W (u σ h1) QB)) : W (mAnd t u σ h) QB := W.bind (w.imp fun k h1 ⟨q1, q2⟩ => by
  cases k with
  | true => obtain ⟨v, h2, e2, q⟩ := q2 rfl; exact ⟨v, h2, (if_pos rfl).trans e2, q⟩
  | false => exact ⟨false, h1, if_neg (by decide), q1 rfl⟩)
theorem w_mOr (w : W (t σ h) fun k h1 => (k = true → QB true h1) ∧ (k = false → W (u σ h1) QB)) : W (mOr t u σ h) QB := W.bind (w.imp fun k h1 ⟨q1, q2⟩ => by
  cases k with
  | false => obtain ⟨v, h2, e2, q⟩ := q2 rfl; exact ⟨v, h2, (if_neg (by decide)).trans e2, q⟩
  | true => exact ⟨true, h1, if_pos rfl, q1 rfl⟩)
theorem w_mNot (w : W (t σ h) fun k h1 => QB (!k) h1) : W (mNot t σ h) QB := W.bind (w.imp fun k h1 q => W.ok q)
theorem w_mYes (q : QB true h) : W (mYes σ h) QB := ⟨true, h, rfl, q⟩
theorem w_eAnd (w : W (mB a σ h) fun k h1 => (k = false → Q (.bl false) h1) ∧ (k = true → W (b σ h1) Q)) : W (eAnd a b σ h) Q := W.bind (w.imp fun k h1 ⟨q1, q2⟩ => by
  cases k with
  | true => obtain ⟨v, h2, e2, q⟩ := q2 rfl; exact ⟨v, h2, (if_pos rfl).trans e2, q⟩
  | false => exact ⟨_, h1, if_neg (by decide), q1 rfl⟩)
theorem w_eOr (w : W (mB a σ h) fun k h1 => (k = true → Q (.bl true) h1) ∧ (k = false → W (b σ h1) Q)) : W (eOr a b σ h) Q := W.bind (w.imp fun k h1 ⟨q1, q2⟩ => by
  cases k with
  | false => obtain ⟨v, h2, e2, q⟩ := q2 rfl; exact ⟨v, h2, (if_neg (by decide)).trans e2, q⟩
  | true => exact ⟨_, h1, if_pos rfl, q1 rfl⟩)
theorem w_eNot (w : W (mB a σ h) fun k h1 => Q (.bl (!k)) h1) : W (eNot a σ h) Q := W.bind (w.imp fun k h1 q => W.ok q)
theorem w_eIf (w : W (t σ h) fun k h1 => (k = true → W (a σ h1) Q) ∧ (k = false → W (b σ h1) Q)) : W (eIf t a b σ h) Q := W.bind (w.imp fun k h1 ⟨q1, q2⟩ => by
  cases k with
  | true => obtain ⟨v, h2, e2, q⟩ := q1 rfl; exact ⟨v, h2, (if_pos rfl).trans e2, q⟩
  | false => obtain ⟨v, h2, e2, q⟩ := q2 rfl; exact ⟨v, h2, (if_neg (by decide)).trans e2, q⟩)
theorem w_chain (w : W (a σ h) fun x h1 => W (b σ h1) fun y h2 => W (f x y h2) fun z h3 => ∃ k, z = .bl k ∧ (k = false → Q (.bl false) h3) ∧ (k = true → W (c σ h3) fun v h4 => W (f' y v h4) Q)) : W (eChain f f' a b c σ h) Q := by
  unfold eChain
  refine W.bind (w.imp fun x h1 w => W.bind (w.imp fun y h2 w => W.bind (w.imp fun z h3 ⟨k, e, q1, q2⟩ => ?_)))
  subst e
  cases k with
  | true => exact W.bind (q2 rfl)
  | false => exact W.ok (q1 rfl)
theorem w_slice {l m : MO} (w : W (a σ h) fun x h1 => W (l σ h1) fun lo h2 => W (m σ h2) fun hi h3 => W (fSlice x lo hi h3) Q) : W (eSlice a l m σ h) Q := W.bind (w.imp fun _ _ w => W.bind (w.imp fun _ _ w => W.bind w))
theorem w_oN (q : QO none h) : W (oNone σ h) QO := ⟨none, h, rfl, q⟩
theorem w_oS (w : W (a σ h) fun x h1 => ∃ k, x = .int k ∧ QO (some k) h1) : W (oSome a σ h) QO := W.bind (w.imp fun x h1 ⟨k, e, q⟩ => by subst e; exact W.ok q)
theorem w_mth {ms : MtT} (w : W (a σ h) fun x h1 => ∃ f, ms (rcv x h1) = some f ∧ W (as σ h1) fun ts h2 => W (f x ts h2) Q) : W (eMth ms a as σ h) Q := W.bind (w.imp fun x h1 ⟨f, e, w⟩ => by
  rw [e]; exact W.bind w)
theorem w_gName (q : QS (σ.set i (some x)) h) : W (gName i (.val x) σ h) QS := ⟨_, _, rfl, q⟩
theorem w_gTup {gs : MGs} {ts : List T} (w : W (gs ts σ h) QS) : W (gTup gs (.val (.tup ts)) σ h) QS := w
theorem w_gTupP {gs : MGs} {ts : List T} (w : W (gs ts σ h) QS) : W (gTup gs (.parts ts) σ h) QS := w
theorem w_gsNil (q : QS σ h) : W (gsNil [] σ h) QS := ⟨_, _, rfl, q⟩
theorem w_gsCons {g : MG} {gs : MGs} {ts : List T} (w : W (g (.val x) σ h) fun σ1 h1 => W (gs ts σ1 h1) QS) : W (gsCons g gs (x :: ts) σ h) QS := W.bind w
theorem w_gSub {s : T → T → T → TH → Res Unit} (w : W (a σ h) fun o h1 => W (b σ h1) fun k h2 => W (s o k x h2) fun _ h3 => QS σ h3) : W (gSub s a b (.val x) σ h) QS := W.bind (w.imp fun _ _ w => W.bind (w.imp fun _ _ w => W.bind (w.imp fun _ _ q => W.ok q)))
/-! ### statements -/
variable {nx bk ct : Sl → TH → Prop} {rt : T → TH → Prop} {d e : MS}
theorem ws_nil (q : nx σ h) : WS (sNil σ h) nx rt bk ct := q
theorem ws_seq (w : WS (d σ h) (fun σ1 h1 => WS (e σ1 h1) nx rt bk ct) rt bk ct) : WS (sSeq d e σ h) nx rt bk ct := by
  unfold sSeq
  cases k : d σ h with
  | nx σ1 h1 => rw [k] at w; exact w
  | rt v h1 => rw [k] at w; exact w
  | bk σ1 h1 => rw [k] at w; exact w
  | ct σ1 h1 => rw [k] at w; exact w
  | exc _ _ _ => rw [k] at w; exact w.elim
  | stuck => rw [k] at w; exact w.elim
theorem ws_set (w : W (a σ h) fun x h1 => nx (σ.set i (some x)) h1) : WS (sSet i a σ h) nx rt bk ct := W.of w
theorem ws_ret (w : W (a σ h) rt) : WS (sRet a σ h) nx rt bk ct := W.of w
theorem ws_retN (q : rt .non h) : WS (sRetN σ h) nx rt bk ct := q
theorem ws_expr (w : W (a σ h) fun _ h1 => nx σ h1) : WS (sExpr a σ h) nx rt bk ct := W.of w
theorem ws_brk (q : bk σ h) : WS (sBreak σ h) nx rt bk ct := q
theorem ws_cnt (q : ct σ h) : WS (sCont σ h) nx rt bk ct := q
theorem ws_if (w : W (t σ h) fun k h1 => (k = true → WS (d σ h1) nx rt bk ct) ∧ (k = false → WS (e σ h1) nx rt bk ct)) : WS (sIf t d e σ h) nx rt bk ct := W.of (w.imp fun k h1 ⟨q1, q2⟩ => by
  cases k with
  | true => have q := q1 rfl; simpa using q
  | false => have q := q2 rfl; simpa using q)
theorem ws_asg {g : MG} (w : W (a σ h) fun x h1 => W (g (.val x) σ h1) nx) : WS (sAsg a g σ h) nx rt bk ct := W.of (w.imp fun _ _ w => W.of w)
theorem ws_par {j : Nat} (w : W (as σ h) fun xs h1 => ∃ x y, xs = [x, y] ∧ nx ((σ.set i (some x)).set j (some y)) h1) : WS (sPar i j as σ h) nx rt bk ct := W.of (w.imp fun xs h1 ⟨x, y, e, q⟩ => by subst e; exact q)
theorem ws_par3 {j k : Nat} (w : W (as σ h) fun xs h1 => ∃ x y z, xs = [x, y, z] ∧ nx (((σ.set i (some x)).set j (some y)).set k (some z)) h1) : WS (sPar3 i j k as σ h) nx rt bk ct := W.of (w.imp fun xs h1 ⟨x, y, z, e, q⟩ => by subst e; exact q)
theorem ws_aug (e : σ[i]? = some (some x)) (w : W (a σ h) fun y h1 => W (f x y h1) fun z h2 => nx (σ.set i (some z)) h2) : WS (sAug f i a σ h) nx rt bk ct := by
  unfold sAug
  rw [e]
  exact W.of (w.imp fun _ _ w => W.of w)
theorem ws_augS {o k : ME} (w : W (o σ h) fun x h1 => W (k σ h1) fun y h2 => W (fGetS x y h2) fun z h3 => W (a σ h3) fun u h4 => W (f z u h4) fun v h5 => W (fSetD x y v h5) fun _ h6 => nx σ h6) : WS (sAugS o k a f σ h) nx rt bk ct :=
  W.of (w.imp fun _ _ w => W.of (w.imp fun _ _ w => W.of (w.imp fun _ _ w => W.of (w.imp fun _ _ w => W.of (w.imp fun _ _ w => W.of w)))))
theorem ws_imp {r : SRes} {nx' bk' ct' : Sl → TH → Prop} {rt' : T → TH → Prop} (w : WS r nx rt bk ct) (f1 : ∀ σ h, nx σ h → nx' σ h) (f2 : ∀ t h, rt t h → rt' t h) (f3 : ∀ σ h, bk σ h → bk' σ h) (f4 : ∀ σ h, ct σ h → ct' σ h) : WS r nx' rt' bk' ct' := by
  cases r with
  | nx => exact f1 _ _ w
  | rt => exact f2 _ _ w
  | bk => exact f3 _ _ w
  | ct => exact f4 _ _ w
  | exc => exact w.elim
  | stuck => exact w.elim
/-- a def's body -/
theorem w_run {nl : Nat} {ts : List T} (w : WS (d (ts.map some ++ List.replicate nl none) h) (fun _ h1 => Q .non h1) Q (fun _ _ => False) (fun _ _ => False)) : W (runB d nl ts h) Q := by
  unfold runB
  cases k : d (ts.map some ++ List.replicate nl none) h with
  | nx σ1 h1 => rw [k] at w; exact ⟨_, _, rfl, w⟩
  | rt v h1 => rw [k] at w; exact ⟨_, _, rfl, w⟩
  | bk σ1 h1 => rw [k] at w; exact w.elim
  | ct σ1 h1 => rw [k] at w; exact w.elim
  | exc _ _ _ => rw [k] at w; exact w.elim
  | stuck => rw [k] at w; exact w.elim
/-! ### loops -/
theorem ws_forN {J : MIt} {g : MG} {ys : List Yv} (Iv : Nat → Sl → TH → Prop) (hJ : ∀ i σ h, Iv i σ h → J i h = some (ys[i]?))
    (hb : ∀ i y, ys[i]? = some y → ∀ σ h, Iv i σ h → W (g y σ h) fun σ1 h1 => WS (d σ1 h1) (Iv (i + 1)) rt nx (Iv (i + 1))) (hd : ∀ σ h, Iv ys.length σ h → nx σ h) :
    ∀ (m i : Nat) (σ : Sl) (h : TH), ys.length - i < m → i ≤ ys.length → Iv i σ h → WS (forN J g d m i σ h) nx rt bk ct
  | 0, _, _, _, hn, _, _ => absurd hn (Nat.not_lt_zero _)
  | m + 1, i, σ, h, hn, hi, hI => by
    unfold forN
    rw [hJ i σ h hI]
    cases hy : ys[i]? with
    | none =>
      have e : i = ys.length := by have := List.getElem?_eq_none_iff.mp hy; omega
      subst e
      exact hd σ h hI
    | some y =>
      have hlt : i < ys.length := (List.getElem?_eq_some_iff.mp hy).1
      refine W.of ((hb i y hy σ h hI).imp fun σ1 h1 w => ?_)
      cases k : d σ1 h1 with
      | nx σ2 h2 => rw [k] at w; exact ws_forN Iv hJ hb hd m (i + 1) σ2 h2 (by omega) hlt w
      | rt v h2 => rw [k] at w; exact w
      | bk σ2 h2 => rw [k] at w; exact w
      | ct σ2 h2 => rw [k] at w; exact ws_forN Iv hJ hb hd m (i + 1) σ2 h2 (by omega) hlt w
      | exc _ _ _ => rw [k] at w; exact w.elim
      | stuck => rw [k] at w; exact w.elim
/-- for: ys is what is walked -/
theorem ws_for {it : MI} {g : MG} (w : W (it σ h) fun J h1 => ∃ (ys : List Yv) (Iv : Nat → Sl → TH → Prop), ys.length ≤ 1000000 ∧ Iv 0 σ h1 ∧ (∀ i σ h, Iv i σ h → J i h = some (ys[i]?)) ∧
    (∀ i y, ys[i]? = some y → ∀ σ h, Iv i σ h → W (g y σ h) fun σ1 h1 => WS (d σ1 h1) (Iv (i + 1)) rt nx (Iv (i + 1))) ∧ ∀ σ h, Iv ys.length σ h → nx σ h) : WS (sFor it g d σ h) nx rt bk ct :=
  W.of (w.imp fun J h1 ⟨ys, Iv, hl, h0, hJ, hb, hd⟩ => ws_forN Iv hJ hb hd FU 0 σ h1 (by unfold FU; omega) (Nat.zero_le _) h0)
/-- while: m goes down -/
theorem ws_whN (Iv : Nat → Sl → TH → Prop) (hb : ∀ m σ h, Iv m σ h → W (t σ h) fun k h1 => (k = false → nx σ h1) ∧ (k = true → WS (d σ h1) (fun σ2 h2 => ∃ m', m' < m ∧ Iv m' σ2 h2) rt nx (fun σ2 h2 => ∃ m', m' < m ∧ Iv m' σ2 h2))) :
    ∀ (n m : Nat) (σ : Sl) (h : TH), m < n → Iv m σ h → WS (whN t d n σ h) nx rt bk ct
  | 0, _, _, _, hn, _ => absurd hn (Nat.not_lt_zero _)
  | n + 1, m, σ, h, hn, hI => by
    unfold whN
    refine W.of ((hb m σ h hI).imp fun k h1 ⟨q1, q2⟩ => ?_)
    cases k with
    | false => rw [if_neg (by decide)]; exact q1 rfl
    | true =>
      have w := q2 rfl
      rw [if_pos rfl]
      cases k : d σ h1 with
      | nx σ2 h2 => rw [k] at w; obtain ⟨m', l, w⟩ := w; exact ws_whN Iv hb n m' σ2 h2 (by omega) w
      | rt v h2 => rw [k] at w; exact w
      | bk σ2 h2 => rw [k] at w; exact w
      | ct σ2 h2 => rw [k] at w; obtain ⟨m', l, w⟩ := w; exact ws_whN Iv hb n m' σ2 h2 (by omega) w
      | exc _ _ _ => rw [k] at w; exact w.elim
      | stuck => rw [k] at w; exact w.elim
theorem ws_while (m : Nat) (Iv : Nat → Sl → TH → Prop) (hm : m ≤ 1000000) (h0 : Iv m σ h) (hb : ∀ m σ h, Iv m σ h → W (t σ h) fun k h1 => (k = false → nx σ h1) ∧ (k = true → WS (d σ h1) (fun σ2 h2 => ∃ m', m' < m ∧ Iv m' σ2 h2) rt nx (fun σ2 h2 => ∃ m', m' < m ∧ Iv m' σ2 h2))) :
    WS (sWhile t d σ h) nx rt bk ct := ws_whN Iv hb FU m σ h (by unfold FU; omega) h0
/-- a comprehension: acc is what was made -/
theorem w_lcN {J : MIt} {g : MG} {ys : List Yv} {σ0 : Sl} (Iv : Nat → List T → TH → Prop) (hJ : ∀ i acc h, Iv i acc h → J i h = some (ys[i]?)) (hl : ∀ i acc h, Iv i acc h → acc.length ≤ i) (hy : ys.length ≤ 1000000)
    (hb : ∀ i y, ys[i]? = some y → ∀ acc h, Iv i acc h → W (g y σ0 h) fun σ1 h1 => W (t σ1 h1) fun k h2 => (k = true → W (a σ1 h2) fun v h3 => Iv (i + 1) (acc ++ [v]) h3) ∧ (k = false → Iv (i + 1) acc h2)) (hd : ∀ acc h, Iv ys.length acc h → QL acc h) :
    ∀ (m i : Nat) (acc : List T) (h : TH), ys.length - i < m → i ≤ ys.length → Iv i acc h → W (lcN J g t a σ0 m i h acc) QL
  | 0, _, _, _, hn, _, _ => absurd hn (Nat.not_lt_zero _)
  | m + 1, i, acc, h, hn, hi, hI => by
    unfold lcN
    rw [hJ i acc h hI]
    cases hyi : ys[i]? with
    | none =>
      have e : i = ys.length := by have := List.getElem?_eq_none_iff.mp hyi; omega
      subst e
      exact W.ok (hd acc h hI)
    | some y =>
      have hlt : i < ys.length := (List.getElem?_eq_some_iff.mp hyi).1
      refine W.bind ((hb i y hyi acc h hI).imp fun σ1 h1 w => W.bind (w.imp fun k h2 ⟨q1, q2⟩ => ?_))
      cases k with
      | false => rw [if_neg (by decide)]; exact w_lcN Iv hJ hl hy hb hd m (i + 1) acc h2 (by omega) hlt (q2 rfl)
      | true =>
        rw [if_pos rfl]
        refine W.bind ((q1 rfl).imp fun v h3 q => ?_)
        have := hl i acc h hI
        obtain ⟨z, h4, e4, q4⟩ := w_lcN Iv hJ hl hy hb hd m (i + 1) (acc ++ [v]) h3 (by omega) hlt q
        exact ⟨z, h4, (if_pos (by rw [sizeLine_eq]; omega)).trans e4, q4⟩
theorem w_lc {it : MI} {g : MG} {vs : List Nat} (w : W (it σ h) fun J h1 => ∃ (ys : List Yv) (Iv : Nat → List T → TH → Prop), ys.length ≤ 1000000 ∧ Iv 0 [] h1 ∧ (∀ i acc h, Iv i acc h → J i h = some (ys[i]?)) ∧ (∀ i acc h, Iv i acc h → acc.length ≤ i) ∧
    (∀ i y, ys[i]? = some y → ∀ acc h, Iv i acc h → W (g y (wipeT σ vs) h) fun σ1 h1 => W (t σ1 h1) fun k h2 => (k = true → W (a σ1 h2) fun v h3 => Iv (i + 1) (acc ++ [v]) h3) ∧ (k = false → Iv (i + 1) acc h2)) ∧
    ∀ acc h, Iv ys.length acc h → Q (.ref h.length) (h ++ [.lst acc])) : W (eLc it g t a vs σ h) Q :=
  W.bind (w.imp fun J h1 ⟨ys, Iv, hy, h0, hJ, hl, hb, hd⟩ => W.bind ((w_lcN Iv hJ hl hy hb (QL := Iv ys.length) (fun _ _ q => q) FU 0 [] h1 (by unfold FU; omega) (Nat.zero_le _) h0).imp fun acc h2 q => W.ok (hd acc h2 q)))
/-- a dict comprehension -/
theorem w_dcN {J : MIt} {g : MG} {ys : List Yv} {σ0 : Sl} {QD : List (T × T) → TH → Prop} (Iv : Nat → List (T × T) → TH → Prop) (hJ : ∀ i acc h, Iv i acc h → J i h = some (ys[i]?)) (hl : ∀ i acc h, Iv i acc h → acc.length ≤ i) (hy : ys.length ≤ 1000000)
    (hb : ∀ i y, ys[i]? = some y → ∀ acc h, Iv i acc h → W (g y σ0 h) fun σ1 h1 => W (t σ1 h1) fun k h2 => (k = true → W (a σ1 h2) fun z h3 => W (b σ1 h3) fun v h4 => ∃ key, kOf z = some key ∧ Iv (i + 1) (dPut acc key v) h4) ∧ (k = false → Iv (i + 1) acc h2)) (hd : ∀ acc h, Iv ys.length acc h → QD acc h) :
    ∀ (m i : Nat) (acc : List (T × T)) (h : TH), ys.length - i < m → i ≤ ys.length → Iv i acc h → W (dcN J g t a b σ0 m i h acc) QD
  | 0, _, _, _, hn, _, _ => absurd hn (Nat.not_lt_zero _)
  | m + 1, i, acc, h, hn, hi, hI => by
    unfold dcN
    rw [hJ i acc h hI]
    cases hyi : ys[i]? with
    | none =>
      have e : i = ys.length := by have := List.getElem?_eq_none_iff.mp hyi; omega
      subst e
      exact W.ok (hd acc h hI)
    | some y =>
      have hlt : i < ys.length := (List.getElem?_eq_some_iff.mp hyi).1
      refine W.bind ((hb i y hyi acc h hI).imp fun σ1 h1 w => W.bind (w.imp fun k h2 ⟨q1, q2⟩ => ?_))
      cases k with
      | false => rw [if_neg (by decide)]; exact w_dcN Iv hJ hl hy hb hd m (i + 1) acc h2 (by omega) hlt (q2 rfl)
      | true =>
        rw [if_pos rfl]
        refine W.bind ((q1 rfl).imp fun z h3 w => W.bind (w.imp fun v h4 ⟨key, ek, q⟩ => ?_))
        have := hl i acc h hI
        rw [ek]
        obtain ⟨z, h5, e5, q5⟩ := w_dcN Iv hJ hl hy hb hd m (i + 1) (dPut acc key v) h4 (by omega) hlt q
        exact ⟨z, h5, (if_pos (by rw [sizeLine_eq]; omega)).trans e5, q5⟩
theorem w_dc {it : MI} {g : MG} {vs : List Nat} (w : W (it σ h) fun J h1 => ∃ (ys : List Yv) (Iv : Nat → List (T × T) → TH → Prop), ys.length ≤ 1000000 ∧ Iv 0 [] h1 ∧ (∀ i acc h, Iv i acc h → J i h = some (ys[i]?)) ∧ (∀ i acc h, Iv i acc h → acc.length ≤ i) ∧
    (∀ i y, ys[i]? = some y → ∀ acc h, Iv i acc h → W (g y (wipeT σ vs) h) fun σ1 h1 => W (t σ1 h1) fun k h2 => (k = true → W (a σ1 h2) fun z h3 => W (b σ1 h3) fun v h4 => ∃ key, kOf z = some key ∧ Iv (i + 1) (dPut acc key v) h4) ∧ (k = false → Iv (i + 1) acc h2)) ∧
    ∀ acc h, Iv ys.length acc h → Q (.ref h.length) (h ++ [.dic acc])) : W (eDc it g t a b vs σ h) Q :=
  W.bind (w.imp fun J h1 ⟨ys, Iv, hy, h0, hJ, hl, hb, hd⟩ => W.bind ((w_dcN Iv hJ hl hy hb (QD := Iv ys.length) (fun _ _ q => q) FU 0 [] h1 (by unfold FU; omega) (Nat.zero_le _) h0).imp fun acc h2 q => W.ok (hd acc h2 q)))
/-! ### walked things -/
variable {QJ : MIt → TH → Prop}
theorem w_seqT (w : W (a σ h) fun x h1 => ∃ ts, x = .tup ts ∧ QJ (fun i _ => some ((ts[i]?).map Yv.val)) h1) : W (iSeq a σ h) QJ := W.bind (w.imp fun x h1 ⟨ts, e, q⟩ => by subst e; exact W.ok q)
def lstJ (k : Nat) : MIt := fun i h => match h[k]? with
  | some (.lst ts) => some ((ts[i]?).map Yv.val)
  | _ => none
theorem w_seqL (w : W (a σ h) fun x h1 => ∃ k ts, x = .ref k ∧ h1[k]? = some (.lst ts) ∧ QJ (lstJ k) h1) : W (iSeq a σ h) QJ := W.bind (w.imp fun x h1 ⟨k, ts, e, ek, q⟩ => by
  subst e
  have : itSeq (.ref k) h1 = some (lstJ k) := by simp only [itSeq, ek]; rfl
  rw [this]
  exact W.ok q)
theorem lstJ_at {k i : Nat} {h : TH} {ts : List T} (e : h[k]? = some (.lst ts)) : lstJ k i h = some ((ts.map Yv.val)[i]?) := by
  unfold lstJ
  rw [e, List.getElem?_map]
theorem w_seqS (w : W (a σ h) fun x h1 => ∃ z, x = .str z ∧ QJ (fun i _ => some ((z.cps[i]?).map fun c => Yv.val (.str ⟨#[c]⟩))) h1) : W (iSeq a σ h) QJ := W.bind (w.imp fun x h1 ⟨z, e, q⟩ => by subst e; exact W.ok q)
theorem w_rng1 {n : Nat} (w : W (as σ h) fun xs h1 => xs = [.int (n : Int)] ∧ n ≤ 1000000 ∧ QJ (itRng 0 n) h1) : W (iR1 as σ h) QJ := W.bind (w.imp fun x h1 ⟨e, hn, q⟩ => by
  subst e
  exact ⟨itRng 0 n, h1, (if_pos (by omega)).trans (by rw [Int.toNat_natCast]), q⟩)
theorem w_rng2 {i n : Nat} (w : W (as σ h) fun xs h1 => xs = [.int (i : Int), .int (n : Int)] ∧ i ≤ 1000000 ∧ n ≤ 1000000 ∧ QJ (itRng i (n - i)) h1) : W (iR2 as σ h) QJ := W.bind (w.imp fun x h1 ⟨e, hi, hn, q⟩ => by
  subst e
  have z : ((n : Int) - i).toNat = n - i := by omega
  exact ⟨itRng i (n - i), h1, (if_pos (by omega)).trans (by rw [z]), q⟩)
/-! ### leaves -/
theorem w_str_in {p q : Str} (k : Q (.bl (inS p q)) h) : W (fIn (.str p) (.str q) h) Q := ⟨_, _, rfl, k⟩
theorem w_str_notIn {p q : Str} (k : Q (.bl (!inS p q)) h) : W (fNotIn (.str p) (.str q) h) Q := ⟨_, _, rfl, k⟩
theorem w_addI {i j : Int} (k : Q (.int (i + j)) h) : W (fAdd (.int i) (.int j) h) Q := ⟨_, _, rfl, k⟩
theorem w_subI {i j : Int} (k : Q (.int (i - j)) h) : W (fSub (.int i) (.int j) h) Q := ⟨_, _, rfl, k⟩
theorem w_iaddI {i j : Int} (k : Q (.int (i + j)) h) : W (fIAdd (.int i) (.int j) h) Q := ⟨_, _, rfl, k⟩
theorem w_modI {i j : Int} (hj : 0 < j) (k : Q (.int (i % j)) h) : W (fMod (.int i) (.int j) h) Q := ⟨_, _, if_pos hj, k⟩
theorem w_divI {i j : Int} (hj : 0 < j ∧ j < 1073741824) (k : Q (.int (i / j)) h) : W (fDiv (.int i) (.int j) h) Q := ⟨_, _, if_pos hj, k⟩
theorem w_ltI {i j : Int} (k : Q (.bl (decide (i < j))) h) : W (fLt (.int i) (.int j) h) Q := ⟨_, _, rfl, k⟩
theorem w_leI {i j : Int} (k : Q (.bl (decide (i ≤ j))) h) : W (fLe (.int i) (.int j) h) Q := ⟨_, _, rfl, k⟩
theorem w_gtI {i j : Int} (k : Q (.bl (decide (i > j))) h) : W (fGt (.int i) (.int j) h) Q := ⟨_, _, rfl, k⟩
theorem w_geI {i j : Int} (k : Q (.bl (decide (i ≥ j))) h) : W (fGe (.int i) (.int j) h) Q := ⟨_, _, rfl, k⟩
theorem w_eqI {i j : Int} (k : Q (.bl (decide (i = j))) h) : W (fEq (.int i) (.int j) h) Q := ⟨_, _, rfl, k⟩
theorem w_neI {i j : Int} (k : Q (.bl (!decide (i = j))) h) : W (fNe (.int i) (.int j) h) Q := ⟨_, _, rfl, k⟩
theorem w_eqS {i j : Str} (k : Q (.bl (decide (i = j))) h) : W (fEq (.str i) (.str j) h) Q := ⟨_, _, rfl, k⟩
theorem w_neS {i j : Str} (k : Q (.bl (!decide (i = j))) h) : W (fNe (.str i) (.str j) h) Q := ⟨_, _, rfl, k⟩
theorem w_ltS {i j : Str} (k : Q (.bl (ltS i j)) h) : W (fLt (.str i) (.str j) h) Q := ⟨_, _, rfl, k⟩
theorem w_eq {k : Bool} (e : fEqB x y h = .ok k h) (q : Q (.bl k) h) : W (fEq x y h) Q := ⟨_, _, by unfold fEq; rw [e]; rfl, q⟩
theorem w_ne {k : Bool} (e : fEqB x y h = .ok k h) (q : Q (.bl (!k)) h) : W (fNe x y h) Q := ⟨_, _, by unfold fNe; rw [e]; rfl, q⟩
theorem w_intI {i : Int} (k : Q (.int i) h) : W (fInt [.int i] h) Q := ⟨_, _, rfl, k⟩
theorem w_lenT {ts : List T} (k : Q (.int ts.length) h) : W (fLen [.tup ts] h) Q := ⟨_, _, rfl, k⟩
theorem w_lenL {ts : List T} (e : h[i]? = some (.lst ts)) (k : Q (.int ts.length) h) : W (fLen [.ref i] h) Q := ⟨_, _, by simp only [fLen, e], k⟩
theorem w_lenS {z : Str} (hz : z.length ≤ 1000000) (k : Q (.int z.length) h) : W (fLen [.str z] h) Q := ⟨_, _, if_pos (by rw [sizeLine_eq]; omega), k⟩
theorem w_isT {ty c : Ty} (e : tyT h x = some ty) (k : Q (.bl (ty.is c)) h) : W (fIsInst c x h) Q := ⟨_, _, by unfold fIsInst; rw [e], k⟩
theorem w_ixT {ts : List T} {k : Int} (e : atI ts k = some x) (q : Q x h) : W (fIx (.tup ts) (.int k) h) Q := ⟨_, _, by simp only [fIx, itemsOf, e], q⟩
theorem w_ixL {ts : List T} {k : Int} (e : h[i]? = some (.lst ts)) (e2 : atI ts k = some x) (q : Q x h) : W (fIx (.ref i) (.int k) h) Q := ⟨_, _, by simp only [fIx, itemsOf, e, e2], q⟩
theorem w_ixDT {ts : List T} {k : Int} (e : atI ts k = some x) (q : Q x h) : W (fIxD (.tup ts) (.int k) h) Q := ⟨_, _, by simp only [fIxD, fIx, itemsOf, e], q⟩
theorem w_ixDL {ts : List T} {k : Int} (e : h[i]? = some (.lst ts)) (e2 : atI ts k = some x) (q : Q x h) : W (fIxD (.ref i) (.int k) h) Q := ⟨_, _, by simp only [fIxD, fIx, itemsOf, e, e2], q⟩
theorem w_ixDD {kvs : List (T × T)} {k : Key} (e : h[i]? = some (.dic kvs)) (ek : kOf y = some k) (ea : dAt kvs k = some x) (q : Q x h) : W (fIxD (.ref i) y h) Q := ⟨_, _, by simp only [fIxD, e, ek, ea], q⟩
theorem w_inDD {kvs : List (T × T)} {k : Key} (e : h[i]? = some (.dic kvs)) (ek : kOf y = some k) (q : Q (.bl (dAt kvs k).isSome) h) : W (fInD y (.ref i) h) Q := ⟨_, _, by simp only [fInD, e, ek], q⟩
theorem w_notInDD {kvs : List (T × T)} {k : Key} (e : h[i]? = some (.dic kvs)) (ek : kOf y = some k) (q : Q (.bl (!(dAt kvs k).isSome)) h) : W (fNotInD y (.ref i) h) Q := ⟨_, _, by simp only [fNotInD, e, ek], q⟩
theorem w_tupL {ts : List T} (e : h[i]? = some (.lst ts)) (q : Q (.tup ts) h) : W (fTuple [.ref i] h) Q := ⟨_, _, by simp only [fTuple, itemsOf, e], q⟩
theorem w_lstT {ts : List T} (q : Q (.ref h.length) (h ++ [.lst ts])) : W (fList [.tup ts] h) Q := ⟨_, _, rfl, q⟩
theorem w_addT {p q : List T} (hl : p.length + q.length ≤ 1000000) (k : Q (.tup (p ++ q)) h) : W (fAdd (.tup p) (.tup q) h) Q := ⟨_, _, if_pos (by rw [sizeLine_eq]; omega), k⟩
theorem w_addL {j : Nat} {p q : List T} (e1 : h[i]? = some (.lst p)) (e2 : h[j]? = some (.lst q)) (hl : p.length + q.length ≤ 1000000) (k : Q (.ref h.length) (h ++ [.lst (p ++ q)])) : W (fAdd (.ref i) (.ref j) h) Q :=
  ⟨_, _, by unfold fAdd; simp only [e1, e2]; exact if_pos (by rw [sizeLine_eq]; omega), k⟩
theorem w_appL {ts : List T} (e : h[i]? = some (.lst ts)) (hl : ts.length ≤ 1000000) (q : Q .non (h.set i (.lst (ts ++ [x])))) : W (fAppend (.ref i) [x] h) Q := ⟨_, _, by unfold fAppend; simp only [e]; exact if_pos (by rw [sizeLine_eq]; omega), q⟩
theorem rcv_lst {ts : List T} (e : h[i]? = some (.lst ts)) : rcv (.ref i) h = "list" := by simp only [rcv, e]
theorem rcv_dic {kvs : List (T × T)} (e : h[i]? = some (.dic kvs)) : rcv (.ref i) h = "dict" := by simp only [rcv, e]
theorem w_setL {ts : List T} {k j : Nat} {Qu : Unit → TH → Prop} (e : h[i]? = some (.lst ts)) (hj : k < ts.length) (q : Qu () (h.set i (.lst (ts.set k x)))) (hx : ixN ts.length (k : Int) = some k) : W (fSetL (.ref i) (.int (k : Int)) x h) Qu := ⟨_, _, by simp only [fSetL, e, hx], q⟩
theorem w_setDD {kvs : List (T × T)} {k : Key} {Qu : Unit → TH → Prop} (e : h[i]? = some (.dic kvs)) (ek : kOf y = some k) (hl : kvs.length ≤ 1000000) (q : Qu () (h.set i (.dic (dPut kvs k x)))) : W (fSetD (.ref i) y x h) Qu :=
  ⟨_, _, by simp only [fSetD, e, ek]; exact if_pos (by rw [sizeLine_eq]; omega), q⟩
end
theorem atI0 {α : Type} (a : α) (r : List α) : atI (a :: r) 0 = some a := by
  have : (0 : Int) < (a :: r).length := by simp only [List.length_cons]; omega
  rw [atI_nn (by decide) this]; rfl
theorem atI1 {α : Type} (a b : α) (r : List α) : atI (a :: b :: r) 1 = some b := by
  have : (1 : Int) < (a :: b :: r).length := by simp only [List.length_cons]; omega
  rw [atI_nn (by decide) this]; rfl
theorem atI2 {α : Type} (a b c : α) (r : List α) : atI (a :: b :: c :: r) 2 = some c := by
  have : (2 : Int) < (a :: b :: c :: r).length := by simp only [List.length_cons]; omega
  rw [atI_nn (by decide) this]; rfl
theorem atI_nat {α : Type} {l : List α} {k : Nat} {x : α} (e : l[k]? = some x) : atI l (k : Int) = some x := by
  obtain ⟨hk, e⟩ := List.getElem?_eq_some_iff.mp e
  rw [atI_nn (by omega) (by omega)]
  simp [e]
theorem atI_at {α : Type} {l : List α} {k : Nat} {i : Int} {x : α} (e : l[k]? = some x) (ei : i = (k : Int)) : atI l i = some x := by subst ei; exact atI_nat e
section
variable {Q : T → TH → Prop} {σ : Sl} {h : TH} {i : Nat} {x : T} {a : ME} {f : Op2} {nx bk ct : Sl → TH → Prop} {rt : T → TH → Prop}
theorem w_var' (w : ∃ x, σ[i]? = some (some x) ∧ Q x h) : W (eVar i σ h) Q := let ⟨_, e, q⟩ := w; w_var e q
theorem ws_aug' (w : ∃ x, σ[i]? = some (some x) ∧ W (a σ h) fun y h1 => W (f x y h1) fun z h2 => nx (σ.set i (some z)) h2) : WS (sAug f i a σ h) nx rt bk ct := let ⟨_, e, q⟩ := w; ws_aug e q
theorem w_isT' {c : Ty} (w : ∃ ty, tyT h x = some ty ∧ Q (.bl (ty.is c)) h) : W (fIsInst c x h) Q := let ⟨_, e, q⟩ := w; w_isT e q
theorem w_ixT' {ts : List T} {k : Int} (w : ∃ x, atI ts k = some x ∧ Q x h) : W (fIx (.tup ts) (.int k) h) Q := let ⟨_, e, q⟩ := w; w_ixT e q
theorem w_ixDT' {ts : List T} {k : Int} (w : ∃ x, atI ts k = some x ∧ Q x h) : W (fIxD (.tup ts) (.int k) h) Q := let ⟨_, e, q⟩ := w; w_ixDT e q
end
theorem w_lcG {Q : T → TH → Prop} {σ : Sl} {h : TH} {a : ME} {t : MB} {it : MI} {g : MG} {vs : List Nat} (p : Yv → Bool) (f : Yv → T) (w : W (it σ h) fun J h1 => ∃ ys : List Yv, ys.length ≤ 1000000 ∧ Gr h h1 ∧ (∀ i h', Gr h h' → J i h' = some (ys[i]?)) ∧
    (∀ y ∈ ys, ∀ h', Gr h h' → W (g y (wipeT σ vs) h') fun σ1 h2 => W (t σ1 h2) fun k h3 => k = p y ∧ Gr h h3 ∧ (p y = true → W (a σ1 h3) fun v h4 => v = f y ∧ Gr h h4)) ∧ ∀ h', Gr h h' → Q (.ref h'.length) (h' ++ [.lst ((ys.filter p).map f)])) : W (eLc it g t a vs σ h) Q := by
  refine w_lc (w.imp fun J h1 ⟨ys, hl, g1, hJ, hb, hd⟩ => ⟨ys, fun i acc hh => Gr h hh ∧ acc = ((ys.take i).filter p).map f, hl, ⟨g1, rfl⟩, fun i acc hh ⟨q, _⟩ => hJ i hh q, fun i acc hh ⟨_, e⟩ => ?_, fun i y hy acc hh ⟨q, e⟩ => ?_, fun acc hh ⟨q, e⟩ => ?_⟩)
  · subst e
    rw [List.length_map]
    refine Nat.le_trans (List.length_filter_le _ _) ?_
    rw [List.length_take]; omega
  · refine (hb y (List.mem_of_getElem? hy) hh q).imp fun σ1 h2 w => w.imp fun k h3 ⟨ek, q3, w⟩ => ⟨fun hk => ?_, fun hk => ?_⟩
    · rw [hk] at ek
      refine (w ek.symm).imp fun v h4 ⟨ev, q4⟩ => ⟨q4, ?_⟩
      rw [e, ev, List.take_add_one, hy, List.filter_append, List.map_append]
      simp [← ek]
    · rw [hk] at ek
      refine ⟨q3, ?_⟩
      rw [e, List.take_add_one, hy, List.filter_append, List.map_append]
      simp [← ek]
  · rw [List.take_length] at e
    rw [e]
    exact hd hh q
theorem dat_all {h : TH} {l : List T} (hd : ∀ x ∈ l, ∃ d, dat 65 h x = some d ∧ d.canLay0 = true ∧ d.depth ≤ 60) : ∃ ds, l.mapM (dat 65 h) = some ds ∧ ds.length = l.length ∧ SeqAt.shaped (.list ds) = true := by
  obtain ⟨ds, q1, q2, q3⟩ := mapM_all hd
  refine ⟨ds, q1, q2, ?_⟩
  unfold SeqAt.shaped
  rw [Bool.and_eq_true, decide_eq_true_eq]
  refine ⟨canAll fun d hd => (q3 d hd).1, ?_⟩
  have : PyData.depthAll ds ≤ 60 := depthAll_le fun d hd => (q3 d hd).2
  show PyData.depthAll ds + 1 ≤ 64
  omega
/-- xs == [], xs != [] -/
theorem w_eqNil {Q : T → TH → Prop} {h : TH} {k k2 : Nat} {l : List T} (e1 : h[k]? = some (.lst l)) (e2 : h[k2]? = some (.lst [])) (hd : ∀ x ∈ l, ∃ d, dat 65 h x = some d ∧ d.canLay0 = true ∧ d.depth ≤ 60) (q : Q (.bl (decide (l = []))) h) : W (fEq (.ref k) (.ref k2) h) Q :=
  w_eq (eq_nil (dat_all hd) k k2 e1 e2) q
theorem w_neNil {Q : T → TH → Prop} {h : TH} {k k2 : Nat} {l : List T} (e1 : h[k]? = some (.lst l)) (e2 : h[k2]? = some (.lst [])) (hd : ∀ x ∈ l, ∃ d, dat 65 h x = some d ∧ d.canLay0 = true ∧ d.depth ≤ 60) (q : Q (.bl (!decide (l = []))) h) : W (fNe (.ref k) (.ref k2) h) Q :=
  w_ne (eq_nil (dat_all hd) k k2 e1 e2) q
theorem len_items {h : TH} {q : T} {ts : List T} (e : itemsOf h q = some ts) : fLen [q] h = .ok (.int ts.length) h := by
  cases q with
  | tup _ => simp only [itemsOf, Option.some.injEq] at e; subst e; rfl
  | ref k =>
    simp only [itemsOf] at e
    split at e
    · rename_i l hk; cases e; simp only [fLen, hk]
    · cases e
  | scr ns => simp only [itemsOf, Option.some.injEq] at e; subst e; rfl
  | _ => cases e
theorem ix_items {h : TH} {q x : T} {ts : List T} {k : Int} (e : itemsOf h q = some ts) (e2 : atI ts k = some x) : fIx q (.int k) h = .ok x h := by
  cases q with
  | str _ => cases e
  | _ => simp only [fIx, e, e2]
theorem asc_iff {α : Type} (lt : α → α → Bool) : ∀ l : List α, ascB lt l = true ↔ ∀ i a b, l[i]? = some a → l[i + 1]? = some b → lt a b = true
  | [] => by simp [ascB]
  | [a] => by simp [ascB]
  | a :: b :: l => by
    rw [ascB_cons, Bool.and_eq_true, asc_iff lt (b :: l)]
    constructor
    · rintro ⟨h1, h2⟩ i x y hx hy
      cases i with
      | zero => simp at hx hy; subst hx hy; exact h1
      | succ i => exact h2 i x y (by simpa using hx) (by simpa using hy)
    · intro hh
      exact ⟨hh 0 a b rfl rfl, fun i x y hx hy => hh (i + 1) x y (by simpa using hx) (by simpa using hy)⟩
theorem asc_not {α : Type} {lt : α → α → Bool} {l : List α} {i : Nat} {a b : α} (ha : l[i]? = some a) (hb : l[i + 1]? = some b) (h : lt a b = false) : ascB lt l = false := by
  cases e : ascB lt l with
  | false => rfl
  | true => rw [(asc_iff lt l).mp e i a b ha hb] at h; cases h
theorem get_at2 (h : TH) (x y : TO) : (h ++ [x] ++ [y])[h.length]? = some x := by simp
theorem le_strs (a b : Str) (h : TH) : fLe (.str a) (.str b) h = .ok (.bl (!ltS b a)) h := rfl
theorem W.pu {F : Fn} {ts : List T} {h : TH} {v : T} (w : W (F ts h) fun a h' => a = v ∧ Gr h h') : ∃ h', Gr h h' ∧ F ts h = .ok v h' := by
  obtain ⟨a, h', e, rfl, g⟩ := w
  exact ⟨h', g, e⟩
theorem W.use {r : Res T} {v : T} {h : TH} {Q : T → TH → Prop} (x : ∃ h', Gr h h' ∧ r = .ok v h') (q : ∀ h', Gr h h' → Q v h') : W r Q := by
  obtain ⟨h', g, e⟩ := x
  exact ⟨v, h', e, q h' g⟩
end TL

/-! T-layer, part W2: what is in a dict. -/
namespace TL
open PySem PySem.Spec PyProof.Rows L2
theorem dAt_map (k k' : Key) (v : T) : ∀ kvs : List (T × T), dAt (kvs.map fun p => if kOf p.1 = some k then (p.1, v) else p) k' = if k = k' then (if (dAt kvs k).isSome = true then some v else none) else dAt kvs k'
  | [] => by simp [dAt]
  | p :: r => by
    have ih := dAt_map k k' v r
    rw [List.map_cons]
    by_cases h1 : kOf p.1 = some k
    · rw [if_pos h1]
      by_cases h2 : k = k'
      · subst h2
        simp [dAt, h1]
      · have h3 : kOf p.1 ≠ some k' := by rw [h1]; simpa using h2
        simp only [dAt, if_neg h3, if_neg h2, ih]
    · rw [if_neg h1]
      by_cases h3 : kOf p.1 = some k'
      · have h2 : k ≠ k' := fun e => h1 (by rw [h3, e])
        simp [dAt, h3, h2]
      · simp only [dAt, if_neg h3, if_neg h1, ih]
theorem dAt_app (k : Key) : ∀ (a b : List (T × T)), dAt (a ++ b) k = (dAt a k).or (dAt b k)
  | [], b => by simp [dAt]
  | p :: r, b => by
    rw [List.cons_append]
    by_cases h : kOf p.1 = some k
    · simp [dAt, h]
    · simp [dAt, h, dAt_app k r b]
theorem dAt_put (kvs : List (T × T)) (k k' : Key) (v : T) : dAt (dPut kvs k v) k' = if k = k' then some v else dAt kvs k' := by
  unfold dPut
  by_cases h : (dAt kvs k).isSome = true
  · rw [if_pos h, dAt_map, if_pos h]
  · rw [if_neg h, dAt_app]
    by_cases e : k = k'
    · subst e
      have : dAt kvs k = none := by simpa using h
      simp [dAt, this, kOf_keyT]
    · have : kOf (keyT k) ≠ some k' := by rw [kOf_keyT]; simpa using e
      simp [dAt, this, e]
theorem len_dPut (kvs : List (T × T)) (k : Key) (v : T) : (dPut kvs k v).length ≤ kvs.length + 1 := by
  unfold dPut
  split
  · simp
  · simp
theorem len_dMrg : ∀ (ps : List (Key × T)) (kvs : List (T × T)), (dMrg kvs ps).length ≤ kvs.length + ps.length
  | [], _ => by simp [dMrg]
  | p :: r, kvs => by
    have h1 := len_dMrg r (dPut kvs p.1 p.2)
    have h2 := len_dPut kvs p.1 p.2
    show (dMrg (dPut kvs p.1 p.2) r).length ≤ _
    simp only [List.length_cons]
    omega
theorem dMrg_app (kvs : List (T × T)) (ps qs : List (Key × T)) : dMrg kvs (ps ++ qs) = dMrg (dMrg kvs ps) qs := by
  unfold dMrg; rw [List.foldl_append]
theorem dMrg_is (k : Key) : ∀ (ps : List (Key × T)) (kvs : List (T × T)), (dAt (dMrg kvs ps) k).isSome = true ↔ (dAt kvs k).isSome = true ∨ k ∈ ps.map Prod.fst
  | [], _ => by simp [dMrg]
  | p :: r, kvs => by
    show (dAt (dMrg (dPut kvs p.1 p.2) r) k).isSome = true ↔ _
    rw [dMrg_is k r, dAt_put, List.map_cons, List.mem_cons]
    by_cases e : p.1 = k
    · subst e; simp
    · have e' : ¬ k = p.1 := fun q => e q.symm
      rw [if_neg e]
      simp only [e', false_or]
theorem dMrg_old (k : Key) : ∀ (ps : List (Key × T)) (kvs : List (T × T)), k ∉ ps.map Prod.fst → dAt (dMrg kvs ps) k = dAt kvs k
  | [], _, _ => rfl
  | p :: r, kvs, h => by
    rw [List.map_cons, List.mem_cons] at h
    show dAt (dMrg (dPut kvs p.1 p.2) r) k = _
    rw [dMrg_old k r _ (fun q => h (.inr q)), dAt_put, if_neg (fun e => h (.inl e.symm))]
theorem dMrg_get {k : Key} {v : T} : ∀ (ps : List (Key × T)) (kvs : List (T × T)), (ps.map Prod.fst).Nodup → (k, v) ∈ ps → dAt (dMrg kvs ps) k = some v
  | [], _, _, h => by cases h
  | p :: r, kvs, nd, h => by
    rw [List.map_cons, List.nodup_cons] at nd
    show dAt (dMrg (dPut kvs p.1 p.2) r) k = _
    rcases List.mem_cons.mp h with e | h
    · subst e
      rw [dMrg_old k r _ nd.1, dAt_put, if_pos rfl]
    · exact dMrg_get r _ nd.2 h
/-- a dict comprehension over what stands still -/
theorem w_dcG {Q : T → TH → Prop} {σ : Sl} {h : TH} {a b : ME} {t : MB} {it : MI} {g : MG} {vs : List Nat} (f : Yv → Key × T) (w : W (it σ h) fun J h1 => ∃ ys : List Yv, ys.length ≤ 1000000 ∧ Gr h h1 ∧ (∀ i h', Gr h h' → J i h' = some (ys[i]?)) ∧
    (∀ y ∈ ys, ∀ h', Gr h h' → W (g y (wipeT σ vs) h') fun σ1 h2 => W (t σ1 h2) fun k h3 => k = true ∧ W (a σ1 h3) fun z h4 => W (b σ1 h4) fun v h5 => kOf z = some (f y).1 ∧ v = (f y).2 ∧ Gr h h5) ∧ ∀ h', Gr h h' → Q (.ref h'.length) (h' ++ [.dic (dMrg [] (ys.map f))])) : W (eDc it g t a b vs σ h) Q := by
  refine w_dc (w.imp fun J h1 ⟨ys, hl, g1, hJ, hb, hd⟩ => ⟨ys, fun i acc hh => Gr h hh ∧ acc = dMrg [] ((ys.take i).map f), hl, ⟨g1, rfl⟩, fun i acc hh ⟨q, _⟩ => hJ i hh q, fun i acc hh ⟨_, e⟩ => ?_, fun i y hy acc hh ⟨q, e⟩ => ?_, fun acc hh ⟨q, e⟩ => ?_⟩)
  · subst e
    refine Nat.le_trans (len_dMrg _ _) ?_
    rw [List.length_map, List.length_take]; simp; omega
  · refine (hb y (List.mem_of_getElem? hy) hh q).imp fun σ1 h2 w => w.imp fun k h3 ⟨ek, w⟩ => ⟨fun hk => ?_, fun hk => ?_⟩
    · refine w.imp fun z h4 w => w.imp fun v h5 ⟨e1, e2, q5⟩ => ⟨(f y).1, e1, q5, ?_⟩
      rw [List.take_add_one, hy, List.map_append, dMrg_app, e, e2]
      rfl
    · rw [ek] at hk; cases hk
  · rw [List.take_length] at e
    rw [e]
    exact hd hh q
theorem strsT_map : ∀ xs : List Str, strsT (xs.map T.str) = some xs
  | [] => rfl
  | x :: xs => by simp [strsT, strsT_map xs]
theorem gd_tup {b L n : Nat} {h : TH} {ts : List T} (x : Gd b L h n (.tup ts)) : ts.length ≤ L ∧ ∀ t ∈ ts, Gd b L h (n - 1) t := by
  cases n with
  | zero => exact x.elim
  | succ n => exact x
theorem w_gdTup {b L n : Nat} {h : TH} {t : T} {Q : T → TH → Prop} (x : Gd b L h n t) (q : Q (.bl (isT t)) h) : W (fIsInst .tup t h) Q := W.eq (inst_tup x) q
theorem w_gdStr {b L n : Nat} {h : TH} {t : T} {Q : T → TH → Prop} (x : Gd b L h n t) (q : Q (.bl (isS t)) h) : W (fIsInst .str t h) Q := W.eq (inst_str x) q
theorem isT_tup {t : T} (h : isT t = true) : ∃ ts, t = .tup ts := by cases t <;> simp_all [isT]
theorem isS_str {t : T} (h : isS t = true) : ∃ z, t = .str z := by cases t <;> simp_all [isS]
theorem two_of {α : Type} {l : List α} (h : l.length = 2) : ∃ a b, l = [a, b] := by
  match l, h with
  | [a, b], _ => exact ⟨a, b, rfl⟩
theorem three_of {α : Type} {l : List α} (h : l.length = 3) : ∃ a b c, l = [a, b, c] := by
  match l, h with
  | [a, b, c], _ => exact ⟨a, b, c, rfl⟩
theorem nat_of {n k : Nat} (h : (!decide ((n : Int) = (k : Int))) = false) : n = k := by simp at h; omega
theorem nat_not {n k : Nat} (h : (!decide ((n : Int) = (k : Int))) = true) : n ≠ k := by simp at h; omega
end TL

/-! T-layer, part W3: sets of texts, rows of texts, in W's words. -/
namespace TL
open PySem PySem.Spec PyProof.Rows L2
theorem sort_items {h : TH} {q : T} {xs : List Str} (e : itemsOf h q = some (xs.map T.str)) (hl : xs.length < 64) : fSortSet q h = .ok (.ref h.length) (h ++ [.lst (((uniq xs).mergeSort leS).map T.str)]) := by
  simp only [fSortSet, e, List.length_map, hl, if_true, strsT_map]
theorem lenset_items {h : TH} {q : T} {xs : List Str} (e : itemsOf h q = some (xs.map T.str)) (hl : xs.length < 64) : fLenSet q h = .ok (.int (uniq xs).length) h := by
  simp only [fLenSet, e, List.length_map, hl, if_true, strsT_map]
theorem asc_dec (xs : List Str) : ascB ltS xs = decide (xs = (uniq xs).mergeSort leS) := by
  rw [← asc_sorted lin_S]
  congr 1
  funext p q
  exact ltS_not p q
theorem ok_sorted {xs : List Str} (ok : ∀ z ∈ xs, okS z) : ∀ z ∈ (uniq xs).mergeSort leS, okS z := fun z hz => ok z (mem_uniq.mp ((List.mergeSort_perm _ _).mem_iff.mp hz))
section
variable {Q : T → TH → Prop} {h : TH} {i : Nat}
/-- xs == sorted(set(xs)) -/
theorem w_eqSort {j : Nat} {xs : List Str} (e1 : h[i]? = some (.lst (xs.map T.str))) (e2 : h[j]? = some (.lst (((uniq xs).mergeSort leS).map T.str))) (ok : ∀ z ∈ xs, okS z) (q : Q (.bl (ascB ltS xs)) h) : W (fEq (.ref i) (.ref j) h) Q :=
  w_eq (eq_strs e1 e2 ok (ok_sorted ok)) (by rw [← asc_dec]; exact q)
theorem w_neSort {j : Nat} {xs : List Str} (e1 : h[i]? = some (.lst (xs.map T.str))) (e2 : h[j]? = some (.lst (((uniq xs).mergeSort leS).map T.str))) (ok : ∀ z ∈ xs, okS z) (q : Q (.bl (!ascB ltS xs)) h) : W (fNe (.ref i) (.ref j) h) Q :=
  w_ne (eq_strs e1 e2 ok (ok_sorted ok)) (by rw [← asc_dec]; exact q)
theorem w_inT {a : Str} {xs : List Str} (ha : okS a) (hx : ∀ x ∈ xs, okS x) (q : Q (.bl (decide (a ∈ xs))) h) : W (fIn (.str a) (.tup (xs.map T.str)) h) Q :=
  ⟨_, _, by unfold fIn; rw [in_strs ha hx]; rfl, q⟩
theorem w_notInT {a : Str} {xs : List Str} (ha : okS a) (hx : ∀ x ∈ xs, okS x) (q : Q (.bl (!decide (a ∈ xs))) h) : W (fNotIn (.str a) (.tup (xs.map T.str)) h) Q :=
  ⟨_, _, by unfold fNotIn; rw [in_strs ha hx]; rfl, q⟩
theorem in_items {a : Str} {p : T} {xs : List Str} (e : itemsOf h p = some (xs.map T.str)) (ha : okS a) (hx : ∀ x ∈ xs, okS x) : fInB (.str a) p h = .ok (decide (a ∈ xs)) h := by
  have d1 : dat 66 h (.str a) = some (.str a) := rfl
  have d2 : (xs.map T.str).mapM (dat 66 h) = some (xs.map .str) := mapM_strs 65 h xs
  have ca : PyData.canLayAll0 (xs.map .str) = true := canAll fun d hd => by
    obtain ⟨x, hx', rfl⟩ := List.mem_map.mp hd
    exact hx x hx'
  have dp : (PyData.str a).depth ≤ 62 := Nat.zero_le _
  have c0 : (PyData.str a).canLay0 = true := ha
  have ev : (xs.map PyData.str).any (fun z => PyData.eqv z (.str a)) = decide (a ∈ xs) := by
    rw [List.any_map, Bool.eq_iff_iff, List.any_eq_true, decide_eq_true_eq]
    constructor
    · rintro ⟨x, hx, e⟩
      have : x = a := by simpa [PyData.eqv] using e
      rw [← this]; exact hx
    · intro hm
      exact ⟨a, hm, by simp [PyData.eqv]⟩
  cases p with
  | str _ => cases e
  | _ => simp only [fInB, e, d1, d2, ca, dp, c0, and_self, if_true, ev]
theorem w_notInI {a : Str} {p : T} {xs : List Str} (e : itemsOf h p = some (xs.map T.str)) (ha : okS a) (hx : ∀ x ∈ xs, okS x) (q : Q (.bl (!decide (a ∈ xs))) h) : W (fNotIn (.str a) p h) Q :=
  ⟨_, _, by unfold fNotIn; rw [in_items e ha hx]; rfl, q⟩
theorem w_inI {a : Str} {p : T} {xs : List Str} (e : itemsOf h p = some (xs.map T.str)) (ha : okS a) (hx : ∀ x ∈ xs, okS x) (q : Q (.bl (decide (a ∈ xs))) h) : W (fIn (.str a) p h) Q :=
  ⟨_, _, by unfold fIn; rw [in_items e ha hx]; rfl, q⟩
end
theorem items_lst {h : TH} {k : Nat} {ts : List T} (e : h[k]? = some (.lst ts)) : itemsOf h (.ref k) = some ts := by simp only [itemsOf, e]
theorem gd_str {b L n : Nat} {h : TH} {z : Str} (x : Gd b L h n (.str z)) : z.length ≤ 100 ∧ okS z := by
  cases n with
  | zero => exact x.elim
  | succ n => exact x
theorem dat_int (h : TH) (i : Int) : ∃ d, dat 65 h (.int i) = some d ∧ d.canLay0 = true ∧ d.depth ≤ 60 := ⟨.int i, rfl, rfl, Nat.zero_le _⟩
theorem dat_strs {h : TH} {z : Str} (ok : okS z) : ∃ d, dat 65 h (.str z) = some d ∧ d.canLay0 = true ∧ d.depth ≤ 60 := ⟨.str z, rfl, ok, Nat.zero_le _⟩
theorem nil_all {α β : Type} (p : α → Bool) (f : α → β) (l : List α) : decide ((l.filter p).map f = []) = l.all fun y => !p y := by
  rw [Bool.eq_iff_iff]
  simp [List.filter_eq_nil_iff]
section
variable {Q : T → TH → Prop} {σ : Sl} {h : TH} {a : ME} {t : MB} {it : MI} {g : MG} {vs : List Nat}
/-- a comprehension: its list stands somewhere new -/
theorem w_lcA (p : Yv → Bool) (f : Yv → T) (w : W (it σ h) fun J h1 => ∃ ys : List Yv, ys.length ≤ 1000000 ∧ Gr h h1 ∧ (∀ i h', Gr h h' → J i h' = some (ys[i]?)) ∧
    (∀ y ∈ ys, ∀ h', Gr h h' → W (g y (wipeT σ vs) h') fun σ1 h2 => W (t σ1 h2) fun k h3 => k = p y ∧ (p y = false → Gr h h3) ∧ (p y = true → W (a σ1 h3) fun v h4 => v = f y ∧ Gr h h4)) ∧ ∀ h' k, Gr h h' → h.length ≤ k → h'[k]? = some (.lst ((ys.filter p).map f)) → Q (.ref k) h') : W (eLc it g t a vs σ h) Q := by
  refine w_lc (w.imp fun J h1 ⟨ys, hl, g1, hJ, hb, hd⟩ => ⟨ys, fun i acc hh => Gr h hh ∧ acc = ((ys.take i).filter p).map f, hl, ⟨g1, rfl⟩, fun i acc hh ⟨q, _⟩ => hJ i hh q, fun i acc hh ⟨_, e⟩ => ?_, fun i y hy acc hh ⟨q, e⟩ => ?_, fun acc hh ⟨q, e⟩ => ?_⟩)
  · subst e
    rw [List.length_map]
    refine Nat.le_trans (List.length_filter_le _ _) ?_
    rw [List.length_take]; omega
  · refine (hb y (List.mem_of_getElem? hy) hh q).imp fun σ1 h2 w => w.imp fun k h3 ⟨ek, q3, w⟩ => ⟨fun hk => ?_, fun hk => ?_⟩
    · rw [hk] at ek
      refine (w ek.symm).imp fun v h4 ⟨ev, q4⟩ => ⟨q4, ?_⟩
      rw [e, ev, List.take_add_one, hy, List.filter_append, List.map_append]
      simp [← ek]
    · rw [hk] at ek
      refine ⟨q3 ek.symm, ?_⟩
      rw [e, List.take_add_one, hy, List.filter_append, List.map_append]
      simp [← ek]
  · rw [List.take_length] at e
    rw [e]
    exact hd _ _ (q.trans (Gr.app hh _)) (by obtain ⟨r, rfl⟩ := q; simp) (get_last hh _)
/-- the same without a test -/
theorem w_lcM (f : Yv → T) (w : W (it σ h) fun J h1 => ∃ ys : List Yv, ys.length ≤ 1000000 ∧ Gr h h1 ∧ (∀ i h', Gr h h' → J i h' = some (ys[i]?)) ∧
    (∀ y ∈ ys, ∀ h', Gr h h' → W (g y (wipeT σ vs) h') fun σ1 h2 => W (a σ1 h2) fun v h4 => v = f y ∧ Gr h h4) ∧ ∀ h' k, Gr h h' → h.length ≤ k → h'[k]? = some (.lst (ys.map f)) → Q (.ref k) h') : W (eLc it g mYes a vs σ h) Q :=
  w_lcA (fun _ => true) f (w.imp fun J h1 ⟨ys, h1, h2, h3, h4, h5⟩ => ⟨ys, h1, h2, h3, fun y hy h' g' => (h4 y hy h' g').imp fun σ1 h2 w => w_mYes ⟨rfl, fun z => (by cases z), fun _ => w⟩, fun h' k g' hk e => h5 h' k g' hk (by rw [e, List.filter_eq_self.mpr (fun _ _ => rfl)])⟩)
/-- [..] != [], [..] == [] -/
def WNe (it : MI) (g : MG) (t : MB) (a : ME) (vs : List Nat) (σ : Sl) (h : TH) (Q : T → TH → Prop) : Prop := W (eBin fNe (eLc it g t a vs) (eLst aNil) σ h) Q
def WEq (it : MI) (g : MG) (t : MB) (a : ME) (vs : List Nat) (σ : Sl) (h : TH) (Q : T → TH → Prop) : Prop := W (eBin fEq (eLc it g t a vs) (eLst aNil) σ h) Q
theorem mark_ne (w : WNe it g t a vs σ h Q) : W (eBin fNe (eLc it g t a vs) (eLst aNil) σ h) Q := w
theorem mark_eq (w : WEq it g t a vs σ h Q) : W (eBin fEq (eLc it g t a vs) (eLst aNil) σ h) Q := w
theorem w_neA (p : Yv → Bool) (f : Yv → T) (w : W (it σ h) fun J h1 => ∃ ys : List Yv, ys.length ≤ 1000000 ∧ Gr h h1 ∧ (∀ i h', Gr h h' → J i h' = some (ys[i]?)) ∧ (∀ y ∈ ys, p y = true → ∀ h', Gr h h' → ∃ d, dat 65 h' (f y) = some d ∧ d.canLay0 = true ∧ d.depth ≤ 60) ∧
    (∀ y ∈ ys, ∀ h', Gr h h' → W (g y (wipeT σ vs) h') fun σ1 h2 => W (t σ1 h2) fun k h3 => k = p y ∧ (p y = false → Gr h h3) ∧ (p y = true → W (a σ1 h3) fun v h4 => v = f y ∧ Gr h h4)) ∧ ∀ h', Gr h h' → Q (.bl (!ys.all fun y => !p y)) h') : WNe it g t a vs σ h Q := by
  refine w_bin (w_lcA p f (w.imp fun J h1 ⟨ys, h1, h2, h3, h4, h5, h6⟩ => ⟨ys, h1, h2, h3, h5, fun h' k g' _ e => w_lst (w_nil ⟨Nat.zero_le _, w_neNil (app_get _ e) (get_last _ _) (fun v hv => ?_) ?_⟩)⟩))
  · obtain ⟨y, hy, rfl⟩ := List.mem_map.mp hv
    obtain ⟨q1, q2⟩ := List.mem_filter.mp hy
    exact h4 y q1 q2 _ (g'.trans (Gr.app h' _))
  · rw [nil_all]
    exact h6 _ (g'.trans (Gr.app h' _))
theorem w_eqA (p : Yv → Bool) (f : Yv → T) (w : W (it σ h) fun J h1 => ∃ ys : List Yv, ys.length ≤ 1000000 ∧ Gr h h1 ∧ (∀ i h', Gr h h' → J i h' = some (ys[i]?)) ∧ (∀ y ∈ ys, p y = true → ∀ h', Gr h h' → ∃ d, dat 65 h' (f y) = some d ∧ d.canLay0 = true ∧ d.depth ≤ 60) ∧
    (∀ y ∈ ys, ∀ h', Gr h h' → W (g y (wipeT σ vs) h') fun σ1 h2 => W (t σ1 h2) fun k h3 => k = p y ∧ (p y = false → Gr h h3) ∧ (p y = true → W (a σ1 h3) fun v h4 => v = f y ∧ Gr h h4)) ∧ ∀ h', Gr h h' → Q (.bl (ys.all fun y => !p y)) h') : WEq it g t a vs σ h Q := by
  refine w_bin (w_lcA p f (w.imp fun J h1 ⟨ys, h1, h2, h3, h4, h5, h6⟩ => ⟨ys, h1, h2, h3, h5, fun h' k g' _ e => w_lst (w_nil ⟨Nat.zero_le _, w_eqNil (app_get _ e) (get_last _ _) (fun v hv => ?_) ?_⟩)⟩))
  · obtain ⟨y, hy, rfl⟩ := List.mem_map.mp hv
    obtain ⟨q1, q2⟩ := List.mem_filter.mp hy
    exact h4 y q1 q2 _ (g'.trans (Gr.app h' _))
  · rw [nil_all]
    exact h6 _ (g'.trans (Gr.app h' _))
/-- a dict comprehension: its dict stands somewhere new -/
theorem w_dcA {b : ME} (f : Yv → Key × T) (w : W (it σ h) fun J h1 => ∃ ys : List Yv, ys.length ≤ 1000000 ∧ Gr h h1 ∧ (∀ i h', Gr h h' → J i h' = some (ys[i]?)) ∧
    (∀ y ∈ ys, ∀ h', Gr h h' → W (g y (wipeT σ vs) h') fun σ1 h2 => W (a σ1 h2) fun z h4 => W (b σ1 h4) fun v h5 => kOf z = some (f y).1 ∧ v = (f y).2 ∧ Gr h h5) ∧ ∀ h' k, Gr h h' → h.length ≤ k → h'[k]? = some (.dic (dMrg [] (ys.map f))) → Q (.ref k) h') : W (eDc it g mYes a b vs σ h) Q :=
  w_dcG f (w.imp fun J h1 ⟨ys, h1, h2, h3, h4, h5⟩ => ⟨ys, h1, h2, h3, fun y hy h' g' => (h4 y hy h' g').imp fun σ1 h2 w => w_mYes ⟨rfl, w⟩, fun h' g' => h5 _ _ (g'.trans (Gr.app h' _)) (by obtain ⟨r, rfl⟩ := g'; simp) (get_last h' _)⟩)
/-- sorted(set(x)) of texts -/
theorem w_sortA {q : T} {xs : List Str} (e : itemsOf h q = some (xs.map T.str)) (hl : xs.length < 64) (k : ∀ h' j, Gr h h' → h.length ≤ j → h'[j]? = some (.lst (((uniq xs).mergeSort leS).map T.str)) → Q (.ref j) h') : W (fSortSet q h) Q :=
  W.eq (sort_items e hl) (k _ _ (Gr.app h _) (Nat.le_refl _) (get_last h _))
theorem w_lstA {ts : List T} (k : ∀ h' j, Gr h h' → h.length ≤ j → h'[j]? = some (.lst ts) → Q (.ref j) h') : W (fList [.tup ts] h) Q :=
  w_lstT (k _ _ (Gr.app h _) (Nat.le_refl _) (get_last h _))
end
end TL
local macro_rules | `(tactic| walk_at "TL one") => `(tactic| first
  | ((with_reducible refine TL.w_var' ?_); refine ⟨_, rfl, ?_⟩)
  | with_reducible refine TL.w_bin ?_
  | with_reducible refine TL.w_c ?_
  | with_reducible refine TL.w_un ?_
  | with_reducible refine TL.w_cons ?_
  | with_reducible refine TL.w_nil ?_
  | with_reducible refine TL.w_call ?_
  | with_reducible refine TL.w_callF ?_
  | with_reducible refine TL.w_tup ?_
  | with_reducible refine TL.w_lst ?_
  | with_reducible refine TL.w_mB ?_
  | with_reducible refine TL.w_mAnd ?_
  | with_reducible refine TL.w_mOr ?_
  | with_reducible refine TL.w_mNot ?_
  | with_reducible refine TL.w_mYes ?_
  | with_reducible refine TL.w_eAnd ?_
  | with_reducible refine TL.w_eOr ?_
  | with_reducible refine TL.w_eNot ?_
  | with_reducible refine TL.w_eIf ?_
  | with_reducible refine TL.w_chain ?_
  | with_reducible refine TL.w_slice ?_
  | with_reducible refine TL.w_oN ?_
  | with_reducible refine TL.w_oS ?_
  | with_reducible refine TL.w_dicN ?_
  | with_reducible refine TL.w_gName ?_
  | with_reducible refine TL.w_gTup ?_
  | with_reducible refine TL.w_gTupP ?_
  | with_reducible refine TL.w_gsNil ?_
  | with_reducible refine TL.w_gsCons ?_
  | with_reducible refine TL.w_gSub ?_
  | with_reducible refine TL.ws_nil ?_
  | with_reducible refine TL.ws_seq ?_
  | with_reducible refine TL.ws_set ?_
  | with_reducible refine TL.ws_ret ?_
  | with_reducible refine TL.ws_retN ?_
  | with_reducible refine TL.ws_expr ?_
  | with_reducible refine TL.ws_brk ?_
  | with_reducible refine TL.ws_cnt ?_
  | with_reducible refine TL.ws_if ?_
  | with_reducible refine TL.ws_asg ?_
  | with_reducible refine TL.ws_par ?_
  | with_reducible refine TL.ws_par3 ?_
  | with_reducible refine TL.ws_augS ?_
  | with_reducible refine TL.w_addI ?_
  | with_reducible refine TL.w_subI ?_
  | with_reducible refine TL.w_iaddI ?_
  | with_reducible refine TL.w_ltI ?_
  | with_reducible refine TL.w_leI ?_
  | with_reducible refine TL.w_gtI ?_
  | with_reducible refine TL.w_geI ?_
  | with_reducible refine TL.w_eqI ?_
  | with_reducible refine TL.w_neI ?_
  | with_reducible refine TL.w_eqS ?_
  | with_reducible refine TL.w_neS ?_
  | with_reducible refine TL.w_ltS ?_
  | with_reducible refine TL.w_str_in ?_
  | with_reducible refine TL.w_str_notIn ?_
  | with_reducible refine TL.w_intI ?_
  | with_reducible refine TL.w_lenT ?_
  | with_reducible refine TL.w_lstT ?_
  | ((with_reducible refine TL.ws_aug' ?_); refine ⟨_, rfl, ?_⟩)
  | ((with_reducible refine TL.w_isT' ?_); refine ⟨_, rfl, ?_⟩)
  | ((with_reducible refine TL.w_ixT' ?_); first | refine ⟨_, TL.atI0 _ _, ?_⟩ | refine ⟨_, TL.atI1 _ _ _, ?_⟩ | refine ⟨_, TL.atI2 _ _ _ _, ?_⟩)
  | ((with_reducible refine TL.w_ixDT' ?_); first | refine ⟨_, TL.atI0 _ _, ?_⟩ | refine ⟨_, TL.atI1 _ _ _, ?_⟩ | refine ⟨_, TL.atI2 _ _ _ _, ?_⟩)
  | with_reducible refine ⟨_, rfl, ?_⟩
  | with_reducible refine ⟨_, _, rfl, ?_⟩
  | with_reducible refine ⟨_, _, _, rfl, ?_⟩
  | refine ⟨(rfl : List.length _ = _), ?_⟩
  | refine ⟨(Nat.le_of_ble_eq_true rfl : List.length _ ≤ _), ?_⟩)
local macro_rules | `(tactic| walk_at "TL on") => `(tactic| repeat (first
  | ((with_reducible refine TL.w_var' ?_); refine ⟨_, rfl, ?_⟩)
  | with_reducible refine TL.w_bin ?_
  | with_reducible refine TL.w_c ?_
  | with_reducible refine TL.w_un ?_
  | with_reducible refine TL.w_cons ?_
  | with_reducible refine TL.w_nil ?_
  | with_reducible refine TL.w_call ?_
  | with_reducible refine TL.w_callF ?_
  | with_reducible refine TL.w_tup ?_
  | with_reducible refine TL.w_lst ?_
  | with_reducible refine TL.w_mB ?_
  | with_reducible refine TL.w_mAnd ?_
  | with_reducible refine TL.w_mOr ?_
  | with_reducible refine TL.w_mNot ?_
  | with_reducible refine TL.w_mYes ?_
  | with_reducible refine TL.w_eAnd ?_
  | with_reducible refine TL.w_eOr ?_
  | with_reducible refine TL.w_eNot ?_
  | with_reducible refine TL.w_eIf ?_
  | with_reducible refine TL.w_chain ?_
  | with_reducible refine TL.w_slice ?_
  | with_reducible refine TL.w_oN ?_
  | with_reducible refine TL.w_oS ?_
  | with_reducible refine TL.w_dicN ?_
  | with_reducible refine TL.w_gName ?_
  | with_reducible refine TL.w_gTup ?_
  | with_reducible refine TL.w_gTupP ?_
  | with_reducible refine TL.w_gsNil ?_
  | with_reducible refine TL.w_gsCons ?_
  | with_reducible refine TL.w_gSub ?_
  | with_reducible refine TL.ws_nil ?_
  | with_reducible refine TL.ws_seq ?_
  | with_reducible refine TL.ws_set ?_
  | with_reducible refine TL.ws_ret ?_
  | with_reducible refine TL.ws_retN ?_
  | with_reducible refine TL.ws_expr ?_
  | with_reducible refine TL.ws_brk ?_
  | with_reducible refine TL.ws_cnt ?_
  | with_reducible refine TL.ws_if ?_
  | with_reducible refine TL.ws_asg ?_
  | with_reducible refine TL.ws_par ?_
  | with_reducible refine TL.ws_par3 ?_
  | with_reducible refine TL.ws_augS ?_
  | with_reducible refine TL.w_addI ?_
  | with_reducible refine TL.w_subI ?_
  | with_reducible refine TL.w_iaddI ?_
  | with_reducible refine TL.w_ltI ?_
  | with_reducible refine TL.w_leI ?_
  | with_reducible refine TL.w_gtI ?_
  | with_reducible refine TL.w_geI ?_
  | with_reducible refine TL.w_eqI ?_
  | with_reducible refine TL.w_neI ?_
  | with_reducible refine TL.w_eqS ?_
  | with_reducible refine TL.w_neS ?_
  | with_reducible refine TL.w_ltS ?_
  | with_reducible refine TL.w_str_in ?_
  | with_reducible refine TL.w_str_notIn ?_
  | with_reducible refine TL.w_intI ?_
  | with_reducible refine TL.w_lenT ?_
  | with_reducible refine TL.w_lstT ?_
  | ((with_reducible refine TL.ws_aug' ?_); refine ⟨_, rfl, ?_⟩)
  | ((with_reducible refine TL.w_isT' ?_); refine ⟨_, rfl, ?_⟩)
  | ((with_reducible refine TL.w_ixT' ?_); first | refine ⟨_, TL.atI0 _ _, ?_⟩ | refine ⟨_, TL.atI1 _ _ _, ?_⟩ | refine ⟨_, TL.atI2 _ _ _ _, ?_⟩)
  | ((with_reducible refine TL.w_ixDT' ?_); first | refine ⟨_, TL.atI0 _ _, ?_⟩ | refine ⟨_, TL.atI1 _ _ _, ?_⟩ | refine ⟨_, TL.atI2 _ _ _ _, ?_⟩)
  | with_reducible refine ⟨_, rfl, ?_⟩
  | with_reducible refine ⟨_, _, rfl, ?_⟩
  | with_reducible refine ⟨_, _, _, rfl, ?_⟩
  | refine ⟨(rfl : List.length _ = _), ?_⟩
  | refine ⟨(Nat.le_of_ble_eq_true rfl : List.length _ ≤ _), ?_⟩))
local macro_rules | `(tactic| walk_at "TL go") => `(tactic| repeat (first
  | with_reducible refine TL.mark_ne ?_
  | with_reducible refine TL.mark_eq ?_
  | ((with_reducible refine TL.w_var' ?_); refine ⟨_, rfl, ?_⟩)
  | with_reducible refine TL.w_bin ?_
  | with_reducible refine TL.w_c ?_
  | with_reducible refine TL.w_un ?_
  | with_reducible refine TL.w_cons ?_
  | with_reducible refine TL.w_nil ?_
  | with_reducible refine TL.w_call ?_
  | with_reducible refine TL.w_callF ?_
  | with_reducible refine TL.w_tup ?_
  | with_reducible refine TL.w_lst ?_
  | with_reducible refine TL.w_mB ?_
  | with_reducible refine TL.w_mAnd ?_
  | with_reducible refine TL.w_mOr ?_
  | with_reducible refine TL.w_mNot ?_
  | with_reducible refine TL.w_mYes ?_
  | with_reducible refine TL.w_eAnd ?_
  | with_reducible refine TL.w_eOr ?_
  | with_reducible refine TL.w_eNot ?_
  | with_reducible refine TL.w_eIf ?_
  | with_reducible refine TL.w_chain ?_
  | with_reducible refine TL.w_slice ?_
  | with_reducible refine TL.w_oN ?_
  | with_reducible refine TL.w_oS ?_
  | with_reducible refine TL.w_dicN ?_
  | with_reducible refine TL.w_gName ?_
  | with_reducible refine TL.w_gTup ?_
  | with_reducible refine TL.w_gTupP ?_
  | with_reducible refine TL.w_gsNil ?_
  | with_reducible refine TL.w_gsCons ?_
  | with_reducible refine TL.w_gSub ?_
  | with_reducible refine TL.ws_nil ?_
  | with_reducible refine TL.ws_seq ?_
  | with_reducible refine TL.ws_set ?_
  | with_reducible refine TL.ws_ret ?_
  | with_reducible refine TL.ws_retN ?_
  | with_reducible refine TL.ws_expr ?_
  | with_reducible refine TL.ws_brk ?_
  | with_reducible refine TL.ws_cnt ?_
  | with_reducible refine TL.ws_if ?_
  | with_reducible refine TL.ws_asg ?_
  | with_reducible refine TL.ws_par ?_
  | with_reducible refine TL.ws_par3 ?_
  | with_reducible refine TL.ws_augS ?_
  | with_reducible refine TL.w_addI ?_
  | with_reducible refine TL.w_subI ?_
  | with_reducible refine TL.w_iaddI ?_
  | with_reducible refine TL.w_ltI ?_
  | with_reducible refine TL.w_leI ?_
  | with_reducible refine TL.w_gtI ?_
  | with_reducible refine TL.w_geI ?_
  | with_reducible refine TL.w_eqI ?_
  | with_reducible refine TL.w_neI ?_
  | with_reducible refine TL.w_eqS ?_
  | with_reducible refine TL.w_neS ?_
  | with_reducible refine TL.w_ltS ?_
  | with_reducible refine TL.w_str_in ?_
  | with_reducible refine TL.w_str_notIn ?_
  | with_reducible refine TL.w_intI ?_
  | with_reducible refine TL.w_lenT ?_
  | with_reducible refine TL.w_lstT ?_
  | ((with_reducible refine TL.ws_aug' ?_); refine ⟨_, rfl, ?_⟩)
  | ((with_reducible refine TL.w_isT' ?_); refine ⟨_, rfl, ?_⟩)
  | ((with_reducible refine TL.w_ixT' ?_); first | refine ⟨_, TL.atI0 _ _, ?_⟩ | refine ⟨_, TL.atI1 _ _ _, ?_⟩ | refine ⟨_, TL.atI2 _ _ _ _, ?_⟩)
  | ((with_reducible refine TL.w_ixDT' ?_); first | refine ⟨_, TL.atI0 _ _, ?_⟩ | refine ⟨_, TL.atI1 _ _ _, ?_⟩ | refine ⟨_, TL.atI2 _ _ _ _, ?_⟩)
  | with_reducible refine ⟨_, rfl, ?_⟩
  | with_reducible refine ⟨_, _, rfl, ?_⟩
  | with_reducible refine ⟨_, _, _, rfl, ?_⟩
  | refine ⟨(rfl : List.length _ = _), ?_⟩
  | refine ⟨(Nat.le_of_ble_eq_true rfl : List.length _ ≤ _), ?_⟩))

namespace K39
open PySem PySem.Spec PyProof.Rows L2 TL
def top (i : Nat) : Stmt := PySem.Challenge.pw_pairlands_k39_thi_things.main.body.getD i (.Pass ⟨0, 0, 0, 0⟩)
structure Fx (K : PySem.W.Frag) (mg : Str → Option Value) : Prop where
  b_all : mg "all" = none
  b_bool : mg "bool" = none
  b_dict : mg "dict" = none
  b_int : mg "int" = none
  b_isinstance : mg "isinstance" = none
  b_len : mg "len" = none
  b_list : mg "list" = none
  b_max : mg "max" = none
  b_range : mg "range" = none
  b_set : mg "set" = none
  b_sorted : mg "sorted" = none
  b_str : mg "str" = none
  b_tuple : mg "tuple" = none
  c_DIGITS : GlV K mg "DIGITS" (.str "0123456789")
  c_LETTERS : GlV K mg "LETTERS" (.str "abcdefghijklmnopqrstuvwxyz")
  c_MOST : GlV K mg "MOST" (.int 40)
  c_MOST_SIGNS : GlV K mg "MOST_SIGNS" (.int 10)
theorem u66 {k : Nat} {A : Around} (r : Room k A) : A.units + 66 < cLine := by have := r.un; omega
/-! ### _law_cell -/
abbrev st__law_cell : Stmt := top 28
abbrev N__law_cell : List Str := ["script", "k"]
abbrev p__law_cell : List Str := ["script", "k"]
theorem sc__law_cell : FnScope N__law_cell p__law_cell (defScope st__law_cell) := ⟨rfl, rfl, rfl, by decide +kernel, rfl, by decide +kernel, by decide +kernel⟩
def b__law_cell : MS := sSeq (sIf (mB (eBin fLt (eVar 1) (eCall fLen (aCons (eVar 0) (aNil))))) (sRet (eBin fIx (eVar 0) (eVar 1))) (sNil)) (sRet (eC (.int 0)))
def F__law_cell : Fn := runB b__law_cell 0
theorem good__law_cell {P : Program} {w : World} {K : PySem.W.Frag} {mg : Str → Option Value} {base : Heap} {f : Addr} {fd : FuncData} (fx : Fx K mg) (F : FunD K "_law_cell" "_law_cell" (defArgs st__law_cell) (defBody st__law_cell) (defScope st__law_cell) [] [] f fd) (hm : mg "_law_cell" = some (.ref f))  :
    GoodFn P w K mg base 1 "_law_cell" p__law_cell F__law_cell := by
  have sc := sc__law_cell
  refine good_of (k := 0) (N := N__law_cell) F hm sc__law_cell (fun _ _ _ _ _ _ us hl => match us, hl with | [_, _], _ => rfl) fun cdv A outer s H E hr => ?_
  exact dss_cons (ds_if (dt_cmp (of_lt hr.units) (de_var (i := 1)) (de_callB (cf_len) fx.b_len (by decide +kernel) (da_cons (de_var (i := 0)) (da_nil)))) (dss_one (ds_ret (de_ix (de_var (i := 0)) (de_var (i := 1))))) (dss_nil)) (dss_one (ds_ret (de_int)))
/-! ### _law_digits -/
abbrev st__law_digits : Stmt := top 29
abbrev N__law_digits : List Str := ["script", "first", "last", "digits", "k", "cell", "step", "seed"]
abbrev p__law_digits : List Str := ["script", "first", "last"]
theorem sc__law_digits : FnScope N__law_digits p__law_digits (defScope st__law_digits) := ⟨rfl, rfl, rfl, by decide +kernel, rfl, by decide +kernel, by decide +kernel⟩
def b__law_digits : MS := sSeq (sSet 3 (eLst (aNil))) (sSeq (sFor (iR2 (aCons (eVar 1) (aCons (eVar 2) (aNil)))) (gName 4) (sSeq (sSet 5 (eCallF 2 F__law_cell (aCons (eVar 0) (aCons (eVar 4) (aNil))))) (sSeq (sIf (mB (eBin fLt (eVar 5) (eC (.int 0)))) (sSet 5 (eBin fSub (eC (.int 1)) (eBin fMul (eC (.int 2)) (eVar 5)))) (sNil)) (sSeq (sIf (mB (eBin fGt (eCall fLen (aCons (eVar 3) (aNil))) (eC (.int 1500)))) (sBreak) (sNil)) (sIf (mB (eBin fGe (eVar 5) (eBin fPow (eC (.int 10)) (eC (.int 18))))) (sFor (iR1 (aCons (eC (.int 60)) (aNil))) (gName 6) (sIf (mB (eBin fGt (eVar 5) (eC (.int 0)))) (sSeq (sExpr (eMth msAppend (eVar 3) (aCons (eBin fMod (eCall fInt (aCons (eVar 5) (aNil))) (eC (.int 1000))) (aNil)))) (sSet 5 (eBin fDiv (eVar 5) (eC (.int 1000))))) (sNil))) (sSeq (sSet 7 (eBin fMod (eCall fInt (aCons (eBin fAdd (eBin fAdd (eBin fMul (eVar 5) (eC (.int 48271))) (eBin fMul (eVar 4) (eC (.int 69621)))) (eC (.int 11))) (aNil))) (eC (.int 2147483647)))) (sFor (iR1 (aCons (eC (.int 12)) (aNil))) (gName 6) (sSeq (sSet 7 (eBin fMod (eCall fInt (aCons (eBin fAdd (eBin fAdd (eBin fMul (eVar 7) (eC (.int 16807))) (eBin fMul (eC (.int 7)) (eVar 6))) (eC (.int 1))) (aNil))) (eC (.int 2147483647)))) (sExpr (eMth msAppend (eVar 3) (aCons (eBin fMod (eCall fInt (aCons (eBin fDiv (eVar 7) (eC (.int 997))) (aNil))) (eC (.int 1000))) (aNil)))))))))))) (sRet (eVar 3)))
def F__law_digits : Fn := runB b__law_digits 5
theorem good__law_digits {P : Program} {w : World} {K : PySem.W.Frag} {mg : Str → Option Value} {base : Heap} {f : Addr} {fd : FuncData} (fx : Fx K mg) (F : FunD K "_law_digits" "_law_digits" (defArgs st__law_digits) (defBody st__law_digits) (defScope st__law_digits) [] [] f fd) (hm : mg "_law_digits" = some (.ref f)) (g__law_cell : GoodFn P w K mg base 1 "_law_cell" p__law_cell F__law_cell) :
    GoodFn P w K mg base 2 "_law_digits" p__law_digits F__law_digits := by
  have sc := sc__law_digits
  refine good_of (k := 1) (N := N__law_digits) F hm sc__law_digits (fun _ _ _ _ _ _ us hl => match us, hl with | [_, _, _], _ => rfl) fun cdv A outer s H E hr => ?_
  exact dss_cons (ds_set (i := 3) sc.nd (de_lst (da_nil))) (dss_cons (ds_for (vs := [4]) .never rfl (di_rng2 fx.b_range (da_cons (de_var (i := 1)) (da_cons (de_var (i := 2)) (da_nil)))) (dg_name (i := 4) sc.nd) (dss_cons (ds_set (i := 5) sc.nd (de_call g__law_cell (hr.mono (by omega)) (da_cons (de_var (i := 0)) (da_cons (de_var (i := 4)) (da_nil))))) (dss_cons (ds_if (dt_cmp (of_lt hr.units) (de_var (i := 5)) (de_int)) (dss_one (ds_set (i := 5) sc.nd (de_bin (of_sub) (de_int) (de_bin (of_mul) (de_int) (de_var (i := 5)))))) (dss_nil)) (dss_cons (ds_if (dt_cmp (of_gt) (de_callB (cf_len) fx.b_len (by decide +kernel) (da_cons (de_var (i := 3)) (da_nil))) (de_int)) (dss_one (ds_break)) (dss_nil)) (dss_one (ds_if (dt_cmp (of_ge) (de_var (i := 5)) (de_bin (of_pow) (de_int) (de_int))) (dss_one (ds_for (vs := [6]) .never rfl (di_rng1 fx.b_range (da_cons (de_int) (da_nil))) (dg_name (i := 6) sc.nd) (dss_one (ds_if (dt_cmp (of_gt) (de_var (i := 5)) (de_int)) (dss_cons (ds_expr (de_mth mts_append rfl (de_var (i := 3)) (da_cons (de_bin (of_mod) (de_callTy (cf_int) fx.b_int (by decide +kernel) (da_cons (de_var (i := 5)) (da_nil))) (de_int)) (da_nil)))) (dss_one (ds_set (i := 5) sc.nd (de_bin (of_div) (de_var (i := 5)) (de_int))))) (dss_nil))))) (dss_cons (ds_set (i := 7) sc.nd (de_bin (of_mod) (de_callTy (cf_int) fx.b_int (by decide +kernel) (da_cons (de_bin (of_add) (de_bin (of_add) (de_bin (of_mul) (de_var (i := 5)) (de_int)) (de_bin (of_mul) (de_var (i := 4)) (de_int))) (de_int)) (da_nil))) (de_int))) (dss_one (ds_for (vs := [6]) .never rfl (di_rng1 fx.b_range (da_cons (de_int) (da_nil))) (dg_name (i := 6) sc.nd) (dss_cons (ds_set (i := 7) sc.nd (de_bin (of_mod) (de_callTy (cf_int) fx.b_int (by decide +kernel) (da_cons (de_bin (of_add) (de_bin (of_add) (de_bin (of_mul) (de_var (i := 7)) (de_int)) (de_bin (of_mul) (de_int) (de_var (i := 6)))) (de_int)) (da_nil))) (de_int))) (dss_one (ds_expr (de_mth mts_append rfl (de_var (i := 3)) (da_cons (de_bin (of_mod) (de_callTy (cf_int) fx.b_int (by decide +kernel) (da_cons (de_bin (of_div) (de_var (i := 7)) (de_int)) (da_nil))) (de_int)) (da_nil))))))))))))))) (dss_one (ds_ret (de_var (i := 3)))))
/-! ### _law_draw -/
abbrev st__law_draw : Stmt := top 30
abbrev N__law_draw : List Str := ["box", "many", "at"]
abbrev p__law_draw : List Str := ["box", "many"]
theorem sc__law_draw : FnScope N__law_draw p__law_draw (defScope st__law_draw) := ⟨rfl, rfl, rfl, by decide +kernel, rfl, by decide +kernel, by decide +kernel⟩
def b__law_draw : MS := sSeq (sSet 2 (eBin fIx (eVar 0) (eC (.int 1)))) (sSeq (sAsg (eBin fAdd (eVar 2) (eC (.int 1))) (gSub fSetL (eVar 0) (eC (.int 1)))) (sSeq (sIf (mB (eBin fLt (eVar 2) (eCall fLen (aCons (eBin fIx (eVar 0) (eC (.int 0))) (aNil))))) (sRet (eBin fMod (eCall fInt (aCons (eBin fIx (eBin fIx (eVar 0) (eC (.int 0))) (eVar 2)) (aNil))) (eVar 1))) (sNil)) (sRet (eBin fMod (eCall fInt (aCons (eBin fMul (eVar 2) (eC (.int 7))) (aNil))) (eVar 1)))))
def F__law_draw : Fn := runB b__law_draw 1
theorem good__law_draw {P : Program} {w : World} {K : PySem.W.Frag} {mg : Str → Option Value} {base : Heap} {f : Addr} {fd : FuncData} (fx : Fx K mg) (F : FunD K "_law_draw" "_law_draw" (defArgs st__law_draw) (defBody st__law_draw) (defScope st__law_draw) [] [] f fd) (hm : mg "_law_draw" = some (.ref f))  :
    GoodFn P w K mg base 1 "_law_draw" p__law_draw F__law_draw := by
  have sc := sc__law_draw
  refine good_of (k := 0) (N := N__law_draw) F hm sc__law_draw (fun _ _ _ _ _ _ us hl => match us, hl with | [_, _], _ => rfl) fun cdv A outer s H E hr => ?_
  exact dss_cons (ds_set (i := 2) sc.nd (de_ix (de_var (i := 0)) (de_int))) (dss_cons (ds_asg (vs := []) (de_bin (of_add) (de_var (i := 2)) (de_int)) (dg_sub set_L (de_var (i := 0)) (de_int))) (dss_cons (ds_if (dt_cmp (of_lt hr.units) (de_var (i := 2)) (de_callB (cf_len) fx.b_len (by decide +kernel) (da_cons (de_ix (de_var (i := 0)) (de_int)) (da_nil)))) (dss_one (ds_ret (de_bin (of_mod) (de_callTy (cf_int) fx.b_int (by decide +kernel) (da_cons (de_ix (de_ix (de_var (i := 0)) (de_int)) (de_var (i := 2))) (da_nil))) (de_var (i := 1))))) (dss_nil)) (dss_one (ds_ret (de_bin (of_mod) (de_callTy (cf_int) fx.b_int (by decide +kernel) (da_cons (de_bin (of_mul) (de_var (i := 2)) (de_int)) (da_nil))) (de_var (i := 1)))))))
/-! ### _law_shuffled -/
abbrev st__law_shuffled : Stmt := top 35
abbrev N__law_shuffled : List Str := ["box", "names", "left", "found"]
abbrev p__law_shuffled : List Str := ["box", "names"]
theorem sc__law_shuffled : FnScope N__law_shuffled p__law_shuffled (defScope st__law_shuffled) := ⟨rfl, rfl, rfl, by decide +kernel, rfl, by decide +kernel, by decide +kernel⟩
def b__law_shuffled : MS := sSeq (sPar 2 3 (aCons (eCall fList (aCons (eVar 1) (aNil))) (aCons (eLst (aNil)) (aNil)))) (sSeq (sWhile (mB (eBin fNe (eVar 2) (eLst (aNil)))) (sExpr (eMth msAppend (eVar 3) (aCons (eMth msPop (eVar 2) (aCons (eBin fMod (eCallF 2 F__law_draw (aCons (eVar 0) (aCons (eC (.int 900)) (aNil)))) (eCall fLen (aCons (eVar 2) (aNil)))) (aNil))) (aNil))))) (sRet (eCall fTuple (aCons (eVar 3) (aNil)))))
def F__law_shuffled : Fn := runB b__law_shuffled 2
theorem good__law_shuffled {P : Program} {w : World} {K : PySem.W.Frag} {mg : Str → Option Value} {base : Heap} {f : Addr} {fd : FuncData} (fx : Fx K mg) (F : FunD K "_law_shuffled" "_law_shuffled" (defArgs st__law_shuffled) (defBody st__law_shuffled) (defScope st__law_shuffled) [] [] f fd) (hm : mg "_law_shuffled" = some (.ref f)) (g__law_draw : GoodFn P w K mg base 1 "_law_draw" p__law_draw F__law_draw) :
    GoodFn P w K mg base 2 "_law_shuffled" p__law_shuffled F__law_shuffled := by
  have sc := sc__law_shuffled
  refine good_of (k := 1) (N := N__law_shuffled) F hm sc__law_shuffled (fun _ _ _ _ _ _ us hl => match us, hl with | [_, _], _ => rfl) fun cdv A outer s H E hr => ?_
  exact dss_cons (ds_par (i := 2) (j := 3) rfl sc.nd (da_cons (de_callTy (cf_list rfl) fx.b_list (by decide +kernel) (da_cons (de_var (i := 1)) (da_nil))) (da_cons (de_lst (da_nil)) (da_nil)))) (dss_cons (ds_while .never (dt_cmp (of_ne hr.units) (de_var (i := 2)) (de_lst (da_nil))) (dss_one (ds_expr (de_mth mts_append rfl (de_var (i := 3)) (da_cons (de_mth mts_pop rfl (de_var (i := 2)) (da_cons (de_bin (of_mod) (de_call g__law_draw (hr.mono (by omega)) (da_cons (de_var (i := 0)) (da_cons (de_int) (da_nil)))) (de_callB (cf_len) fx.b_len (by decide +kernel) (da_cons (de_var (i := 2)) (da_nil)))) (da_nil))) (da_nil)))))) (dss_one (ds_ret (de_callTy (cf_tuple) fx.b_tuple (by decide +kernel) (da_cons (de_var (i := 3)) (da_nil))))))
/-! ### _law_list -/
abbrev st__law_list : Stmt := top 36
abbrev N__law_list : List Str := ["box", "names", "row"]
abbrev p__law_list : List Str := ["box", "names"]
theorem sc__law_list : FnScope N__law_list p__law_list (defScope st__law_list) := ⟨rfl, rfl, rfl, by decide +kernel, rfl, by decide +kernel, by decide +kernel⟩
def b__law_list : MS := sSeq (sSet 2 (eCallF 2 F__law_shuffled (aCons (eVar 0) (aCons (eVar 1) (aNil))))) (sRet (eIf (mB (eBin fGt (eCallF 2 F__law_draw (aCons (eVar 0) (aCons (eC (.int 3)) (aNil)))) (eC (.int 0)))) (eVar 2) (eSlice (eVar 2) (oNone) (oSome (eCallF 2 F__law_draw (aCons (eVar 0) (aCons (eBin fAdd (eCall fLen (aCons (eVar 2) (aNil))) (eC (.int 1))) (aNil))))))))
def F__law_list : Fn := runB b__law_list 1
theorem good__law_list {P : Program} {w : World} {K : PySem.W.Frag} {mg : Str → Option Value} {base : Heap} {f : Addr} {fd : FuncData} (fx : Fx K mg) (F : FunD K "_law_list" "_law_list" (defArgs st__law_list) (defBody st__law_list) (defScope st__law_list) [] [] f fd) (hm : mg "_law_list" = some (.ref f)) (g__law_shuffled : GoodFn P w K mg base 2 "_law_shuffled" p__law_shuffled F__law_shuffled) (g__law_draw : GoodFn P w K mg base 1 "_law_draw" p__law_draw F__law_draw) :
    GoodFn P w K mg base 3 "_law_list" p__law_list F__law_list := by
  have sc := sc__law_list
  refine good_of (k := 2) (N := N__law_list) F hm sc__law_list (fun _ _ _ _ _ _ us hl => match us, hl with | [_, _], _ => rfl) fun cdv A outer s H E hr => ?_
  exact dss_cons (ds_set (i := 2) sc.nd (de_call g__law_shuffled (hr.mono (by omega)) (da_cons (de_var (i := 0)) (da_cons (de_var (i := 1)) (da_nil))))) (dss_one (ds_ret (de_if (dt_cmp (of_gt) (de_call g__law_draw (hr.mono (by omega)) (da_cons (de_var (i := 0)) (da_cons (de_int) (da_nil)))) (de_int)) (de_var (i := 2)) (de_slice (de_var (i := 2)) (do_none) (do_some (de_call g__law_draw (hr.mono (by omega)) (da_cons (de_var (i := 0)) (da_cons (de_bin (of_add) (de_callB (cf_len) fx.b_len (by decide +kernel) (da_cons (de_var (i := 2)) (da_nil))) (de_int)) (da_nil)))))))))
/-! ### _law_things -/
abbrev st__law_things : Stmt := top 37
abbrev N__law_things : List Str := ["box", "many", "other", "names", "k"]
abbrev p__law_things : List Str := ["box", "many", "other"]
theorem sc__law_things : FnScope N__law_things p__law_things (defScope st__law_things) := ⟨rfl, rfl, rfl, by decide +kernel, rfl, by decide +kernel, by decide +kernel⟩
def b__law_things : MS := sSeq (sSet 3 (eLc (iR1 (aCons (eVar 2) (aNil))) (gName 4) (mYes) (eBin fAdd (eC (.str "t")) (eCall fStr (aCons (eVar 4) (aNil)))) [4])) (sRet (eTup (aCons (eC (.str "things")) (aCons (eCall fTuple (aCons (eLc (iR1 (aCons (eVar 1) (aNil))) (gName 4) (mYes) (eTup (aCons (eBin fAdd (eC (.str "p")) (eCall fStr (aCons (eVar 4) (aNil)))) (aCons (eCallF 2 F__law_list (aCons (eVar 0) (aCons (eVar 3) (aNil)))) (aNil)))) [4]) (aNil))) (aCons (eCall fTuple (aCons (eVar 3) (aNil))) (aNil))))))
def F__law_things : Fn := runB b__law_things 2
theorem good__law_things {P : Program} {w : World} {K : PySem.W.Frag} {mg : Str → Option Value} {base : Heap} {f : Addr} {fd : FuncData} (fx : Fx K mg) (F : FunD K "_law_things" "_law_things" (defArgs st__law_things) (defBody st__law_things) (defScope st__law_things) [] [] f fd) (hm : mg "_law_things" = some (.ref f)) (g__law_list : GoodFn P w K mg base 3 "_law_list" p__law_list F__law_list) :
    GoodFn P w K mg base 4 "_law_things" p__law_things F__law_things := by
  have sc := sc__law_things
  refine good_of (k := 3) (N := N__law_things) F hm sc__law_things (fun _ _ _ _ _ _ us hl => match us, hl with | [_, _, _], _ => rfl) fun cdv A outer s H E hr => ?_
  exact dss_cons (ds_set (i := 3) sc.nd (de_lc (own := [("k", 4)]) rfl sc.nd (blkOk_by (by kernel_rfl)) (di_rng1 fx.b_range (da_cons (de_var (i := 2)) (da_nil))) (fun s H C cl fp => dg_name (i := 4) sc.nd) (fun s H C cl fp => dts_nil) (fun s H C cl fp => de_bin (of_add) (de_str) (de_callTy (cf_str) fx.b_str (by decide +kernel) (da_cons (de_var (i := 4)) (da_nil)))))) (dss_one (ds_ret (de_tup (da_cons (de_str) (da_cons (de_callTy (cf_tuple) fx.b_tuple (by decide +kernel) (da_cons (de_lc (own := [("k", 4)]) rfl sc.nd (blkOk_by (by kernel_rfl)) (di_rng1 fx.b_range (da_cons (de_var (i := 1)) (da_nil))) (fun s H C cl fp => dg_name (i := 4) sc.nd) (fun s H C cl fp => dts_nil) (fun s H C cl fp => de_tup (da_cons (de_bin (of_add) (de_str) (de_callTy (cf_str) fx.b_str (by decide +kernel) (da_cons (de_var (i := 4)) (da_nil)))) (da_cons (de_call g__law_list (hr.mono (by omega)) (da_cons (de_var (i := 0)) (da_cons (de_var (i := 3)) (da_nil)))) (da_nil))))) (da_nil))) (da_cons (de_callTy (cf_tuple) fx.b_tuple (by decide +kernel) (da_cons (de_var (i := 3)) (da_nil))) (da_nil)))))))
/-! ### _law_other -/
abbrev st__law_other : Stmt := top 44
abbrev N__law_other : List Str := ["box", "thing", "turned", "k"]
abbrev p__law_other : List Str := ["box", "thing"]
theorem sc__law_other : FnScope N__law_other p__law_other (defScope st__law_other) := ⟨rfl, rfl, rfl, by decide +kernel, rfl, by decide +kernel, by decide +kernel⟩
def b__law_other : MS := sSeq (sIf (mB (eUn (fIsInst .tup) (eVar 1))) (sSeq (sSet 2 (eCall fTuple (aCons (eLc (iR1 (aCons (eCall fLen (aCons (eVar 1) (aNil))) (aNil))) (gName 3) (mYes) (eBin fIx (eVar 1) (eBin fSub (eBin fSub (eCall fLen (aCons (eVar 1) (aNil))) (eC (.int 1))) (eVar 3))) [3]) (aNil)))) (sRet (eBin fIx (eLst (aCons (eCall fList (aCons (eVar 1) (aNil))) (aCons (eBin fAdd (eVar 1) (eSlice (eVar 1) (oNone) (oSome (eC (.int 1))))) (aCons (eSlice (eVar 1) (oSome (eC (.int 1))) (oNone)) (aCons (eC .non) (aCons (eTup (aNil)) (aCons (eVar 2) (aNil)))))))) (eCallF 2 F__law_draw (aCons (eVar 0) (aCons (eC (.int 6)) (aNil))))))) (sNil)) (sSeq (sIf (mB (eUn (fIsInst .str) (eVar 1))) (sRet (eBin fIx (eLst (aCons (eC (.str "a0")) (aCons (eC (.str "a1")) (aCons (eC (.str "h0")) (aCons (eC (.str "h1")) (aCons (eC (.str "market")) (aCons (eC (.str "a")) (aCons (eC (.str "A")) (aCons (eC (.str "")) (aCons (eC (.str "x y")) (aCons (eC .non) (aCons (eC (.str "abcdefghijk")) (aNil))))))))))))) (eCallF 2 F__law_draw (aCons (eVar 0) (aCons (eC (.int 11)) (aNil)))))) (sNil)) (sSeq (sIf (mB (eBin fIs (eVar 1) (eC .non))) (sRet (eBin fIx (eLst (aCons (eC (.int 0)) (aCons (eC (.str "")) (aCons (eTup (aNil)) (aNil))))) (eCallF 2 F__law_draw (aCons (eVar 0) (aCons (eC (.int 3)) (aNil)))))) (sNil)) (sRet (eBin fIx (eLst (aCons (eBin fAdd (eVar 1) (eC (.int 1))) (aCons (eBin fSub (eVar 1) (eC (.int 1))) (aCons (eC (.bl true)) (aCons (eC .non) (aCons (eC (.int 0)) (aCons (eC (.int 1000)) (aNil)))))))) (eCallF 2 F__law_draw (aCons (eVar 0) (aCons (eC (.int 6)) (aNil))))))))
def F__law_other : Fn := runB b__law_other 2
theorem good__law_other {P : Program} {w : World} {K : PySem.W.Frag} {mg : Str → Option Value} {base : Heap} {f : Addr} {fd : FuncData} (fx : Fx K mg) (F : FunD K "_law_other" "_law_other" (defArgs st__law_other) (defBody st__law_other) (defScope st__law_other) [] [] f fd) (hm : mg "_law_other" = some (.ref f)) (g__law_draw : GoodFn P w K mg base 1 "_law_draw" p__law_draw F__law_draw) :
    GoodFn P w K mg base 2 "_law_other" p__law_other F__law_other := by
  have sc := sc__law_other
  refine good_of (k := 1) (N := N__law_other) F hm sc__law_other (fun _ _ _ _ _ _ us hl => match us, hl with | [_, _], _ => rfl) fun cdv A outer s H E hr => ?_
  exact dss_cons (ds_if (dt_val (de_isinst (c := .tup) fx.b_isinstance (de_var (i := 1)) fx.b_tuple (by decide +kernel))) (dss_cons (ds_set (i := 2) sc.nd (de_callTy (cf_tuple) fx.b_tuple (by decide +kernel) (da_cons (de_lc (own := [("k", 3)]) rfl sc.nd (blkOk_by (by kernel_rfl)) (di_rng1 fx.b_range (da_cons (de_callB (cf_len) fx.b_len (by decide +kernel) (da_cons (de_var (i := 1)) (da_nil))) (da_nil))) (fun s H C cl fp => dg_name (i := 3) sc.nd) (fun s H C cl fp => dts_nil) (fun s H C cl fp => de_ix (de_var (i := 1)) (de_bin (of_sub) (de_bin (of_sub) (de_callB (cf_len) fx.b_len (by decide +kernel) (da_cons (de_var (i := 1)) (da_nil))) (de_int)) (de_var (i := 3))))) (da_nil)))) (dss_one (ds_ret (de_ix (de_lst (da_cons (de_callTy (cf_list rfl) fx.b_list (by decide +kernel) (da_cons (de_var (i := 1)) (da_nil))) (da_cons (de_bin (of_add) (de_var (i := 1)) (de_slice (de_var (i := 1)) (do_none) (do_some (de_int)))) (da_cons (de_slice (de_var (i := 1)) (do_some (de_int)) (do_none)) (da_cons (de_non) (da_cons (de_tup (da_nil)) (da_cons (de_var (i := 2)) (da_nil)))))))) (de_call g__law_draw (hr.mono (by omega)) (da_cons (de_var (i := 0)) (da_cons (de_int) (da_nil)))))))) (dss_nil)) (dss_cons (ds_if (dt_val (de_isinst (c := .str) fx.b_isinstance (de_var (i := 1)) fx.b_str (by decide +kernel))) (dss_one (ds_ret (de_ix (de_lst (da_cons (de_str) (da_cons (de_str) (da_cons (de_str) (da_cons (de_str) (da_cons (de_str) (da_cons (de_str) (da_cons (de_str) (da_cons (de_str) (da_cons (de_str) (da_cons (de_non) (da_cons (de_str) (da_nil))))))))))))) (de_call g__law_draw (hr.mono (by omega)) (da_cons (de_var (i := 0)) (da_cons (de_int) (da_nil))))))) (dss_nil)) (dss_cons (ds_if (dt_cmp (of_is) (de_var (i := 1)) (de_non)) (dss_one (ds_ret (de_ix (de_lst (da_cons (de_int) (da_cons (de_str) (da_cons (de_tup (da_nil)) (da_nil))))) (de_call g__law_draw (hr.mono (by omega)) (da_cons (de_var (i := 0)) (da_cons (de_int) (da_nil))))))) (dss_nil)) (dss_one (ds_ret (de_ix (de_lst (da_cons (de_bin (of_add) (de_var (i := 1)) (de_int)) (da_cons (de_bin (of_sub) (de_var (i := 1)) (de_int)) (da_cons (de_bl) (da_cons (de_non) (da_cons (de_int) (da_cons (de_int) (da_nil)))))))) (de_call g__law_draw (hr.mono (by omega)) (da_cons (de_var (i := 0)) (da_cons (de_int) (da_nil)))))))))
/-! ### _law_changed -/
abbrev st__law_changed : Stmt := top 45
abbrev N__law_changed : List Str := ["box", "thing", "at"]
abbrev p__law_changed : List Str := ["box", "thing"]
theorem sc__law_changed : FnScope N__law_changed p__law_changed (defScope st__law_changed) := ⟨rfl, rfl, rfl, by decide +kernel, rfl, by decide +kernel, by decide +kernel⟩
def b__law_changed (g : Fn) : MS := sSeq (sIf (mOr (mNot (mB (eUn (fIsInst .tup) (eVar 1)))) (mOr (mB (eBin fEq (eVar 1) (eTup (aNil)))) (mB (eBin fEq (eCallF 2 F__law_draw (aCons (eVar 0) (aCons (eC (.int 9)) (aNil)))) (eC (.int 0)))))) (sRet (eCallF 2 F__law_other (aCons (eVar 0) (aCons (eVar 1) (aNil))))) (sNil)) (sSeq (sSet 2 (eBin fMod (eCallF 2 F__law_draw (aCons (eVar 0) (aCons (eC (.int 900)) (aNil)))) (eCall fLen (aCons (eVar 1) (aNil))))) (sRet (eBin fAdd (eBin fAdd (eSlice (eVar 1) (oNone) (oSome (eVar 2))) (eTup (aCons (eCallF 2 g (aCons (eVar 0) (aCons (eBin fIx (eVar 1) (eVar 2)) (aNil)))) (aNil)))) (eSlice (eVar 1) (oSome (eBin fAdd (eVar 2) (eC (.int 1)))) (oNone)))))
def F__law_changed : Fn := recF b__law_changed 1 40
theorem good__law_changed {P : Program} {w : World} {K : PySem.W.Frag} {mg : Str → Option Value} {base : Heap} {f : Addr} {fd : FuncData} (fx : Fx K mg) (F : FunD K "_law_changed" "_law_changed" (defArgs st__law_changed) (defBody st__law_changed) (defScope st__law_changed) [] [] f fd) (hm : mg "_law_changed" = some (.ref f)) (g__law_draw : GoodFn P w K mg base 1 "_law_draw" p__law_draw F__law_draw) (g__law_other : GoodFn P w K mg base 2 "_law_other" p__law_other F__law_other) :
    GoodFn P w K mg base 43 "_law_changed" p__law_changed F__law_changed := by
  have sc := sc__law_changed
  exact good_rec (k := 2) (N := N__law_changed) F hm sc__law_changed (fun _ _ _ _ _ _ us hl => match us, hl with | [_, _], _ => rfl) (fun j g gg cdv A outer s H E hr => by
    exact dss_cons (ds_if ((dw_or (dt_not (dt_val (de_isinst (c := .tup) fx.b_isinstance (de_var (i := 1)) fx.b_tuple (by decide +kernel)))) (dw_or (dt_cmp (of_eq hr.units) (de_var (i := 1)) (de_tup (da_nil))) (dw_or1 (dt_cmp (of_eq hr.units) (de_call g__law_draw (hr.mono (by omega)) (da_cons (de_var (i := 0)) (da_cons (de_int) (da_nil)))) (de_int))))).dt) (dss_one (ds_ret (de_call g__law_other (hr.mono (by omega)) (da_cons (de_var (i := 0)) (da_cons (de_var (i := 1)) (da_nil)))))) (dss_nil)) (dss_cons (ds_set (i := 2) sc.nd (de_bin (of_mod) (de_call g__law_draw (hr.mono (by omega)) (da_cons (de_var (i := 0)) (da_cons (de_int) (da_nil)))) (de_callB (cf_len) fx.b_len (by decide +kernel) (da_cons (de_var (i := 1)) (da_nil))))) (dss_one (ds_ret (de_bin (of_add) (de_bin (of_add) (de_slice (de_var (i := 1)) (do_none) (do_some (de_var (i := 2)))) (de_tup (da_cons (de_call gg (hr.mono (by omega)) (da_cons (de_var (i := 0)) (da_cons (de_ix (de_var (i := 1)) (de_var (i := 2))) (da_nil)))) (da_nil)))) (de_slice (de_var (i := 1)) (do_some (de_bin (of_add) (de_var (i := 2)) (de_int))) (do_none))))))) 40
/-! ### _law_like -/
abbrev st__law_like : Stmt := top 32
abbrev N__law_like : List Str := ["told", "due", "k"]
abbrev p__law_like : List Str := ["told", "due"]
theorem sc__law_like : FnScope N__law_like p__law_like (defScope st__law_like) := ⟨rfl, rfl, rfl, by decide +kernel, rfl, by decide +kernel, by decide +kernel⟩
def b__law_like (g : Fn) : MS := sSeq (sIf (mB (eUn (fIsInst .tup) (eVar 1))) (sSeq (sIf (mOr (mNot (mB (eUn (fIsInst .tup) (eVar 0)))) (mB (eBin fNe (eCall fLen (aCons (eVar 0) (aNil))) (eCall fLen (aCons (eVar 1) (aNil)))))) (sRet (eC (.bl false))) (sNil)) (sRet (eBin fEq (eLc (iR1 (aCons (eCall fLen (aCons (eVar 1) (aNil))) (aNil))) (gName 2) (mNot (mB (eCallF 2 g (aCons (eBin fIx (eVar 0) (eVar 2)) (aCons (eBin fIx (eVar 1) (eVar 2)) (aNil)))))) (eC (.int 1)) [2]) (eLst (aNil))))) (sNil)) (sSeq (sIf (mB (eBin fIs (eVar 1) (eC .non))) (sRet (eBin fIs (eVar 0) (eC .non))) (sNil)) (sSeq (sIf (mB (eBin fIs (eVar 1) (eC (.bl true)))) (sRet (eBin fIs (eVar 0) (eC (.bl true)))) (sNil)) (sSeq (sIf (mB (eBin fIs (eVar 1) (eC (.bl false)))) (sRet (eBin fIs (eVar 0) (eC (.bl false)))) (sNil)) (sSeq (sIf (mB (eUn (fIsInst .str) (eVar 1))) (sRet (eAnd (eUn (fIsInst .str) (eVar 0)) (eBin fEq (eMth msJoin (eC (.str "")) (aCons (eLst (aCons (eVar 0) (aNil))) (aNil))) (eVar 1)))) (sNil)) (sRet (eAnd (eUn (fIsInst .int) (eVar 0)) (eAnd (eNot (eUn (fIsInst .bl) (eVar 0))) (eBin fEq (eVar 0) (eVar 1)))))))))
def F__law_like : Fn := recF b__law_like 1 40
theorem good__law_like {P : Program} {w : World} {K : PySem.W.Frag} {mg : Str → Option Value} {base : Heap} {f : Addr} {fd : FuncData} (fx : Fx K mg) (F : FunD K "_law_like" "_law_like" (defArgs st__law_like) (defBody st__law_like) (defScope st__law_like) [] [] f fd) (hm : mg "_law_like" = some (.ref f))  :
    GoodFn P w K mg base 41 "_law_like" p__law_like F__law_like := by
  have sc := sc__law_like
  exact good_rec (k := 0) (N := N__law_like) F hm sc__law_like (fun _ _ _ _ _ _ us hl => match us, hl with | [_, _], _ => rfl) (fun j g gg cdv A outer s H E hr => by
    exact dss_cons (ds_if (dt_val (de_isinst (c := .tup) fx.b_isinstance (de_var (i := 1)) fx.b_tuple (by decide +kernel))) (dss_cons (ds_if ((dw_or (dt_not (dt_val (de_isinst (c := .tup) fx.b_isinstance (de_var (i := 0)) fx.b_tuple (by decide +kernel)))) (dw_or1 (dt_cmp (of_ne hr.units) (de_callB (cf_len) fx.b_len (by decide +kernel) (da_cons (de_var (i := 0)) (da_nil))) (de_callB (cf_len) fx.b_len (by decide +kernel) (da_cons (de_var (i := 1)) (da_nil)))))).dt) (dss_one (ds_ret (de_bl))) (dss_nil)) (dss_one (ds_ret (de_cmp (of_eq hr.units) (de_lc (own := [("k", 2)]) rfl sc.nd (blkOk_by (by kernel_rfl)) (di_rng1 fx.b_range (da_cons (de_callB (cf_len) fx.b_len (by decide +kernel) (da_cons (de_var (i := 1)) (da_nil))) (da_nil))) (fun s H C cl fp => dg_name (i := 2) sc.nd) (fun s H C cl fp => dts_one (dt_not (dt_val (de_call gg (hr.mono (by omega)) (da_cons (de_ix (de_var (i := 0)) (de_var (i := 2))) (da_cons (de_ix (de_var (i := 1)) (de_var (i := 2))) (da_nil))))))) (fun s H C cl fp => de_int)) (de_lst (da_nil)))))) (dss_nil)) (dss_cons (ds_if (dt_cmp (of_is) (de_var (i := 1)) (de_non)) (dss_one (ds_ret (de_cmp (of_is) (de_var (i := 0)) (de_non)))) (dss_nil)) (dss_cons (ds_if (dt_cmp (of_is) (de_var (i := 1)) (de_bl)) (dss_one (ds_ret (de_cmp (of_is) (de_var (i := 0)) (de_bl)))) (dss_nil)) (dss_cons (ds_if (dt_cmp (of_is) (de_var (i := 1)) (de_bl)) (dss_one (ds_ret (de_cmp (of_is) (de_var (i := 0)) (de_bl)))) (dss_nil)) (dss_cons (ds_if (dt_val (de_isinst (c := .str) fx.b_isinstance (de_var (i := 1)) fx.b_str (by decide +kernel))) (dss_one (ds_ret (de_and (de_isinst (c := .str) fx.b_isinstance (de_var (i := 0)) fx.b_str (by decide +kernel)) (de_one (de_cmp (of_eq hr.units) (de_mth mts_join rfl (de_str) (da_cons (de_lst (da_cons (de_var (i := 0)) (da_nil))) (da_nil))) (de_var (i := 1))))))) (dss_nil)) (dss_one (ds_ret (de_and (de_isinst (c := .int) fx.b_isinstance (de_var (i := 0)) fx.b_int (by decide +kernel)) (de_and (de_not (de_isinst (c := .bl) fx.b_isinstance (de_var (i := 0)) fx.b_bool (by decide +kernel))) (de_one (de_cmp (of_eq hr.units) (de_var (i := 0)) (de_var (i := 1))))))))))))) 40
/-! ### _law_is_name -/
abbrev st__law_is_name : Stmt := top 33
abbrev N__law_is_name : List Str := ["text", "sign"]
abbrev p__law_is_name : List Str := ["text"]
theorem sc__law_is_name : FnScope N__law_is_name p__law_is_name (defScope st__law_is_name) := ⟨rfl, rfl, rfl, by decide +kernel, rfl, by decide +kernel, by decide +kernel⟩
def b__law_is_name : MS := sSeq (sIf (mOr (mNot (mB (eChain fLe fLe (eC (.int 1)) (eCall fLen (aCons (eVar 0) (aNil))) (eC (.int 10))))) (mB (eBin fNotIn (eBin fIx (eVar 0) (eC (.int 0))) (eC (.str "abcdefghijklmnopqrstuvwxyz"))))) (sRet (eC (.bl false))) (sNil)) (sRet (eBin fEq (eLc (iSeq (eVar 0)) (gName 1) (mB (eBin fNotIn (eVar 1) (eC (.str "abcdefghijklmnopqrstuvwxyz0123456789")))) (eVar 1) [1]) (eLst (aNil))))
def F__law_is_name : Fn := runB b__law_is_name 1
theorem good__law_is_name {P : Program} {w : World} {K : PySem.W.Frag} {mg : Str → Option Value} {base : Heap} {f : Addr} {fd : FuncData} (fx : Fx K mg) (F : FunD K "_law_is_name" "_law_is_name" (defArgs st__law_is_name) (defBody st__law_is_name) (defScope st__law_is_name) [] [] f fd) (hm : mg "_law_is_name" = some (.ref f))  :
    GoodFn P w K mg base 1 "_law_is_name" p__law_is_name F__law_is_name := by
  have sc := sc__law_is_name
  refine good_of (k := 0) (N := N__law_is_name) F hm sc__law_is_name (fun _ _ _ _ _ _ us hl => match us, hl with | [_], _ => rfl) fun cdv A outer s H E hr => ?_
  exact dss_cons (ds_if ((dw_or (dt_not (dt_chain (of_le) (of_le) (de_int) (de_callB (cf_len) fx.b_len (by decide +kernel) (da_cons (de_var (i := 0)) (da_nil))) (de_int))) (dw_or1 (dt_cmp (of_notIn hr.units) (de_ix (de_var (i := 0)) (de_int)) (de_str)))).dt) (dss_one (ds_ret (de_bl))) (dss_nil)) (dss_one (ds_ret (de_cmp (of_eq hr.units) (de_lc (own := [("sign", 1)]) rfl sc.nd (blkOk_by (by kernel_rfl)) (di_seq (de_var (i := 0))) (fun s H C cl fp => dg_name (i := 1) sc.nd) (fun s H C cl fp => dts_one (dt_cmp (of_notIn hr.units) (de_var (i := 1)) (de_str))) (fun s H C cl fp => de_var (i := 1))) (de_lst (da_nil)))))
/-! ### _law_named -/
abbrev st__law_named : Stmt := top 34
abbrev N__law_named : List Str := ["thing"]
abbrev p__law_named : List Str := ["thing"]
theorem sc__law_named : FnScope N__law_named p__law_named (defScope st__law_named) := ⟨rfl, rfl, rfl, by decide +kernel, rfl, by decide +kernel, by decide +kernel⟩
def b__law_named : MS := sRet (eAnd (eUn (fIsInst .str) (eVar 0)) (eCallF 1 F__law_is_name (aCons (eVar 0) (aNil))))
def F__law_named : Fn := runB b__law_named 0
theorem good__law_named {P : Program} {w : World} {K : PySem.W.Frag} {mg : Str → Option Value} {base : Heap} {f : Addr} {fd : FuncData} (fx : Fx K mg) (F : FunD K "_law_named" "_law_named" (defArgs st__law_named) (defBody st__law_named) (defScope st__law_named) [] [] f fd) (hm : mg "_law_named" = some (.ref f)) (g__law_is_name : GoodFn P w K mg base 1 "_law_is_name" p__law_is_name F__law_is_name) :
    GoodFn P w K mg base 2 "_law_named" p__law_named F__law_named := by
  have sc := sc__law_named
  refine good_of (k := 1) (N := N__law_named) F hm sc__law_named (fun _ _ _ _ _ _ us hl => match us, hl with | [_], _ => rfl) fun cdv A outer s H E hr => ?_
  exact dss_one (ds_ret (de_and (de_isinst (c := .str) fx.b_isinstance (de_var (i := 0)) fx.b_str (by decide +kernel)) (de_one (de_call g__law_is_name (hr.mono (by omega)) (da_cons (de_var (i := 0)) (da_nil))))))
/-! ### _law_things_right -/
abbrev st__law_things_right : Stmt := top 46
abbrev N__law_things_right : List Str := ["thing", "names", "name", "row", "other"]
abbrev p__law_things_right : List Str := ["thing"]
theorem sc__law_things_right : FnScope N__law_things_right p__law_things_right (defScope st__law_things_right) := ⟨rfl, rfl, rfl, by decide +kernel, rfl, by decide +kernel, by decide +kernel⟩
def b__law_things_right : MS := sSeq (sIf (mOr (mNot (mB (eUn (fIsInst .tup) (eVar 0)))) (mOr (mB (eBin fNe (eCall fLen (aCons (eVar 0) (aNil))) (eC (.int 3)))) (mOr (mNot (mB (eCallF 2 F__law_like (aCons (eBin fIx (eVar 0) (eC (.int 0))) (aCons (eC (.str "things")) (aNil)))))) (mOr (mNot (mB (eUn (fIsInst .tup) (eBin fIx (eVar 0) (eC (.int 1)))))) (mNot (mB (eUn (fIsInst .tup) (eBin fIx (eVar 0) (eC (.int 2)))))))))) (sRet (eC (.bl false))) (sNil)) (sSeq (sIf (mB (eBin fNe (eLc (iSeq (eBin fIx (eVar 0) (eC (.int 1)))) (gName 3) (mOr (mNot (mB (eUn (fIsInst .tup) (eVar 3)))) (mOr (mB (eBin fNe (eCall fLen (aCons (eVar 3) (aNil))) (eC (.int 2)))) (mOr (mNot (mB (eCallF 1 F__law_named (aCons (eBin fIx (eVar 3) (eC (.int 0))) (aNil))))) (mNot (mB (eUn (fIsInst .tup) (eBin fIx (eVar 3) (eC (.int 1))))))))) (eC (.int 1)) [3]) (eLst (aNil)))) (sRet (eC (.bl false))) (sNil)) (sSeq (sIf (mOr (mB (eBin fNe (eLc (iSeq (eBin fIx (eVar 0) (eC (.int 2)))) (gName 2) (mNot (mB (eCallF 1 F__law_named (aCons (eVar 2) (aNil))))) (eC (.int 1)) [2]) (eLst (aNil)))) (mOr (mB (eBin fGt (eCall fLen (aCons (eBin fIx (eVar 0) (eC (.int 1))) (aNil))) (eC (.int 40)))) (mB (eBin fGt (eCall fLen (aCons (eBin fIx (eVar 0) (eC (.int 2))) (aNil))) (eC (.int 40)))))) (sRet (eC (.bl false))) (sNil)) (sSeq (sSet 1 (eLc (iSeq (eBin fIx (eVar 0) (eC (.int 1)))) (gName 3) (mYes) (eBin fIx (eVar 3) (eC (.int 0))) [3])) (sSeq (sIf (mOr (mB (eBin fNe (eVar 1) (eUn fSortSet (eVar 1)))) (mOr (mB (eBin fNe (eCall fList (aCons (eBin fIx (eVar 0) (eC (.int 2))) (aNil))) (eUn fSortSet (eBin fIx (eVar 0) (eC (.int 2)))))) (mB (eBin fNe (eLc (iSeq (eVar 1)) (gName 2) (mB (eBin fIn (eVar 2) (eBin fIx (eVar 0) (eC (.int 2))))) (eVar 2) [2]) (eLst (aNil)))))) (sRet (eC (.bl false))) (sNil)) (sSeq (sFor (iSeq (eBin fIx (eVar 0) (eC (.int 1)))) (gTup (gsCons (gName 2) (gsCons (gName 3) (gsNil)))) (sIf (mOr (mB (eBin fNe (eLc (iSeq (eVar 3)) (gName 4) (mOr (mNot (mB (eUn (fIsInst .str) (eVar 4)))) (mB (eBin fNotIn (eVar 4) (eBin fIx (eVar 0) (eC (.int 2)))))) (eC (.int 1)) [4]) (eLst (aNil)))) (mB (eBin fLt (eUn fLenSet (eVar 3)) (eCall fLen (aCons (eVar 3) (aNil)))))) (sRet (eC (.bl false))) (sNil))) (sRet (eC (.bl true))))))))
def F__law_things_right : Fn := runB b__law_things_right 4
theorem good__law_things_right {P : Program} {w : World} {K : PySem.W.Frag} {mg : Str → Option Value} {base : Heap} {f : Addr} {fd : FuncData} (fx : Fx K mg) (F : FunD K "_law_things_right" "_law_things_right" (defArgs st__law_things_right) (defBody st__law_things_right) (defScope st__law_things_right) [] [] f fd) (hm : mg "_law_things_right" = some (.ref f)) (g__law_like : GoodFn P w K mg base 41 "_law_like" p__law_like F__law_like) (g__law_named : GoodFn P w K mg base 2 "_law_named" p__law_named F__law_named) :
    GoodFn P w K mg base 42 "_law_things_right" p__law_things_right F__law_things_right := by
  have sc := sc__law_things_right
  refine good_of (k := 41) (N := N__law_things_right) F hm sc__law_things_right (fun _ _ _ _ _ _ us hl => match us, hl with | [_], _ => rfl) fun cdv A outer s H E hr => ?_
  exact dss_cons (ds_if ((dw_or (dt_not (dt_val (de_isinst (c := .tup) fx.b_isinstance (de_var (i := 0)) fx.b_tuple (by decide +kernel)))) (dw_or (dt_cmp (of_ne hr.units) (de_callB (cf_len) fx.b_len (by decide +kernel) (da_cons (de_var (i := 0)) (da_nil))) (de_int)) (dw_or (dt_not (dt_val (de_call g__law_like (hr.mono (by omega)) (da_cons (de_ix (de_var (i := 0)) (de_int)) (da_cons (de_str) (da_nil)))))) (dw_or (dt_not (dt_val (de_isinst (c := .tup) fx.b_isinstance (de_ix (de_var (i := 0)) (de_int)) fx.b_tuple (by decide +kernel)))) (dw_or1 (dt_not (dt_val (de_isinst (c := .tup) fx.b_isinstance (de_ix (de_var (i := 0)) (de_int)) fx.b_tuple (by decide +kernel))))))))).dt) (dss_one (ds_ret (de_bl))) (dss_nil)) (dss_cons (ds_if (dt_cmp (of_ne hr.units) (de_lc (own := [("row", 3)]) rfl sc.nd (blkOk_by (by kernel_rfl)) (di_seq (de_ix (de_var (i := 0)) (de_int))) (fun s H C cl fp => dg_name (i := 3) sc.nd) (fun s H C cl fp => dts_one ((dw_or (dt_not (dt_val (de_isinst (c := .tup) fx.b_isinstance (de_var (i := 3)) fx.b_tuple (by decide +kernel)))) (dw_or (dt_cmp (of_ne hr.units) (de_callB (cf_len) fx.b_len (by decide +kernel) (da_cons (de_var (i := 3)) (da_nil))) (de_int)) (dw_or (dt_not (dt_val (de_call g__law_named (hr.mono (by omega)) (da_cons (de_ix (de_var (i := 3)) (de_int)) (da_nil))))) (dw_or1 (dt_not (dt_val (de_isinst (c := .tup) fx.b_isinstance (de_ix (de_var (i := 3)) (de_int)) fx.b_tuple (by decide +kernel)))))))).dt)) (fun s H C cl fp => de_int)) (de_lst (da_nil))) (dss_one (ds_ret (de_bl))) (dss_nil)) (dss_cons (ds_if ((dw_or (dt_cmp (of_ne hr.units) (de_lc (own := [("name", 2)]) rfl sc.nd (blkOk_by (by kernel_rfl)) (di_seq (de_ix (de_var (i := 0)) (de_int))) (fun s H C cl fp => dg_name (i := 2) sc.nd) (fun s H C cl fp => dts_one (dt_not (dt_val (de_call g__law_named (hr.mono (by omega)) (da_cons (de_var (i := 2)) (da_nil)))))) (fun s H C cl fp => de_int)) (de_lst (da_nil))) (dw_or (dt_cmp (of_gt) (de_callB (cf_len) fx.b_len (by decide +kernel) (da_cons (de_ix (de_var (i := 0)) (de_int)) (da_nil))) (de_int)) (dw_or1 (dt_cmp (of_gt) (de_callB (cf_len) fx.b_len (by decide +kernel) (da_cons (de_ix (de_var (i := 0)) (de_int)) (da_nil))) (de_int))))).dt) (dss_one (ds_ret (de_bl))) (dss_nil)) (dss_cons (ds_setLc (i := 1) (own := [("row", 3)]) rfl sc.nd (blkOk_by (by kernel_rfl)) (di_seq (de_ix (de_var (i := 0)) (de_int))) (fun s H C cl fp => dg_name (i := 3) sc.nd) (fun s H C cl fp => dts_nil) (fun s H C cl fp => de_ix (de_var (i := 3)) (de_int)) (sw_true rfl rfl (by rfl) (by rfl))) (dss_cons (ds_if ((dw_or (dt_cmp (of_ne hr.units) (de_var (i := 1)) (de_sortSet fx.b_sorted fx.b_set rfl hr (de_var (i := 1)))) (dw_or (dt_cmp (of_ne hr.units) (de_callTy (cf_list rfl) fx.b_list (by decide +kernel) (da_cons (de_ix (de_var (i := 0)) (de_int)) (da_nil))) (de_sortSet fx.b_sorted fx.b_set rfl hr (de_ix (de_var (i := 0)) (de_int)))) (dw_or1 (dt_cmp (of_ne hr.units) (de_lc (own := [("name", 2)]) rfl sc.nd (blkOk_by (by kernel_rfl)) (di_seq (de_var (i := 1))) (fun s H C cl fp => dg_name (i := 2) sc.nd) (fun s H C cl fp => dts_one (dt_cmp (of_in hr.units) (de_var (i := 2)) (de_ix (de_var (i := 0)) (de_int)))) (fun s H C cl fp => de_var (i := 2))) (de_lst (da_nil)))))).dt) (dss_one (ds_ret (de_bl))) (dss_nil)) (dss_cons (ds_for (vs := [2, 3]) .never rfl (di_seq (de_ix (de_var (i := 0)) (de_int))) (dg_tup (n := 2) rfl (dgs_cons (dg_name (i := 2) sc.nd) (dgs_cons (dg_name (i := 3) sc.nd) (dgs_nil))) (gs_lenS (gs_lenS (gs_len0)))) (dss_one (ds_if ((dw_or (dt_cmp (of_ne hr.units) (de_lc (own := [("other", 4)]) rfl sc.nd (blkOk_by (by kernel_rfl)) (di_seq (de_var (i := 3))) (fun s H C cl fp => dg_name (i := 4) sc.nd) (fun s H C cl fp => dts_one ((dw_or (dt_not (dt_val (de_isinst (c := .str) fx.b_isinstance (de_var (i := 4)) fx.b_str (by decide +kernel)))) (dw_or1 (dt_cmp (of_notIn hr.units) (de_var (i := 4)) (de_ix (de_var (i := 0)) (de_int))))).dt)) (fun s H C cl fp => de_int)) (de_lst (da_nil))) (dw_or1 (dt_cmp (of_lt hr.units) (de_lenSet fx.b_len fx.b_set rfl hr (de_var (i := 3))) (de_callB (cf_len) fx.b_len (by decide +kernel) (da_cons (de_var (i := 3)) (da_nil)))))).dt) (dss_one (ds_ret (de_bl))) (dss_nil)))) (dss_one (ds_ret (de_bl))))))))
/-! ### is_made -/
abbrev st_is_made : Stmt := top 7
abbrev N_is_made : List Str := ["thing", "word", "many"]
abbrev p_is_made : List Str := ["thing", "word", "many"]
theorem sc_is_made : FnScope N_is_made p_is_made (defScope st_is_made) := ⟨rfl, rfl, rfl, by decide +kernel, rfl, by decide +kernel, by decide +kernel⟩
def b_is_made : MS := sRet (eAnd (eUn (fIsInst .tup) (eVar 0)) (eAnd (eBin fEq (eCall fLen (aCons (eVar 0) (aNil))) (eVar 2)) (eBin fEq (eBin fIx (eVar 0) (eC (.int 0))) (eVar 1))))
def F_is_made : Fn := runB b_is_made 0
theorem good_is_made {P : Program} {w : World} {K : PySem.W.Frag} {mg : Str → Option Value} {base : Heap} {f : Addr} {fd : FuncData} (fx : Fx K mg) (F : FunD K "is_made" "is_made" (defArgs st_is_made) (defBody st_is_made) (defScope st_is_made) [] [] f fd) (hm : mg "is_made" = some (.ref f))  :
    GoodFn P w K mg base 1 "is_made" p_is_made F_is_made := by
  have sc := sc_is_made
  refine good_of (k := 0) (N := N_is_made) F hm sc_is_made (fun _ _ _ _ _ _ us hl => match us, hl with | [_, _, _], _ => rfl) fun cdv A outer s H E hr => ?_
  exact dss_one (ds_ret (de_and (de_isinst (c := .tup) fx.b_isinstance (de_var (i := 0)) fx.b_tuple (by decide +kernel)) (de_and (de_cmp (of_eq hr.units) (de_callB (cf_len) fx.b_len (by decide +kernel) (da_cons (de_var (i := 0)) (da_nil))) (de_var (i := 2))) (de_one (de_cmp (of_eq hr.units) (de_ix (de_var (i := 0)) (de_int)) (de_var (i := 1)))))))
/-! ### _are_signs -/
abbrev st__are_signs : Stmt := top 4
abbrev N__are_signs : List Str := ["text", "signs", "sign"]
abbrev p__are_signs : List Str := ["text", "signs"]
theorem sc__are_signs : FnScope N__are_signs p__are_signs (defScope st__are_signs) := ⟨rfl, rfl, rfl, by decide +kernel, rfl, by decide +kernel, by decide +kernel⟩
def b__are_signs : MS := sRet (eCall fAll (aCons (eLc (iSeq (eVar 0)) (gName 2) (mYes) (eBin fIn (eVar 2) (eVar 1)) [2]) (aNil)))
def F__are_signs : Fn := runB b__are_signs 1
theorem good__are_signs {P : Program} {w : World} {K : PySem.W.Frag} {mg : Str → Option Value} {base : Heap} {f : Addr} {fd : FuncData} (fx : Fx K mg) (F : FunD K "_are_signs" "_are_signs" (defArgs st__are_signs) (defBody st__are_signs) (defScope st__are_signs) [] [] f fd) (hm : mg "_are_signs" = some (.ref f))  :
    GoodFn P w K mg base 1 "_are_signs" p__are_signs F__are_signs := by
  have sc := sc__are_signs
  refine good_of (k := 0) (N := N__are_signs) F hm sc__are_signs (fun _ _ _ _ _ _ us hl => match us, hl with | [_, _], _ => rfl) fun cdv A outer s H E hr => ?_
  exact dss_one (ds_ret (de_callB (cf_all rfl) fx.b_all (by decide +kernel) (da_cons (de_lc (own := [("sign", 2)]) rfl sc.nd (blkOk_by (by kernel_rfl)) (di_seq (de_var (i := 0))) (fun s H C cl fp => dg_name (i := 2) sc.nd) (fun s H C cl fp => dts_nil) (fun s H C cl fp => de_cmp (of_in hr.units) (de_var (i := 2)) (de_var (i := 1)))) (da_nil))))
/-! ### is_name -/
abbrev st_is_name : Stmt := top 5
abbrev N_is_name : List Str := ["thing"]
abbrev p_is_name : List Str := ["thing"]
theorem sc_is_name : FnScope N_is_name p_is_name (defScope st_is_name) := ⟨rfl, rfl, rfl, by decide +kernel, rfl, by decide +kernel, by decide +kernel⟩
def b_is_name : MS := sSeq (sIf (mOr (mNot (mB (eUn (fIsInst .str) (eVar 0)))) (mNot (mB (eChain fLe fLe (eC (.int 1)) (eCall fLen (aCons (eVar 0) (aNil))) (eC (.int 10)))))) (sRet (eC (.bl false))) (sNil)) (sRet (eAnd (eBin fIn (eBin fIx (eVar 0) (eC (.int 0))) (eC (.str "abcdefghijklmnopqrstuvwxyz"))) (eCallF 2 F__are_signs (aCons (eVar 0) (aCons (eBin fAdd (eC (.str "abcdefghijklmnopqrstuvwxyz")) (eC (.str "0123456789"))) (aNil))))))
def F_is_name : Fn := runB b_is_name 0
theorem good_is_name {P : Program} {w : World} {K : PySem.W.Frag} {mg : Str → Option Value} {base : Heap} {f : Addr} {fd : FuncData} (fx : Fx K mg) (F : FunD K "is_name" "is_name" (defArgs st_is_name) (defBody st_is_name) (defScope st_is_name) [] [] f fd) (hm : mg "is_name" = some (.ref f)) (g__are_signs : GoodFn P w K mg base 1 "_are_signs" p__are_signs F__are_signs) :
    GoodFn P w K mg base 2 "is_name" p_is_name F_is_name := by
  have sc := sc_is_name
  refine good_of (k := 1) (N := N_is_name) F hm sc_is_name (fun _ _ _ _ _ _ us hl => match us, hl with | [_], _ => rfl) fun cdv A outer s H E hr => ?_
  exact dss_cons (ds_if ((dw_or (dt_not (dt_val (de_isinst (c := .str) fx.b_isinstance (de_var (i := 0)) fx.b_str (by decide +kernel)))) (dw_or1 (dt_not (dt_chain (of_le) (of_le) (de_int) (de_callB (cf_len) fx.b_len (by decide +kernel) (da_cons (de_var (i := 0)) (da_nil))) (de_glob fx.c_MOST_SIGNS))))).dt) (dss_one (ds_ret (de_bl))) (dss_nil)) (dss_one (ds_ret (de_and (de_cmp (of_in hr.units) (de_ix (de_var (i := 0)) (de_int)) (de_glob fx.c_LETTERS)) (de_one (de_call g__are_signs (hr.mono (by omega)) (da_cons (de_var (i := 0)) (da_cons (de_bin (of_add) (de_glob fx.c_LETTERS) (de_glob fx.c_DIGITS)) (da_nil))))))))
/-! ### are_names -/
abbrev st_are_names : Stmt := top 9
abbrev N_are_names : List Str := ["thing", "name"]
abbrev p_are_names : List Str := ["thing"]
theorem sc_are_names : FnScope N_are_names p_are_names (defScope st_are_names) := ⟨rfl, rfl, rfl, by decide +kernel, rfl, by decide +kernel, by decide +kernel⟩
def b_are_names : MS := sSeq (sIf (mNot (mB (eUn (fIsInst .tup) (eVar 0)))) (sRet (eC (.bl false))) (sNil)) (sSeq (sFor (iSeq (eVar 0)) (gName 1) (sIf (mNot (mB (eCallF 1 F_is_name (aCons (eVar 1) (aNil))))) (sRet (eC (.bl false))) (sNil))) (sRet (eBin fEq (eUn fLenSet (eVar 0)) (eCall fLen (aCons (eVar 0) (aNil))))))
def F_are_names : Fn := runB b_are_names 1
theorem good_are_names {P : Program} {w : World} {K : PySem.W.Frag} {mg : Str → Option Value} {base : Heap} {f : Addr} {fd : FuncData} (fx : Fx K mg) (F : FunD K "are_names" "are_names" (defArgs st_are_names) (defBody st_are_names) (defScope st_are_names) [] [] f fd) (hm : mg "are_names" = some (.ref f)) (g_is_name : GoodFn P w K mg base 2 "is_name" p_is_name F_is_name) :
    GoodFn P w K mg base 3 "are_names" p_are_names F_are_names := by
  have sc := sc_are_names
  refine good_of (k := 2) (N := N_are_names) F hm sc_are_names (fun _ _ _ _ _ _ us hl => match us, hl with | [_], _ => rfl) fun cdv A outer s H E hr => ?_
  exact dss_cons (ds_if (dt_not (dt_val (de_isinst (c := .tup) fx.b_isinstance (de_var (i := 0)) fx.b_tuple (by decide +kernel)))) (dss_one (ds_ret (de_bl))) (dss_nil)) (dss_cons (ds_for (vs := [1]) .never rfl (di_seq (de_var (i := 0))) (dg_name (i := 1) sc.nd) (dss_one (ds_if (dt_not (dt_val (de_call g_is_name (hr.mono (by omega)) (da_cons (de_var (i := 1)) (da_nil))))) (dss_one (ds_ret (de_bl))) (dss_nil)))) (dss_one (ds_ret (de_cmp (of_eq hr.units) (de_lenSet fx.b_len fx.b_set rfl hr (de_var (i := 0))) (de_callB (cf_len) fx.b_len (by decide +kernel) (da_cons (de_var (i := 0)) (da_nil)))))))
/-! ### is_ascending -/
abbrev st_is_ascending : Stmt := top 8
abbrev N_is_ascending : List Str := ["names", "place"]
abbrev p_is_ascending : List Str := ["names"]
theorem sc_is_ascending : FnScope N_is_ascending p_is_ascending (defScope st_is_ascending) := ⟨rfl, rfl, rfl, by decide +kernel, rfl, by decide +kernel, by decide +kernel⟩
def b_is_ascending : MS := sSeq (sFor (iR2 (aCons (eC (.int 1)) (aCons (eCall fLen (aCons (eVar 0) (aNil))) (aNil)))) (gName 1) (sIf (mB (eBin fLe (eBin fIx (eVar 0) (eVar 1)) (eBin fIx (eVar 0) (eBin fSub (eVar 1) (eC (.int 1)))))) (sRet (eC (.bl false))) (sNil))) (sRet (eC (.bl true)))
def F_is_ascending : Fn := runB b_is_ascending 1
theorem good_is_ascending {P : Program} {w : World} {K : PySem.W.Frag} {mg : Str → Option Value} {base : Heap} {f : Addr} {fd : FuncData} (fx : Fx K mg) (F : FunD K "is_ascending" "is_ascending" (defArgs st_is_ascending) (defBody st_is_ascending) (defScope st_is_ascending) [] [] f fd) (hm : mg "is_ascending" = some (.ref f))  :
    GoodFn P w K mg base 1 "is_ascending" p_is_ascending F_is_ascending := by
  have sc := sc_is_ascending
  refine good_of (k := 0) (N := N_is_ascending) F hm sc_is_ascending (fun _ _ _ _ _ _ us hl => match us, hl with | [_], _ => rfl) fun cdv A outer s H E hr => ?_
  exact dss_cons (ds_for (vs := [1]) .never rfl (di_rng2 fx.b_range (da_cons (de_int) (da_cons (de_callB (cf_len) fx.b_len (by decide +kernel) (da_cons (de_var (i := 0)) (da_nil))) (da_nil)))) (dg_name (i := 1) sc.nd) (dss_one (ds_if (dt_cmp (of_le) (de_ix (de_var (i := 0)) (de_var (i := 1))) (de_ix (de_var (i := 0)) (de_bin (of_sub) (de_var (i := 1)) (de_int)))) (dss_one (ds_ret (de_bl))) (dss_nil)))) (dss_one (ds_ret (de_bl)))
/-! ### are_rows -/
abbrev st_are_rows : Stmt := top 11
abbrev N_are_rows : List Str := ["thing", "row"]
abbrev p_are_rows : List Str := ["thing"]
theorem sc_are_rows : FnScope N_are_rows p_are_rows (defScope st_are_rows) := ⟨rfl, rfl, rfl, by decide +kernel, rfl, by decide +kernel, by decide +kernel⟩
def b_are_rows : MS := sSeq (sIf (mNot (mB (eUn (fIsInst .tup) (eVar 0)))) (sRet (eC (.bl false))) (sNil)) (sSeq (sFor (iSeq (eVar 0)) (gName 1) (sSeq (sIf (mOr (mNot (mB (eUn (fIsInst .tup) (eVar 1)))) (mB (eBin fNe (eCall fLen (aCons (eVar 1) (aNil))) (eC (.int 2))))) (sRet (eC (.bl false))) (sNil)) (sIf (mOr (mNot (mB (eCallF 1 F_is_name (aCons (eBin fIx (eVar 1) (eC (.int 0))) (aNil))))) (mNot (mB (eCallF 1 F_are_names (aCons (eBin fIx (eVar 1) (eC (.int 1))) (aNil)))))) (sRet (eC (.bl false))) (sNil)))) (sRet (eCallF 1 F_is_ascending (aCons (eLc (iSeq (eVar 0)) (gName 1) (mYes) (eBin fIx (eVar 1) (eC (.int 0))) [1]) (aNil)))))
def F_are_rows : Fn := runB b_are_rows 1
theorem good_are_rows {P : Program} {w : World} {K : PySem.W.Frag} {mg : Str → Option Value} {base : Heap} {f : Addr} {fd : FuncData} (fx : Fx K mg) (F : FunD K "are_rows" "are_rows" (defArgs st_are_rows) (defBody st_are_rows) (defScope st_are_rows) [] [] f fd) (hm : mg "are_rows" = some (.ref f)) (g_is_name : GoodFn P w K mg base 2 "is_name" p_is_name F_is_name) (g_are_names : GoodFn P w K mg base 3 "are_names" p_are_names F_are_names) (g_is_ascending : GoodFn P w K mg base 1 "is_ascending" p_is_ascending F_is_ascending) :
    GoodFn P w K mg base 4 "are_rows" p_are_rows F_are_rows := by
  have sc := sc_are_rows
  refine good_of (k := 3) (N := N_are_rows) F hm sc_are_rows (fun _ _ _ _ _ _ us hl => match us, hl with | [_], _ => rfl) fun cdv A outer s H E hr => ?_
  exact dss_cons (ds_if (dt_not (dt_val (de_isinst (c := .tup) fx.b_isinstance (de_var (i := 0)) fx.b_tuple (by decide +kernel)))) (dss_one (ds_ret (de_bl))) (dss_nil)) (dss_cons (ds_for (vs := [1]) .never rfl (di_seq (de_var (i := 0))) (dg_name (i := 1) sc.nd) (dss_cons (ds_if ((dw_or (dt_not (dt_val (de_isinst (c := .tup) fx.b_isinstance (de_var (i := 1)) fx.b_tuple (by decide +kernel)))) (dw_or1 (dt_cmp (of_ne hr.units) (de_callB (cf_len) fx.b_len (by decide +kernel) (da_cons (de_var (i := 1)) (da_nil))) (de_int)))).dt) (dss_one (ds_ret (de_bl))) (dss_nil)) (dss_one (ds_if ((dw_or (dt_not (dt_val (de_call g_is_name (hr.mono (by omega)) (da_cons (de_ix (de_var (i := 1)) (de_int)) (da_nil))))) (dw_or1 (dt_not (dt_val (de_call g_are_names (hr.mono (by omega)) (da_cons (de_ix (de_var (i := 1)) (de_int)) (da_nil))))))).dt) (dss_one (ds_ret (de_bl))) (dss_nil))))) (dss_one (ds_ret (de_call g_is_ascending (hr.mono (by omega)) (da_cons (de_lc (own := [("row", 1)]) rfl sc.nd (blkOk_by (by kernel_rfl)) (di_seq (de_var (i := 0))) (fun s H C cl fp => dg_name (i := 1) sc.nd) (fun s H C cl fp => dts_nil) (fun s H C cl fp => de_ix (de_var (i := 1)) (de_int))) (da_nil))))))
/-! ### are_ascending_names -/
abbrev st_are_ascending_names : Stmt := top 10
abbrev N_are_ascending_names : List Str := ["thing"]
abbrev p_are_ascending_names : List Str := ["thing"]
theorem sc_are_ascending_names : FnScope N_are_ascending_names p_are_ascending_names (defScope st_are_ascending_names) := ⟨rfl, rfl, rfl, by decide +kernel, rfl, by decide +kernel, by decide +kernel⟩
def b_are_ascending_names : MS := sRet (eAnd (eCallF 1 F_are_names (aCons (eVar 0) (aNil))) (eCallF 1 F_is_ascending (aCons (eVar 0) (aNil))))
def F_are_ascending_names : Fn := runB b_are_ascending_names 0
theorem good_are_ascending_names {P : Program} {w : World} {K : PySem.W.Frag} {mg : Str → Option Value} {base : Heap} {f : Addr} {fd : FuncData} (fx : Fx K mg) (F : FunD K "are_ascending_names" "are_ascending_names" (defArgs st_are_ascending_names) (defBody st_are_ascending_names) (defScope st_are_ascending_names) [] [] f fd) (hm : mg "are_ascending_names" = some (.ref f)) (g_are_names : GoodFn P w K mg base 3 "are_names" p_are_names F_are_names) (g_is_ascending : GoodFn P w K mg base 1 "is_ascending" p_is_ascending F_is_ascending) :
    GoodFn P w K mg base 4 "are_ascending_names" p_are_ascending_names F_are_ascending_names := by
  have sc := sc_are_ascending_names
  refine good_of (k := 3) (N := N_are_ascending_names) F hm sc_are_ascending_names (fun _ _ _ _ _ _ us hl => match us, hl with | [_], _ => rfl) fun cdv A outer s H E hr => ?_
  exact dss_one (ds_ret (de_and (de_call g_are_names (hr.mono (by omega)) (da_cons (de_var (i := 0)) (da_nil))) (de_one (de_call g_is_ascending (hr.mono (by omega)) (da_cons (de_var (i := 0)) (da_nil))))))
/-! ### is_things -/
abbrev st_is_things : Stmt := top 19
abbrev N_is_things : List Str := ["thing", "wares", "name", "wishes", "ware"]
abbrev p_is_things : List Str := ["thing"]
theorem sc_is_things : FnScope N_is_things p_is_things (defScope st_is_things) := ⟨rfl, rfl, rfl, by decide +kernel, rfl, by decide +kernel, by decide +kernel⟩
def b_is_things : MS := sSeq (sIf (mOr (mNot (mB (eCallF 3 F_is_made (aCons (eVar 0) (aCons (eC (.str "things")) (aCons (eC (.int 3)) (aNil))))))) (mOr (mNot (mB (eCallF 1 F_are_rows (aCons (eBin fIxD (eVar 0) (eC (.int 1))) (aNil))))) (mNot (mB (eCallF 1 F_are_ascending_names (aCons (eBin fIxD (eVar 0) (eC (.int 2))) (aNil))))))) (sRet (eC (.bl false))) (sNil)) (sSeq (sIf (mOr (mB (eBin fGt (eCall fLen (aCons (eBin fIxD (eVar 0) (eC (.int 1))) (aNil))) (eC (.int 40)))) (mB (eBin fGt (eCall fLen (aCons (eBin fIxD (eVar 0) (eC (.int 2))) (aNil))) (eC (.int 40))))) (sRet (eC (.bl false))) (sNil)) (sSeq (sSet 1 (eDc (iSeq (eBin fIxD (eVar 0) (eC (.int 2)))) (gName 4) (mYes) (eVar 4) (eC (.bl true)) [4])) (sSeq (sFor (iSeq (eBin fIxD (eVar 0) (eC (.int 1)))) (gTup (gsCons (gName 2) (gsCons (gName 3) (gsNil)))) (sSeq (sIf (mB (eBin fInD (eVar 2) (eVar 1))) (sRet (eC (.bl false))) (sNil)) (sFor (iSeq (eVar 3)) (gName 4) (sIf (mB (eBin fNotInD (eVar 4) (eVar 1))) (sRet (eC (.bl false))) (sNil))))) (sRet (eC (.bl true))))))
def F_is_things : Fn := runB b_is_things 4
theorem good_is_things {P : Program} {w : World} {K : PySem.W.Frag} {mg : Str → Option Value} {base : Heap} {f : Addr} {fd : FuncData} (fx : Fx K mg) (F : FunD K "is_things" "is_things" (defArgs st_is_things) (defBody st_is_things) (defScope st_is_things) [] [] f fd) (hm : mg "is_things" = some (.ref f)) (g_is_made : GoodFn P w K mg base 1 "is_made" p_is_made F_is_made) (g_are_rows : GoodFn P w K mg base 4 "are_rows" p_are_rows F_are_rows) (g_are_ascending_names : GoodFn P w K mg base 4 "are_ascending_names" p_are_ascending_names F_are_ascending_names) :
    GoodFn P w K mg base 5 "is_things" p_is_things F_is_things := by
  have sc := sc_is_things
  refine good_of (k := 4) (N := N_is_things) F hm sc_is_things (fun _ _ _ _ _ _ us hl => match us, hl with | [_], _ => rfl) fun cdv A outer s H E hr => ?_
  exact dss_cons (ds_if ((dw_or (dt_not (dt_val (de_call g_is_made (hr.mono (by omega)) (da_cons (de_var (i := 0)) (da_cons (de_str) (da_cons (de_int) (da_nil))))))) (dw_or (dt_not (dt_val (de_call g_are_rows (hr.mono (by omega)) (da_cons (de_ixD hr.units (de_var (i := 0)) (de_int)) (da_nil))))) (dw_or1 (dt_not (dt_val (de_call g_are_ascending_names (hr.mono (by omega)) (da_cons (de_ixD hr.units (de_var (i := 0)) (de_int)) (da_nil)))))))).dt) (dss_one (ds_ret (de_bl))) (dss_nil)) (dss_cons (ds_if ((dw_or (dt_cmp (of_gt) (de_callB (cf_len) fx.b_len (by decide +kernel) (da_cons (de_ixD hr.units (de_var (i := 0)) (de_int)) (da_nil))) (de_glob fx.c_MOST)) (dw_or1 (dt_cmp (of_gt) (de_callB (cf_len) fx.b_len (by decide +kernel) (da_cons (de_ixD hr.units (de_var (i := 0)) (de_int)) (da_nil))) (de_glob fx.c_MOST)))).dt) (dss_one (ds_ret (de_bl))) (dss_nil)) (dss_cons (ds_setDc (i := 1) (own := [("ware", 4)]) rfl sc.nd (blkOk_by (by kernel_rfl)) (di_seq (de_ixD hr.units (de_var (i := 0)) (de_int))) (fun s H C cl fp => dg_name (i := 4) sc.nd) (fun s H C cl fp => dts_nil) (fun s H C cl fp => de_var (i := 4)) (fun s H C cl fp => de_bl) (swD_true rfl rfl (by rfl) (by rfl))) (dss_cons (ds_for (vs := [2, 3]) .never rfl (di_seq (de_ixD hr.units (de_var (i := 0)) (de_int))) (dg_tup (n := 2) rfl (dgs_cons (dg_name (i := 2) sc.nd) (dgs_cons (dg_name (i := 3) sc.nd) (dgs_nil))) (gs_lenS (gs_lenS (gs_len0)))) (dss_cons (ds_if (dt_cmp (of_inD hr.units) (de_var (i := 2)) (de_var (i := 1))) (dss_one (ds_ret (de_bl))) (dss_nil)) (dss_one (ds_for (vs := [4]) .never rfl (di_seq (de_var (i := 3))) (dg_name (i := 4) sc.nd) (dss_one (ds_if (dt_cmp (of_notInD hr.units) (de_var (i := 4)) (de_var (i := 1))) (dss_one (ds_ret (de_bl))) (dss_nil))))))) (dss_one (ds_ret (de_bl))))))
/-! ### _law_pick -/
abbrev st__law_pick : Stmt := top 31
abbrev N__law_pick : List Str := ["box", "things"]
abbrev p__law_pick : List Str := ["box", "things"]
theorem sc__law_pick : FnScope N__law_pick p__law_pick (defScope st__law_pick) := ⟨rfl, rfl, rfl, by decide +kernel, rfl, by decide +kernel, by decide +kernel⟩
def b__law_pick : MS := sRet (eBin fIx (eVar 1) (eBin fMod (eCall fInt (aCons (eCallF 2 F__law_draw (aCons (eVar 0) (aCons (eC (.int 900)) (aNil)))) (aNil))) (eCall fLen (aCons (eVar 1) (aNil)))))
def F__law_pick : Fn := runB b__law_pick 0
theorem good__law_pick {P : Program} {w : World} {K : PySem.W.Frag} {mg : Str → Option Value} {base : Heap} {f : Addr} {fd : FuncData} (fx : Fx K mg) (F : FunD K "_law_pick" "_law_pick" (defArgs st__law_pick) (defBody st__law_pick) (defScope st__law_pick) [] [] f fd) (hm : mg "_law_pick" = some (.ref f)) (g__law_draw : GoodFn P w K mg base 1 "_law_draw" p__law_draw F__law_draw) :
    GoodFn P w K mg base 2 "_law_pick" p__law_pick F__law_pick := by
  have sc := sc__law_pick
  refine good_of (k := 1) (N := N__law_pick) F hm sc__law_pick (fun _ _ _ _ _ _ us hl => match us, hl with | [_, _], _ => rfl) fun cdv A outer s H E hr => ?_
  exact dss_one (ds_ret (de_ix (de_var (i := 1)) (de_bin (of_mod) (de_callTy (cf_int) fx.b_int (by decide +kernel) (da_cons (de_call g__law_draw (hr.mono (by omega)) (da_cons (de_var (i := 0)) (da_cons (de_int) (da_nil)))) (da_nil))) (de_callB (cf_len) fx.b_len (by decide +kernel) (da_cons (de_var (i := 1)) (da_nil))))))
/-! ### _law_some_share -/
abbrev st__law_some_share : Stmt := top 39
abbrev N__law_some_share : List Str := ["box", "things", "pairs", "person", "row", "free", "own", "pair"]
abbrev p__law_some_share : List Str := ["box", "things"]
theorem sc__law_some_share : FnScope N__law_some_share p__law_some_share (defScope st__law_some_share) := ⟨rfl, rfl, rfl, by decide +kernel, rfl, by decide +kernel, by decide +kernel⟩
def b__law_some_share : MS := sSeq (sSet 2 (eTup (aNil))) (sSeq (sFor (iSeq (eBin fIx (eVar 1) (eC (.int 1)))) (gTup (gsCons (gName 3) (gsCons (gName 4) (gsNil)))) (sSeq (sSet 5 (eLc (iSeq (eVar 4)) (gName 6) (mB (eBin fNotIn (eVar 6) (eLc (iSeq (eVar 2)) (gName 7) (mYes) (eBin fIx (eVar 7) (eC (.int 1))) [7]))) (eVar 6) [6])) (sIf (mAnd (mB (eBin fNe (eVar 5) (eLst (aNil)))) (mB (eBin fGt (eCallF 2 F__law_draw (aCons (eVar 0) (aCons (eC (.int 5)) (aNil)))) (eC (.int 0))))) (sSet 2 (eBin fAdd (eVar 2) (eTup (aCons (eTup (aCons (eVar 3) (aCons (eCallF 2 F__law_pick (aCons (eVar 0) (aCons (eVar 5) (aNil)))) (aNil)))) (aNil))))) (sNil)))) (sRet (eVar 2)))
def F__law_some_share : Fn := runB b__law_some_share 6
theorem good__law_some_share {P : Program} {w : World} {K : PySem.W.Frag} {mg : Str → Option Value} {base : Heap} {f : Addr} {fd : FuncData} (fx : Fx K mg) (F : FunD K "_law_some_share" "_law_some_share" (defArgs st__law_some_share) (defBody st__law_some_share) (defScope st__law_some_share) [] [] f fd) (hm : mg "_law_some_share" = some (.ref f)) (g__law_draw : GoodFn P w K mg base 1 "_law_draw" p__law_draw F__law_draw) (g__law_pick : GoodFn P w K mg base 2 "_law_pick" p__law_pick F__law_pick) :
    GoodFn P w K mg base 3 "_law_some_share" p__law_some_share F__law_some_share := by
  have sc := sc__law_some_share
  refine good_of (k := 2) (N := N__law_some_share) F hm sc__law_some_share (fun _ _ _ _ _ _ us hl => match us, hl with | [_, _], _ => rfl) fun cdv A outer s H E hr => ?_
  exact dss_cons (ds_set (i := 2) sc.nd (de_tup (da_nil))) (dss_cons (ds_for (vs := [3, 4]) .never rfl (di_seq (de_ix (de_var (i := 1)) (de_int))) (dg_tup (n := 2) rfl (dgs_cons (dg_name (i := 3) sc.nd) (dgs_cons (dg_name (i := 4) sc.nd) (dgs_nil))) (gs_lenS (gs_lenS (gs_len0)))) (dss_cons (ds_setLc (i := 5) (own := [("own", 6)]) rfl sc.nd (blkOk_by (by kernel_rfl)) (di_seq (de_var (i := 4))) (fun s H C cl fp => dg_name (i := 6) sc.nd) (fun s H C cl fp => dts_one (dt_cmp (of_notIn hr.units) (de_var (i := 6)) (de_lc (own := [("pair", 7)]) rfl sc.nd (blkOk_by (by kernel_rfl)) (di_seq (de_var (i := 2))) (fun s H C cl fp => dg_name (i := 7) sc.nd) (fun s H C cl fp => dts_nil) (fun s H C cl fp => de_ix (de_var (i := 7)) (de_int))))) (fun s H C cl fp => de_var (i := 6)) (sw_true rfl rfl (by rfl) (by rfl))) (dss_one (ds_if ((dw_and (dt_cmp (of_ne hr.units) (de_var (i := 5)) (de_lst (da_nil))) (dw_and1 (dt_cmp (of_gt) (de_call g__law_draw (hr.mono (by omega)) (da_cons (de_var (i := 0)) (da_cons (de_int) (da_nil)))) (de_int)))).dt) (dss_one (ds_set (i := 2) sc.nd (de_bin (of_add) (de_var (i := 2)) (de_tup (da_cons (de_tup (da_cons (de_var (i := 3)) (da_cons (de_call g__law_pick (hr.mono (by omega)) (da_cons (de_var (i := 0)) (da_cons (de_var (i := 5)) (da_nil)))) (da_nil)))) (da_nil)))))) (dss_nil))))) (dss_one (ds_ret (de_var (i := 2)))))
/-! ### _law_share_right -/
abbrev st__law_share_right : Stmt := top 38
abbrev N__law_share_right : List Str := ["things", "thing", "lists", "pair", "person", "own"]
abbrev p__law_share_right : List Str := ["things", "thing"]
theorem sc__law_share_right : FnScope N__law_share_right p__law_share_right (defScope st__law_share_right) := ⟨rfl, rfl, rfl, by decide +kernel, rfl, by decide +kernel, by decide +kernel⟩
def b__law_share_right : MS := sSeq (sIf (mOr (mNot (mB (eUn (fIsInst .tup) (eVar 1)))) (mB (eBin fNe (eLc (iSeq (eVar 1)) (gName 3) (mOr (mNot (mB (eUn (fIsInst .tup) (eVar 3)))) (mOr (mB (eBin fNe (eCall fLen (aCons (eVar 3) (aNil))) (eC (.int 2)))) (mOr (mNot (mB (eUn (fIsInst .str) (eBin fIxD (eVar 3) (eC (.int 0)))))) (mNot (mB (eUn (fIsInst .str) (eBin fIxD (eVar 3) (eC (.int 1))))))))) (eC (.int 1)) [3]) (eLst (aNil))))) (sRet (eC (.bl false))) (sNil)) (sSeq (sSet 2 (eCall fDictA (aCons (eBin fIxD (eVar 0) (eC (.int 1))) (aNil)))) (sSeq (sIf (mOr (mB (eBin fNe (eLc (iSeq (eVar 1)) (gTup (gsCons (gName 4) (gsCons (gName 5) (gsNil)))) (mOr (mB (eBin fNotInD (eVar 4) (eVar 2))) (mB (eBin fNotInD (eVar 5) (eBin fIxD (eVar 2) (eVar 4))))) (eC (.int 1)) [4, 5]) (eLst (aNil)))) (mB (eBin fNe (eCall fList (aCons (eVar 1) (aNil))) (eCall fSortedT (aCons (eVar 1) (aNil)))))) (sRet (eC (.bl false))) (sNil)) (sRet (eAnd (eBin fEq (eUn fLenSet (eLc (iSeq (eVar 1)) (gName 3) (mYes) (eBin fIxD (eVar 3) (eC (.int 0))) [3])) (eCall fLen (aCons (eVar 1) (aNil)))) (eBin fEq (eUn fLenSet (eLc (iSeq (eVar 1)) (gName 3) (mYes) (eBin fIxD (eVar 3) (eC (.int 1))) [3])) (eCall fLen (aCons (eVar 1) (aNil))))))))
def F__law_share_right : Fn := runB b__law_share_right 4
theorem good__law_share_right {P : Program} {w : World} {K : PySem.W.Frag} {mg : Str → Option Value} {base : Heap} {f : Addr} {fd : FuncData} (fx : Fx K mg) (F : FunD K "_law_share_right" "_law_share_right" (defArgs st__law_share_right) (defBody st__law_share_right) (defScope st__law_share_right) [] [] f fd) (hm : mg "_law_share_right" = some (.ref f))  :
    GoodFn P w K mg base 1 "_law_share_right" p__law_share_right F__law_share_right := by
  have sc := sc__law_share_right
  refine good_of (k := 0) (N := N__law_share_right) F hm sc__law_share_right (fun _ _ _ _ _ _ us hl => match us, hl with | [_, _], _ => rfl) fun cdv A outer s H E hr => ?_
  exact dss_cons (ds_if ((dw_or (dt_not (dt_val (de_isinst (c := .tup) fx.b_isinstance (de_var (i := 1)) fx.b_tuple (by decide +kernel)))) (dw_or1 (dt_cmp (of_ne hr.units) (de_lc (own := [("pair", 3)]) rfl sc.nd (blkOk_by (by kernel_rfl)) (di_seq (de_var (i := 1))) (fun s H C cl fp => dg_name (i := 3) sc.nd) (fun s H C cl fp => dts_one ((dw_or (dt_not (dt_val (de_isinst (c := .tup) fx.b_isinstance (de_var (i := 3)) fx.b_tuple (by decide +kernel)))) (dw_or (dt_cmp (of_ne hr.units) (de_callB (cf_len) fx.b_len (by decide +kernel) (da_cons (de_var (i := 3)) (da_nil))) (de_int)) (dw_or (dt_not (dt_val (de_isinst (c := .str) fx.b_isinstance (de_ixD hr.units (de_var (i := 3)) (de_int)) fx.b_str (by decide +kernel)))) (dw_or1 (dt_not (dt_val (de_isinst (c := .str) fx.b_isinstance (de_ixD hr.units (de_var (i := 3)) (de_int)) fx.b_str (by decide +kernel)))))))).dt)) (fun s H C cl fp => de_int)) (de_lst (da_nil))))).dt) (dss_one (ds_ret (de_bl))) (dss_nil)) (dss_cons (ds_set (i := 2) sc.nd (de_callTy (cf_dictA rfl) fx.b_dict (by decide +kernel) (da_cons (de_ixD hr.units (de_var (i := 0)) (de_int)) (da_nil)))) (dss_cons (ds_if ((dw_or (dt_cmp (of_ne hr.units) (de_lc (own := [("person", 4), ("own", 5)]) rfl sc.nd (blkOk_by (by kernel_rfl)) (di_seq (de_var (i := 1))) (fun s H C cl fp => dg_tup (n := 2) rfl (dgs_cons (dg_name (i := 4) sc.nd) (dgs_cons (dg_name (i := 5) sc.nd) (dgs_nil))) (gs_lenS (gs_lenS (gs_len0)))) (fun s H C cl fp => dts_one ((dw_or (dt_cmp (of_notInD hr.units) (de_var (i := 4)) (de_var (i := 2))) (dw_or1 (dt_cmp (of_notInD hr.units) (de_var (i := 5)) (de_ixD hr.units (de_var (i := 2)) (de_var (i := 4)))))).dt)) (fun s H C cl fp => de_int)) (de_lst (da_nil))) (dw_or1 (dt_cmp (of_ne hr.units) (de_callTy (cf_list rfl) fx.b_list (by decide +kernel) (da_cons (de_var (i := 1)) (da_nil))) (de_callB (cf_sortedT (u66 hr)) fx.b_sorted (by decide +kernel) (da_cons (de_var (i := 1)) (da_nil)))))).dt) (dss_one (ds_ret (de_bl))) (dss_nil)) (dss_one (ds_ret (de_and (de_cmp (of_eq hr.units) (de_lenSet fx.b_len fx.b_set rfl hr (de_lc (own := [("pair", 3)]) rfl sc.nd (blkOk_by (by kernel_rfl)) (di_seq (de_var (i := 1))) (fun s H C cl fp => dg_name (i := 3) sc.nd) (fun s H C cl fp => dts_nil) (fun s H C cl fp => de_ixD hr.units (de_var (i := 3)) (de_int)))) (de_callB (cf_len) fx.b_len (by decide +kernel) (da_cons (de_var (i := 1)) (da_nil)))) (de_one (de_cmp (of_eq hr.units) (de_lenSet fx.b_len fx.b_set rfl hr (de_lc (own := [("pair", 3)]) rfl sc.nd (blkOk_by (by kernel_rfl)) (di_seq (de_var (i := 1))) (fun s H C cl fp => dg_name (i := 3) sc.nd) (fun s H C cl fp => dts_nil) (fun s H C cl fp => de_ixD hr.units (de_var (i := 3)) (de_int)))) (de_callB (cf_len) fx.b_len (by decide +kernel) (da_cons (de_var (i := 1)) (da_nil))))))))))
/-! ### are_pairs -/
abbrev st_are_pairs : Stmt := top 12
abbrev N_are_pairs : List Str := ["thing", "pair", "seconds"]
abbrev p_are_pairs : List Str := ["thing"]
theorem sc_are_pairs : FnScope N_are_pairs p_are_pairs (defScope st_are_pairs) := ⟨rfl, rfl, rfl, by decide +kernel, rfl, by decide +kernel, by decide +kernel⟩
def b_are_pairs : MS := sSeq (sIf (mNot (mB (eUn (fIsInst .tup) (eVar 0)))) (sRet (eC (.bl false))) (sNil)) (sSeq (sFor (iSeq (eVar 0)) (gName 1) (sSeq (sIf (mOr (mNot (mB (eUn (fIsInst .tup) (eVar 1)))) (mB (eBin fNe (eCall fLen (aCons (eVar 1) (aNil))) (eC (.int 2))))) (sRet (eC (.bl false))) (sNil)) (sIf (mOr (mNot (mB (eUn (fIsInst .str) (eBin fIx (eVar 1) (eC (.int 0)))))) (mNot (mB (eUn (fIsInst .str) (eBin fIx (eVar 1) (eC (.int 1))))))) (sRet (eC (.bl false))) (sNil)))) (sSeq (sSet 2 (eLc (iSeq (eVar 0)) (gName 1) (mYes) (eBin fIx (eVar 1) (eC (.int 1))) [1])) (sRet (eAnd (eCallF 1 F_is_ascending (aCons (eLc (iSeq (eVar 0)) (gName 1) (mYes) (eBin fIx (eVar 1) (eC (.int 0))) [1]) (aNil))) (eBin fEq (eUn fLenSet (eVar 2)) (eCall fLen (aCons (eVar 2) (aNil))))))))
def F_are_pairs : Fn := runB b_are_pairs 2
theorem good_are_pairs {P : Program} {w : World} {K : PySem.W.Frag} {mg : Str → Option Value} {base : Heap} {f : Addr} {fd : FuncData} (fx : Fx K mg) (F : FunD K "are_pairs" "are_pairs" (defArgs st_are_pairs) (defBody st_are_pairs) (defScope st_are_pairs) [] [] f fd) (hm : mg "are_pairs" = some (.ref f)) (g_is_ascending : GoodFn P w K mg base 1 "is_ascending" p_is_ascending F_is_ascending) :
    GoodFn P w K mg base 2 "are_pairs" p_are_pairs F_are_pairs := by
  have sc := sc_are_pairs
  refine good_of (k := 1) (N := N_are_pairs) F hm sc_are_pairs (fun _ _ _ _ _ _ us hl => match us, hl with | [_], _ => rfl) fun cdv A outer s H E hr => ?_
  exact dss_cons (ds_if (dt_not (dt_val (de_isinst (c := .tup) fx.b_isinstance (de_var (i := 0)) fx.b_tuple (by decide +kernel)))) (dss_one (ds_ret (de_bl))) (dss_nil)) (dss_cons (ds_for (vs := [1]) .never rfl (di_seq (de_var (i := 0))) (dg_name (i := 1) sc.nd) (dss_cons (ds_if ((dw_or (dt_not (dt_val (de_isinst (c := .tup) fx.b_isinstance (de_var (i := 1)) fx.b_tuple (by decide +kernel)))) (dw_or1 (dt_cmp (of_ne hr.units) (de_callB (cf_len) fx.b_len (by decide +kernel) (da_cons (de_var (i := 1)) (da_nil))) (de_int)))).dt) (dss_one (ds_ret (de_bl))) (dss_nil)) (dss_one (ds_if ((dw_or (dt_not (dt_val (de_isinst (c := .str) fx.b_isinstance (de_ix (de_var (i := 1)) (de_int)) fx.b_str (by decide +kernel)))) (dw_or1 (dt_not (dt_val (de_isinst (c := .str) fx.b_isinstance (de_ix (de_var (i := 1)) (de_int)) fx.b_str (by decide +kernel)))))).dt) (dss_one (ds_ret (de_bl))) (dss_nil))))) (dss_cons (ds_setLc (i := 2) (own := [("pair", 1)]) rfl sc.nd (blkOk_by (by kernel_rfl)) (di_seq (de_var (i := 0))) (fun s H C cl fp => dg_name (i := 1) sc.nd) (fun s H C cl fp => dts_nil) (fun s H C cl fp => de_ix (de_var (i := 1)) (de_int)) (sw_true rfl rfl (by rfl) (by rfl))) (dss_one (ds_ret (de_and (de_call g_is_ascending (hr.mono (by omega)) (da_cons (de_lc (own := [("pair", 1)]) rfl sc.nd (blkOk_by (by kernel_rfl)) (di_seq (de_var (i := 0))) (fun s H C cl fp => dg_name (i := 1) sc.nd) (fun s H C cl fp => dts_nil) (fun s H C cl fp => de_ix (de_var (i := 1)) (de_int))) (da_nil))) (de_one (de_cmp (of_eq hr.units) (de_lenSet fx.b_len fx.b_set rfl hr (de_var (i := 2))) (de_callB (cf_len) fx.b_len (by decide +kernel) (da_cons (de_var (i := 2)) (da_nil))))))))))
/-! ### lists_of -/
abbrev st_lists_of : Stmt := top 13
abbrev N_lists_of : List Str := ["rows", "name", "wishes"]
abbrev p_lists_of : List Str := ["rows"]
theorem sc_lists_of : FnScope N_lists_of p_lists_of (defScope st_lists_of) := ⟨rfl, rfl, rfl, by decide +kernel, rfl, by decide +kernel, by decide +kernel⟩
def b_lists_of : MS := sRet (eDc (iSeq (eVar 0)) (gTup (gsCons (gName 1) (gsCons (gName 2) (gsNil)))) (mYes) (eVar 1) (eVar 2) [1, 2])
def F_lists_of : Fn := runB b_lists_of 2
theorem good_lists_of {P : Program} {w : World} {K : PySem.W.Frag} {mg : Str → Option Value} {base : Heap} {f : Addr} {fd : FuncData} (fx : Fx K mg) (F : FunD K "lists_of" "lists_of" (defArgs st_lists_of) (defBody st_lists_of) (defScope st_lists_of) [] [] f fd) (hm : mg "lists_of" = some (.ref f))  :
    GoodFn P w K mg base 1 "lists_of" p_lists_of F_lists_of := by
  have sc := sc_lists_of
  refine good_of (k := 0) (N := N_lists_of) F hm sc_lists_of (fun _ _ _ _ _ _ us hl => match us, hl with | [_], _ => rfl) fun cdv A outer s H E hr => ?_
  exact dss_one (ds_ret (de_dc (own := [("name", 1), ("wishes", 2)]) rfl sc.nd (blkOk_by (by kernel_rfl)) (di_seq (de_var (i := 0))) (fun s H C cl fp => dg_tup (n := 2) rfl (dgs_cons (dg_name (i := 1) sc.nd) (dgs_cons (dg_name (i := 2) sc.nd) (dgs_nil))) (gs_lenS (gs_lenS (gs_len0)))) (fun s H C cl fp => dts_nil) (fun s H C cl fp => de_var (i := 1)) (fun s H C cl fp => de_var (i := 2))))
/-! ### is_share -/
abbrev st_is_share : Stmt := top 20
abbrev N_is_share : List Str := ["things", "thing", "lists", "person", "ware"]
abbrev p_is_share : List Str := ["things", "thing"]
theorem sc_is_share : FnScope N_is_share p_is_share (defScope st_is_share) := ⟨rfl, rfl, rfl, by decide +kernel, rfl, by decide +kernel, by decide +kernel⟩
def b_is_share : MS := sSeq (sIf (mNot (mB (eCallF 1 F_are_pairs (aCons (eVar 1) (aNil))))) (sRet (eC (.bl false))) (sNil)) (sSeq (sSet 2 (eCallF 1 F_lists_of (aCons (eBin fIxD (eVar 0) (eC (.int 1))) (aNil)))) (sSeq (sFor (iSeq (eVar 1)) (gTup (gsCons (gName 3) (gsCons (gName 4) (gsNil)))) (sIf (mOr (mB (eBin fNotInD (eVar 3) (eVar 2))) (mB (eBin fNotInD (eVar 4) (eBin fIxD (eVar 2) (eVar 3))))) (sRet (eC (.bl false))) (sNil))) (sRet (eC (.bl true)))))
def F_is_share : Fn := runB b_is_share 3
theorem good_is_share {P : Program} {w : World} {K : PySem.W.Frag} {mg : Str → Option Value} {base : Heap} {f : Addr} {fd : FuncData} (fx : Fx K mg) (F : FunD K "is_share" "is_share" (defArgs st_is_share) (defBody st_is_share) (defScope st_is_share) [] [] f fd) (hm : mg "is_share" = some (.ref f)) (g_are_pairs : GoodFn P w K mg base 2 "are_pairs" p_are_pairs F_are_pairs) (g_lists_of : GoodFn P w K mg base 1 "lists_of" p_lists_of F_lists_of) :
    GoodFn P w K mg base 3 "is_share" p_is_share F_is_share := by
  have sc := sc_is_share
  refine good_of (k := 2) (N := N_is_share) F hm sc_is_share (fun _ _ _ _ _ _ us hl => match us, hl with | [_, _], _ => rfl) fun cdv A outer s H E hr => ?_
  exact dss_cons (ds_if (dt_not (dt_val (de_call g_are_pairs (hr.mono (by omega)) (da_cons (de_var (i := 1)) (da_nil))))) (dss_one (ds_ret (de_bl))) (dss_nil)) (dss_cons (ds_set (i := 2) sc.nd (de_call g_lists_of (hr.mono (by omega)) (da_cons (de_ixD hr.units (de_var (i := 0)) (de_int)) (da_nil)))) (dss_cons (ds_for (vs := [3, 4]) .never rfl (di_seq (de_var (i := 1))) (dg_tup (n := 2) rfl (dgs_cons (dg_name (i := 3) sc.nd) (dgs_cons (dg_name (i := 4) sc.nd) (dgs_nil))) (gs_lenS (gs_lenS (gs_len0)))) (dss_one (ds_if ((dw_or (dt_cmp (of_notInD hr.units) (de_var (i := 3)) (de_var (i := 2))) (dw_or1 (dt_cmp (of_notInD hr.units) (de_var (i := 4)) (de_ixD hr.units (de_var (i := 2)) (de_var (i := 3)))))).dt) (dss_one (ds_ret (de_bl))) (dss_nil)))) (dss_one (ds_ret (de_bl)))))
/-! ### _law_in_row -/
abbrev st__law_in_row : Stmt := top 42
abbrev N__law_in_row : List Str := ["things", "order", "lists", "taken", "found", "person", "free", "own"]
abbrev p__law_in_row : List Str := ["things", "order"]
theorem sc__law_in_row : FnScope N__law_in_row p__law_in_row (defScope st__law_in_row) := ⟨rfl, rfl, rfl, by decide +kernel, rfl, by decide +kernel, by decide +kernel⟩
def b__law_in_row : MS := sSeq (sAsg (eTup (aCons (eCall fDictA (aCons (eBin fIxD (eVar 0) (eC (.int 1))) (aNil))) (aCons (eLst (aNil)) (aCons (eLst (aNil)) (aNil))))) (gTup (gsCons (gName 2) (gsCons (gName 3) (gsCons (gName 4) (gsNil)))))) (sSeq (sFor (iSeq (eVar 1)) (gName 5) (sSeq (sSet 6 (eLc (iSeq (eBin fIxD (eVar 2) (eVar 5))) (gName 7) (mB (eBin fNotInD (eVar 7) (eVar 3))) (eVar 7) [7])) (sIf (mB (eBin fNe (eVar 6) (eLst (aNil)))) (sSeq (sExpr (eMth msAppend (eVar 3) (aCons (eBin fIxD (eVar 6) (eC (.int 0))) (aNil)))) (sExpr (eMth msAppend (eVar 4) (aCons (eTup (aCons (eVar 5) (aCons (eBin fIxD (eVar 6) (eC (.int 0))) (aNil)))) (aNil))))) (sNil)))) (sRet (eCall fTuple (aCons (eCall fSortedT (aCons (eVar 4) (aNil))) (aNil)))))
def F__law_in_row : Fn := runB b__law_in_row 6
theorem good__law_in_row {P : Program} {w : World} {K : PySem.W.Frag} {mg : Str → Option Value} {base : Heap} {f : Addr} {fd : FuncData} (fx : Fx K mg) (F : FunD K "_law_in_row" "_law_in_row" (defArgs st__law_in_row) (defBody st__law_in_row) (defScope st__law_in_row) [] [] f fd) (hm : mg "_law_in_row" = some (.ref f))  :
    GoodFn P w K mg base 1 "_law_in_row" p__law_in_row F__law_in_row := by
  have sc := sc__law_in_row
  refine good_of (k := 0) (N := N__law_in_row) F hm sc__law_in_row (fun _ _ _ _ _ _ us hl => match us, hl with | [_, _], _ => rfl) fun cdv A outer s H E hr => ?_
  exact dss_cons (ds_asg (vs := [2, 3, 4]) (de_tup (da_cons (de_callTy (cf_dictA rfl) fx.b_dict (by decide +kernel) (da_cons (de_ixD hr.units (de_var (i := 0)) (de_int)) (da_nil))) (da_cons (de_lst (da_nil)) (da_cons (de_lst (da_nil)) (da_nil))))) (dg_tup (n := 3) rfl (dgs_cons (dg_name (i := 2) sc.nd) (dgs_cons (dg_name (i := 3) sc.nd) (dgs_cons (dg_name (i := 4) sc.nd) (dgs_nil)))) (gs_lenS (gs_lenS (gs_lenS (gs_len0)))))) (dss_cons (ds_for (vs := [5]) .never rfl (di_seq (de_var (i := 1))) (dg_name (i := 5) sc.nd) (dss_cons (ds_setLc (i := 6) (own := [("own", 7)]) rfl sc.nd (blkOk_by (by kernel_rfl)) (di_seq (de_ixD hr.units (de_var (i := 2)) (de_var (i := 5)))) (fun s H C cl fp => dg_name (i := 7) sc.nd) (fun s H C cl fp => dts_one (dt_cmp (of_notInD hr.units) (de_var (i := 7)) (de_var (i := 3)))) (fun s H C cl fp => de_var (i := 7)) (sw_true rfl rfl (by rfl) (by rfl))) (dss_one (ds_if (dt_cmp (of_ne hr.units) (de_var (i := 6)) (de_lst (da_nil))) (dss_cons (ds_expr (de_mth mts_append rfl (de_var (i := 3)) (da_cons (de_ixD hr.units (de_var (i := 6)) (de_int)) (da_nil)))) (dss_one (ds_expr (de_mth mts_append rfl (de_var (i := 4)) (da_cons (de_tup (da_cons (de_var (i := 5)) (da_cons (de_ixD hr.units (de_var (i := 6)) (de_int)) (da_nil)))) (da_nil)))))) (dss_nil))))) (dss_one (ds_ret (de_callTy (cf_tuple) fx.b_tuple (by decide +kernel) (da_cons (de_callB (cf_sortedT (u66 hr)) fx.b_sorted (by decide +kernel) (da_cons (de_var (i := 4)) (da_nil))) (da_nil))))))
/-! ### row_pairs -/
abbrev st_row_pairs : Stmt := top 15
abbrev N_row_pairs : List Str := ["lists", "order", "taken", "pairs", "person", "ware"]
abbrev p_row_pairs : List Str := ["lists", "order"]
theorem sc_row_pairs : FnScope N_row_pairs p_row_pairs (defScope st_row_pairs) := ⟨rfl, rfl, rfl, by decide +kernel, rfl, by decide +kernel, by decide +kernel⟩
def b_row_pairs : MS := sSeq (sSet 2 (eDicN)) (sSeq (sSet 3 (eLst (aNil))) (sSeq (sFor (iSeq (eVar 1)) (gName 4) (sFor (iSeq (eBin fIxD (eVar 0) (eVar 4))) (gName 5) (sIf (mB (eBin fNotInD (eVar 5) (eVar 2))) (sSeq (sAsg (eC (.bl true)) (gSub fSetD (eVar 2) (eVar 5))) (sSeq (sExpr (eMth msAppend (eVar 3) (aCons (eTup (aCons (eVar 4) (aCons (eVar 5) (aNil)))) (aNil)))) (sBreak))) (sNil)))) (sRet (eCall fTuple (aCons (eCall fSortedT (aCons (eVar 3) (aNil))) (aNil))))))
def F_row_pairs : Fn := runB b_row_pairs 4
theorem good_row_pairs {P : Program} {w : World} {K : PySem.W.Frag} {mg : Str → Option Value} {base : Heap} {f : Addr} {fd : FuncData} (fx : Fx K mg) (F : FunD K "row_pairs" "row_pairs" (defArgs st_row_pairs) (defBody st_row_pairs) (defScope st_row_pairs) [] [] f fd) (hm : mg "row_pairs" = some (.ref f))  :
    GoodFn P w K mg base 1 "row_pairs" p_row_pairs F_row_pairs := by
  have sc := sc_row_pairs
  refine good_of (k := 0) (N := N_row_pairs) F hm sc_row_pairs (fun _ _ _ _ _ _ us hl => match us, hl with | [_, _], _ => rfl) fun cdv A outer s H E hr => ?_
  exact dss_cons (ds_set (i := 2) sc.nd (de_dicN)) (dss_cons (ds_set (i := 3) sc.nd (de_lst (da_nil))) (dss_cons (ds_for (vs := [4]) .never rfl (di_seq (de_var (i := 1))) (dg_name (i := 4) sc.nd) (dss_one (ds_for (vs := [5]) .never rfl (di_seq (de_ixD hr.units (de_var (i := 0)) (de_var (i := 4)))) (dg_name (i := 5) sc.nd) (dss_one (ds_if (dt_cmp (of_notInD hr.units) (de_var (i := 5)) (de_var (i := 2))) (dss_cons (ds_asg (vs := []) (de_bl) (dg_sub (set_D hr.units) (de_var (i := 2)) (de_var (i := 5)))) (dss_cons (ds_expr (de_mth mts_append rfl (de_var (i := 3)) (da_cons (de_tup (da_cons (de_var (i := 4)) (da_cons (de_var (i := 5)) (da_nil)))) (da_nil)))) (dss_one (ds_break)))) (dss_nil)))))) (dss_one (ds_ret (de_callTy (cf_tuple) fx.b_tuple (by decide +kernel) (da_cons (de_callB (cf_sortedT (u66 hr)) fx.b_sorted (by decide +kernel) (da_cons (de_var (i := 3)) (da_nil))) (da_nil)))))))
/-! ### in_row -/
abbrev st_in_row : Stmt := top 21
abbrev N_in_row : List Str := ["things", "order"]
abbrev p_in_row : List Str := ["things", "order"]
theorem sc_in_row : FnScope N_in_row p_in_row (defScope st_in_row) := ⟨rfl, rfl, rfl, by decide +kernel, rfl, by decide +kernel, by decide +kernel⟩
def b_in_row : MS := sRet (eCallF 2 F_row_pairs (aCons (eCallF 1 F_lists_of (aCons (eBin fIxD (eVar 0) (eC (.int 1))) (aNil))) (aCons (eVar 1) (aNil))))
def F_in_row : Fn := runB b_in_row 0
theorem good_in_row {P : Program} {w : World} {K : PySem.W.Frag} {mg : Str → Option Value} {base : Heap} {f : Addr} {fd : FuncData} (fx : Fx K mg) (F : FunD K "in_row" "in_row" (defArgs st_in_row) (defBody st_in_row) (defScope st_in_row) [] [] f fd) (hm : mg "in_row" = some (.ref f)) (g_lists_of : GoodFn P w K mg base 1 "lists_of" p_lists_of F_lists_of) (g_row_pairs : GoodFn P w K mg base 1 "row_pairs" p_row_pairs F_row_pairs) :
    GoodFn P w K mg base 2 "in_row" p_in_row F_in_row := by
  have sc := sc_in_row
  refine good_of (k := 1) (N := N_in_row) F hm sc_in_row (fun _ _ _ _ _ _ us hl => match us, hl with | [_, _], _ => rfl) fun cdv A outer s H E hr => ?_
  exact dss_one (ds_ret (de_call g_row_pairs (hr.mono (by omega)) (da_cons (de_call g_lists_of (hr.mono (by omega)) (da_cons (de_ixD hr.units (de_var (i := 0)) (de_int)) (da_nil))) (da_cons (de_var (i := 1)) (da_nil)))))
/-! ### _law_vote -/
abbrev st__law_vote : Stmt := top 40
abbrev N__law_vote : List Str := ["things", "person", "one", "other", "row"]
abbrev p__law_vote : List Str := ["things", "person", "one", "other"]
theorem sc__law_vote : FnScope N__law_vote p__law_vote (defScope st__law_vote) := ⟨rfl, rfl, rfl, by decide +kernel, rfl, by decide +kernel, by decide +kernel⟩
def b__law_vote : MS := sSeq (sIf (mB (eBin fEq (eVar 2) (eVar 3))) (sRet (eC (.int 0))) (sNil)) (sSeq (sSet 4 (eBin fIxD (eCall fDictA (aCons (eBin fIxD (eVar 0) (eC (.int 1))) (aNil))) (eVar 1))) (sRet (eIf (mOr (mB (eBin fIs (eVar 3) (eC .non))) (mAnd (mB (eBin fIsNot (eVar 2) (eC .non))) (mB (eBin fLt (eMth msIndex (eVar 4) (aCons (eVar 2) (aNil))) (eMth msIndex (eVar 4) (aCons (eVar 3) (aNil))))))) (eC (.int 1)) (eUn fNeg (eC (.int 1))))))
def F__law_vote : Fn := runB b__law_vote 1
theorem good__law_vote {P : Program} {w : World} {K : PySem.W.Frag} {mg : Str → Option Value} {base : Heap} {f : Addr} {fd : FuncData} (fx : Fx K mg) (F : FunD K "_law_vote" "_law_vote" (defArgs st__law_vote) (defBody st__law_vote) (defScope st__law_vote) [] [] f fd) (hm : mg "_law_vote" = some (.ref f))  :
    GoodFn P w K mg base 1 "_law_vote" p__law_vote F__law_vote := by
  have sc := sc__law_vote
  refine good_of (k := 0) (N := N__law_vote) F hm sc__law_vote (fun _ _ _ _ _ _ us hl => match us, hl with | [_, _, _, _], _ => rfl) fun cdv A outer s H E hr => ?_
  exact dss_cons (ds_if (dt_cmp (of_eq hr.units) (de_var (i := 2)) (de_var (i := 3))) (dss_one (ds_ret (de_int))) (dss_nil)) (dss_cons (ds_set (i := 4) sc.nd (de_ixD hr.units (de_callTy (cf_dictA rfl) fx.b_dict (by decide +kernel) (da_cons (de_ixD hr.units (de_var (i := 0)) (de_int)) (da_nil))) (de_var (i := 1)))) (dss_one (ds_ret (de_if ((dw_or (dt_cmp (of_is) (de_var (i := 3)) (de_non)) (dw_or1 ((dw_and (dt_cmp (of_isNot) (de_var (i := 2)) (de_non)) (dw_and1 (dt_cmp (of_lt hr.units) (de_mth mts_index rfl (de_var (i := 4)) (da_cons (de_var (i := 2)) (da_nil))) (de_mth mts_index rfl (de_var (i := 4)) (da_cons (de_var (i := 3)) (da_nil)))))).dt))).dt) (de_int) (de_neg (de_int))))))
/-! ### _law_votes -/
abbrev st__law_votes : Stmt := top 41
abbrev N__law_votes : List Str := ["things", "one", "other", "found", "person", "row", "vote"]
abbrev p__law_votes : List Str := ["things", "one", "other"]
theorem sc__law_votes : FnScope N__law_votes p__law_votes (defScope st__law_votes) := ⟨rfl, rfl, rfl, by decide +kernel, rfl, by decide +kernel, by decide +kernel⟩
def b__law_votes : MS := sSeq (sSet 3 (eLc (iSeq (eBin fIxD (eVar 0) (eC (.int 1)))) (gTup (gsCons (gName 4) (gsCons (gName 5) (gsNil)))) (mYes) (eCallF 4 F__law_vote (aCons (eVar 0) (aCons (eVar 4) (aCons (eMth msGet (eCall fDictA (aCons (eVar 1) (aNil))) (aCons (eVar 4) (aNil))) (aCons (eMth msGet (eCall fDictA (aCons (eVar 2) (aNil))) (aCons (eVar 4) (aNil))) (aNil)))))) [4, 5])) (sRet (eTup (aCons (eCall fLen (aCons (eLc (iSeq (eVar 3)) (gName 6) (mB (eBin fGt (eVar 6) (eC (.int 0)))) (eC (.int 1)) [6]) (aNil))) (aCons (eCall fLen (aCons (eLc (iSeq (eVar 3)) (gName 6) (mB (eBin fLt (eVar 6) (eC (.int 0)))) (eC (.int 1)) [6]) (aNil))) (aNil)))))
def F__law_votes : Fn := runB b__law_votes 4
theorem good__law_votes {P : Program} {w : World} {K : PySem.W.Frag} {mg : Str → Option Value} {base : Heap} {f : Addr} {fd : FuncData} (fx : Fx K mg) (F : FunD K "_law_votes" "_law_votes" (defArgs st__law_votes) (defBody st__law_votes) (defScope st__law_votes) [] [] f fd) (hm : mg "_law_votes" = some (.ref f)) (g__law_vote : GoodFn P w K mg base 1 "_law_vote" p__law_vote F__law_vote) :
    GoodFn P w K mg base 2 "_law_votes" p__law_votes F__law_votes := by
  have sc := sc__law_votes
  refine good_of (k := 1) (N := N__law_votes) F hm sc__law_votes (fun _ _ _ _ _ _ us hl => match us, hl with | [_, _, _], _ => rfl) fun cdv A outer s H E hr => ?_
  exact dss_cons (ds_setLc (i := 3) (own := [("person", 4), ("row", 5)]) rfl sc.nd (blkOk_by (by kernel_rfl)) (di_seq (de_ixD hr.units (de_var (i := 0)) (de_int))) (fun s H C cl fp => dg_tup (n := 2) rfl (dgs_cons (dg_name (i := 4) sc.nd) (dgs_cons (dg_name (i := 5) sc.nd) (dgs_nil))) (gs_lenS (gs_lenS (gs_len0)))) (fun s H C cl fp => dts_nil) (fun s H C cl fp => de_call g__law_vote (hr.mono (by omega)) (da_cons (de_var (i := 0)) (da_cons (de_var (i := 4)) (da_cons (de_mth (mts_get hr.units) rfl (de_callTy (cf_dictA rfl) fx.b_dict (by decide +kernel) (da_cons (de_var (i := 1)) (da_nil))) (da_cons (de_var (i := 4)) (da_nil))) (da_cons (de_mth (mts_get hr.units) rfl (de_callTy (cf_dictA rfl) fx.b_dict (by decide +kernel) (da_cons (de_var (i := 2)) (da_nil))) (da_cons (de_var (i := 4)) (da_nil))) (da_nil)))))) (sw_true rfl rfl (by rfl) (by rfl))) (dss_one (ds_ret (de_tup (da_cons (de_callB (cf_len) fx.b_len (by decide +kernel) (da_cons (de_lc (own := [("vote", 6)]) rfl sc.nd (blkOk_by (by kernel_rfl)) (di_seq (de_var (i := 3))) (fun s H C cl fp => dg_name (i := 6) sc.nd) (fun s H C cl fp => dts_one (dt_cmp (of_gt) (de_var (i := 6)) (de_int))) (fun s H C cl fp => de_int)) (da_nil))) (da_cons (de_callB (cf_len) fx.b_len (by decide +kernel) (da_cons (de_lc (own := [("vote", 6)]) rfl sc.nd (blkOk_by (by kernel_rfl)) (di_seq (de_var (i := 3))) (fun s H C cl fp => dg_name (i := 6) sc.nd) (fun s H C cl fp => dts_one (dt_cmp (of_lt hr.units) (de_var (i := 6)) (de_int))) (fun s H C cl fp => de_int)) (da_nil))) (da_nil))))))
/-! ### ware_place -/
abbrev st_ware_place : Stmt := top 16
abbrev N_ware_place : List Str := ["wishes", "ware"]
abbrev p_ware_place : List Str := ["wishes", "ware"]
theorem sc_ware_place : FnScope N_ware_place p_ware_place (defScope st_ware_place) := ⟨rfl, rfl, rfl, by decide +kernel, rfl, by decide +kernel, by decide +kernel⟩
def b_ware_place : MS := sSeq (sIf (mB (eBin fIs (eVar 1) (eC .non))) (sRet (eCall fLen (aCons (eVar 0) (aNil)))) (sNil)) (sRet (eMth msIndex (eVar 0) (aCons (eVar 1) (aNil))))
def F_ware_place : Fn := runB b_ware_place 0
theorem good_ware_place {P : Program} {w : World} {K : PySem.W.Frag} {mg : Str → Option Value} {base : Heap} {f : Addr} {fd : FuncData} (fx : Fx K mg) (F : FunD K "ware_place" "ware_place" (defArgs st_ware_place) (defBody st_ware_place) (defScope st_ware_place) [] [] f fd) (hm : mg "ware_place" = some (.ref f))  :
    GoodFn P w K mg base 1 "ware_place" p_ware_place F_ware_place := by
  have sc := sc_ware_place
  refine good_of (k := 0) (N := N_ware_place) F hm sc_ware_place (fun _ _ _ _ _ _ us hl => match us, hl with | [_, _], _ => rfl) fun cdv A outer s H E hr => ?_
  exact dss_cons (ds_if (dt_cmp (of_is) (de_var (i := 1)) (de_non)) (dss_one (ds_ret (de_callB (cf_len) fx.b_len (by decide +kernel) (da_cons (de_var (i := 0)) (da_nil))))) (dss_nil)) (dss_one (ds_ret (de_mth mts_index rfl (de_var (i := 0)) (da_cons (de_var (i := 1)) (da_nil)))))
/-! ### votes -/
abbrev st_votes : Stmt := top 26
abbrev N_votes : List Str := ["things", "one", "other", "firsts", "seconds", "for_one", "for_other", "person", "wishes", "here", "there", "ware"]
abbrev p_votes : List Str := ["things", "one", "other"]
theorem sc_votes : FnScope N_votes p_votes (defScope st_votes) := ⟨rfl, rfl, rfl, by decide +kernel, rfl, by decide +kernel, by decide +kernel⟩
def b_votes : MS := sSeq (sSet 3 (eDc (iSeq (eVar 1)) (gTup (gsCons (gName 7) (gsCons (gName 11) (gsNil)))) (mYes) (eVar 7) (eVar 11) [7, 11])) (sSeq (sSet 4 (eDc (iSeq (eVar 2)) (gTup (gsCons (gName 7) (gsCons (gName 11) (gsNil)))) (mYes) (eVar 7) (eVar 11) [7, 11])) (sSeq (sSet 5 (eC (.int 0))) (sSeq (sSet 6 (eC (.int 0))) (sSeq (sFor (iSeq (eBin fIxD (eVar 0) (eC (.int 1)))) (gTup (gsCons (gName 7) (gsCons (gName 8) (gsNil)))) (sSeq (sSet 9 (eCallF 2 F_ware_place (aCons (eVar 8) (aCons (eMth msGet (eVar 3) (aCons (eVar 7) (aNil))) (aNil))))) (sSeq (sSet 10 (eCallF 2 F_ware_place (aCons (eVar 8) (aCons (eMth msGet (eVar 4) (aCons (eVar 7) (aNil))) (aNil))))) (sSeq (sIf (mB (eBin fLt (eVar 9) (eVar 10))) (sAug fIAdd 5 (eC (.int 1))) (sNil)) (sIf (mB (eBin fLt (eVar 10) (eVar 9))) (sAug fIAdd 6 (eC (.int 1))) (sNil)))))) (sRet (eTup (aCons (eVar 5) (aCons (eVar 6) (aNil)))))))))
def F_votes : Fn := runB b_votes 9
theorem good_votes {P : Program} {w : World} {K : PySem.W.Frag} {mg : Str → Option Value} {base : Heap} {f : Addr} {fd : FuncData} (fx : Fx K mg) (F : FunD K "votes" "votes" (defArgs st_votes) (defBody st_votes) (defScope st_votes) [] [] f fd) (hm : mg "votes" = some (.ref f)) (g_ware_place : GoodFn P w K mg base 1 "ware_place" p_ware_place F_ware_place) :
    GoodFn P w K mg base 2 "votes" p_votes F_votes := by
  have sc := sc_votes
  refine good_of (k := 1) (N := N_votes) F hm sc_votes (fun _ _ _ _ _ _ us hl => match us, hl with | [_, _, _], _ => rfl) fun cdv A outer s H E hr => ?_
  exact dss_cons (ds_setDc (i := 3) (own := [("person", 7), ("ware", 11)]) rfl sc.nd (blkOk_by (by kernel_rfl)) (di_seq (de_var (i := 1))) (fun s H C cl fp => dg_tup (n := 2) rfl (dgs_cons (dg_name (i := 7) sc.nd) (dgs_cons (dg_name (i := 11) sc.nd) (dgs_nil))) (gs_lenS (gs_lenS (gs_len0)))) (fun s H C cl fp => dts_nil) (fun s H C cl fp => de_var (i := 7)) (fun s H C cl fp => de_var (i := 11)) (swD_true rfl rfl (by rfl) (by rfl))) (dss_cons (ds_setDc (i := 4) (own := [("person", 7), ("ware", 11)]) rfl sc.nd (blkOk_by (by kernel_rfl)) (di_seq (de_var (i := 2))) (fun s H C cl fp => dg_tup (n := 2) rfl (dgs_cons (dg_name (i := 7) sc.nd) (dgs_cons (dg_name (i := 11) sc.nd) (dgs_nil))) (gs_lenS (gs_lenS (gs_len0)))) (fun s H C cl fp => dts_nil) (fun s H C cl fp => de_var (i := 7)) (fun s H C cl fp => de_var (i := 11)) (swD_true rfl rfl (by rfl) (by rfl))) (dss_cons (ds_set (i := 5) sc.nd (de_int)) (dss_cons (ds_set (i := 6) sc.nd (de_int)) (dss_cons (ds_for (vs := [7, 8]) .never rfl (di_seq (de_ixD hr.units (de_var (i := 0)) (de_int))) (dg_tup (n := 2) rfl (dgs_cons (dg_name (i := 7) sc.nd) (dgs_cons (dg_name (i := 8) sc.nd) (dgs_nil))) (gs_lenS (gs_lenS (gs_len0)))) (dss_cons (ds_set (i := 9) sc.nd (de_call g_ware_place (hr.mono (by omega)) (da_cons (de_var (i := 8)) (da_cons (de_mth (mts_get hr.units) rfl (de_var (i := 3)) (da_cons (de_var (i := 7)) (da_nil))) (da_nil))))) (dss_cons (ds_set (i := 10) sc.nd (de_call g_ware_place (hr.mono (by omega)) (da_cons (de_var (i := 8)) (da_cons (de_mth (mts_get hr.units) rfl (de_var (i := 4)) (da_cons (de_var (i := 7)) (da_nil))) (da_nil))))) (dss_cons (ds_if (dt_cmp (of_lt hr.units) (de_var (i := 9)) (de_var (i := 10))) (dss_one (ds_aug (i := 5) sc.nd of_iadd (de_int))) (dss_nil)) (dss_one (ds_if (dt_cmp (of_lt hr.units) (de_var (i := 10)) (de_var (i := 9))) (dss_one (ds_aug (i := 6) sc.nd of_iadd (de_int))) (dss_nil))))))) (dss_one (ds_ret (de_tup (da_cons (de_var (i := 5)) (da_cons (de_var (i := 6)) (da_nil))))))))))
/-! ### _law_signature -/
abbrev st__law_signature : Stmt := top 43
abbrev N__law_signature : List Str := ["things", "share", "own", "found", "person", "row"]
abbrev p__law_signature : List Str := ["things", "share"]
theorem sc__law_signature : FnScope N__law_signature p__law_signature (defScope st__law_signature) := ⟨rfl, rfl, rfl, by decide +kernel, rfl, by decide +kernel, by decide +kernel⟩
def b__law_signature : MS := sSeq (sPar 2 3 (aCons (eCall fDictA (aCons (eVar 1) (aNil))) (aCons (eBin fMulL (eLst (aCons (eC (.int 0)) (aNil))) (eCall fMax (aCons (eBin fAdd (eLst (aCons (eC (.int 0)) (aNil))) (eLc (iSeq (eBin fIxD (eVar 0) (eC (.int 1)))) (gTup (gsCons (gName 4) (gsCons (gName 5) (gsNil)))) (mYes) (eCall fLen (aCons (eVar 5) (aNil))) [4, 5])) (aNil)))) (aNil)))) (sSeq (sFor (iSeq (eBin fIxD (eVar 0) (eC (.int 1)))) (gTup (gsCons (gName 4) (gsCons (gName 5) (gsNil)))) (sIf (mB (eBin fInD (eVar 4) (eVar 2))) (sAsg (eBin fAdd (eBin fIxD (eVar 3) (eMth msIndex (eVar 5) (aCons (eBin fIxD (eVar 2) (eVar 4)) (aNil)))) (eC (.int 1))) (gSub fSetD (eVar 3) (eMth msIndex (eVar 5) (aCons (eBin fIxD (eVar 2) (eVar 4)) (aNil))))) (sNil))) (sRet (eCall fTuple (aCons (eVar 3) (aNil)))))
def F__law_signature : Fn := runB b__law_signature 4
theorem good__law_signature {P : Program} {w : World} {K : PySem.W.Frag} {mg : Str → Option Value} {base : Heap} {f : Addr} {fd : FuncData} (fx : Fx K mg) (F : FunD K "_law_signature" "_law_signature" (defArgs st__law_signature) (defBody st__law_signature) (defScope st__law_signature) [] [] f fd) (hm : mg "_law_signature" = some (.ref f))  :
    GoodFn P w K mg base 1 "_law_signature" p__law_signature F__law_signature := by
  have sc := sc__law_signature
  refine good_of (k := 0) (N := N__law_signature) F hm sc__law_signature (fun _ _ _ _ _ _ us hl => match us, hl with | [_, _], _ => rfl) fun cdv A outer s H E hr => ?_
  exact dss_cons (ds_par (i := 2) (j := 3) rfl sc.nd (da_cons (de_callTy (cf_dictA rfl) fx.b_dict (by decide +kernel) (da_cons (de_var (i := 1)) (da_nil))) (da_cons (de_bin (of_mulL) (de_lst (da_cons (de_int) (da_nil))) (de_callB (cf_max rfl) fx.b_max (by decide +kernel) (da_cons (de_bin (of_add) (de_lst (da_cons (de_int) (da_nil))) (de_lc (own := [("person", 4), ("row", 5)]) rfl sc.nd (blkOk_by (by kernel_rfl)) (di_seq (de_ixD hr.units (de_var (i := 0)) (de_int))) (fun s H C cl fp => dg_tup (n := 2) rfl (dgs_cons (dg_name (i := 4) sc.nd) (dgs_cons (dg_name (i := 5) sc.nd) (dgs_nil))) (gs_lenS (gs_lenS (gs_len0)))) (fun s H C cl fp => dts_nil) (fun s H C cl fp => de_callB (cf_len) fx.b_len (by decide +kernel) (da_cons (de_var (i := 5)) (da_nil))))) (da_nil)))) (da_nil)))) (dss_cons (ds_for (vs := [4, 5]) .never rfl (di_seq (de_ixD hr.units (de_var (i := 0)) (de_int))) (dg_tup (n := 2) rfl (dgs_cons (dg_name (i := 4) sc.nd) (dgs_cons (dg_name (i := 5) sc.nd) (dgs_nil))) (gs_lenS (gs_lenS (gs_len0)))) (dss_one (ds_if (dt_cmp (of_inD hr.units) (de_var (i := 4)) (de_var (i := 2))) (dss_one (ds_asg (vs := []) (de_bin (of_add) (de_ixD hr.units (de_var (i := 3)) (de_mth mts_index rfl (de_var (i := 5)) (da_cons (de_ixD hr.units (de_var (i := 2)) (de_var (i := 4))) (da_nil)))) (de_int)) (dg_sub (set_D hr.units) (de_var (i := 3)) (de_mth mts_index rfl (de_var (i := 5)) (da_cons (de_ixD hr.units (de_var (i := 2)) (de_var (i := 4))) (da_nil)))))) (dss_nil)))) (dss_one (ds_ret (de_callTy (cf_tuple) fx.b_tuple (by decide +kernel) (da_cons (de_var (i := 3)) (da_nil))))))
/-! ### _longest -/
abbrev st__longest : Stmt := top 23
abbrev N__longest : List Str := ["things", "row"]
abbrev p__longest : List Str := ["things"]
theorem sc__longest : FnScope N__longest p__longest (defScope st__longest) := ⟨rfl, rfl, rfl, by decide +kernel, rfl, by decide +kernel, by decide +kernel⟩
def b__longest : MS := sRet (eMaxD (aCons (eLc (iSeq (eBin fIx (eVar 0) (eC (.int 1)))) (gName 1) (mYes) (eCall fLen (aCons (eBin fIx (eVar 1) (eC (.int 1))) (aNil))) [1]) aNil) (aCons (eC (.int 0)) aNil))
def F__longest : Fn := runB b__longest 1
theorem good__longest {P : Program} {w : World} {K : PySem.W.Frag} {mg : Str → Option Value} {base : Heap} {f : Addr} {fd : FuncData} (fx : Fx K mg) (F : FunD K "_longest" "_longest" (defArgs st__longest) (defBody st__longest) (defScope st__longest) [] [] f fd) (hm : mg "_longest" = some (.ref f))  :
    GoodFn P w K mg base 1 "_longest" p__longest F__longest := by
  have sc := sc__longest
  refine good_of (k := 0) (N := N__longest) F hm sc__longest (fun _ _ _ _ _ _ us hl => match us, hl with | [_], _ => rfl) fun cdv A outer s H E hr => ?_
  exact dss_one (ds_ret (de_maxD rfl hr.units fx.b_max (de_lc (own := [("row", 1)]) rfl sc.nd (blkOk_by (by kernel_rfl)) (di_seq (de_ix (de_var (i := 0)) (de_int))) (fun s H C cl fp => dg_name (i := 1) sc.nd) (fun s H C cl fp => dts_nil) (fun s H C cl fp => de_callB (cf_len) fx.b_len (by decide +kernel) (da_cons (de_ix (de_var (i := 1)) (de_int)) (da_nil)))) (de_int)))
/-! ### signature -/
abbrev st_signature : Stmt := top 24
abbrev N_signature : List Str := ["things", "share", "lists", "counts", "person", "ware"]
abbrev p_signature : List Str := ["things", "share"]
theorem sc_signature : FnScope N_signature p_signature (defScope st_signature) := ⟨rfl, rfl, rfl, by decide +kernel, rfl, by decide +kernel, by decide +kernel⟩
def b_signature : MS := sSeq (sSet 2 (eCallF 1 F_lists_of (aCons (eBin fIxD (eVar 0) (eC (.int 1))) (aNil)))) (sSeq (sSet 3 (eBin fMulL (eLst (aCons (eC (.int 0)) (aNil))) (eCallF 1 F__longest (aCons (eVar 0) (aNil))))) (sSeq (sFor (iSeq (eVar 1)) (gTup (gsCons (gName 4) (gsCons (gName 5) (gsNil)))) (sAugS (eVar 3) (eMth msIndex (eBin fIxD (eVar 2) (eVar 4)) (aCons (eVar 5) (aNil))) (eC (.int 1)) fIAdd)) (sRet (eCall fTuple (aCons (eVar 3) (aNil))))))
def F_signature : Fn := runB b_signature 4
theorem good_signature {P : Program} {w : World} {K : PySem.W.Frag} {mg : Str → Option Value} {base : Heap} {f : Addr} {fd : FuncData} (fx : Fx K mg) (F : FunD K "signature" "signature" (defArgs st_signature) (defBody st_signature) (defScope st_signature) [] [] f fd) (hm : mg "signature" = some (.ref f)) (g_lists_of : GoodFn P w K mg base 1 "lists_of" p_lists_of F_lists_of) (g__longest : GoodFn P w K mg base 1 "_longest" p__longest F__longest) :
    GoodFn P w K mg base 2 "signature" p_signature F_signature := by
  have sc := sc_signature
  refine good_of (k := 1) (N := N_signature) F hm sc_signature (fun _ _ _ _ _ _ us hl => match us, hl with | [_, _], _ => rfl) fun cdv A outer s H E hr => ?_
  exact dss_cons (ds_set (i := 2) sc.nd (de_call g_lists_of (hr.mono (by omega)) (da_cons (de_ixD hr.units (de_var (i := 0)) (de_int)) (da_nil)))) (dss_cons (ds_set (i := 3) sc.nd (de_bin (of_mulL) (de_lst (da_cons (de_int) (da_nil))) (de_call g__longest (hr.mono (by omega)) (da_cons (de_var (i := 0)) (da_nil))))) (dss_cons (ds_for (vs := [4, 5]) .never rfl (di_seq (de_var (i := 1))) (dg_tup (n := 2) rfl (dgs_cons (dg_name (i := 4) sc.nd) (dgs_cons (dg_name (i := 5) sc.nd) (dgs_nil))) (gs_lenS (gs_lenS (gs_len0)))) (dss_one (ds_augS hr.units (de_var (i := 3)) (de_mth mts_index rfl (de_ixD hr.units (de_var (i := 2)) (de_var (i := 4))) (da_cons (de_var (i := 5)) (da_nil))) of_iadd (de_int)))) (dss_one (ds_ret (de_callTy (cf_tuple) fx.b_tuple (by decide +kernel) (da_cons (de_var (i := 3)) (da_nil)))))))
/-! ### law -/
abbrev st_law : Stmt := top 47
abbrev N_law : List Str := ["script", "box", "turn", "things", "step", "thing", "one", "other", "order", "person", "row"]
abbrev p_law : List Str := ["script"]
theorem sc_law : FnScope N_law p_law (defScope st_law) := ⟨rfl, rfl, rfl, by decide +kernel, rfl, by decide +kernel, by decide +kernel⟩
def b_law : MS := sSeq (sSet 1 (eLst (aCons (eCallF 3 F__law_digits (aCons (eVar 0) (aCons (eC (.int 0)) (aCons (eC (.int 63)) (aNil))))) (aCons (eC (.int 0)) (aNil))))) (sSeq (sFor (iR1 (aCons (eC (.int 3)) (aNil))) (gName 2) (sSeq (sSet 3 (eCallF 3 F__law_things (aCons (eVar 1) (aCons (eCallF 2 F__law_draw (aCons (eVar 1) (aCons (eC (.int 6)) (aNil)))) (aCons (eCallF 2 F__law_draw (aCons (eVar 1) (aCons (eC (.int 6)) (aNil)))) (aNil)))))) (sSeq (sFor (iR1 (aCons (eC (.int 4)) (aNil))) (gName 4) (sSeq (sSet 5 (eIf (mB (eBin fGt (eVar 4) (eC (.int 0)))) (eCallF 2 F__law_changed (aCons (eVar 1) (aCons (eVar 3) (aNil)))) (eVar 3))) (sIf (mNot (mB (eCallF 2 F__law_like (aCons (eCallF 1 F_is_things (aCons (eVar 5) (aNil))) (aCons (eCallF 1 F__law_things_right (aCons (eVar 5) (aNil))) (aNil)))))) (sRet (eC (.bl false))) (sNil)))) (sSeq (sPar 6 7 (aCons (eCallF 2 F__law_some_share (aCons (eVar 1) (aCons (eVar 3) (aNil)))) (aCons (eCallF 2 F__law_some_share (aCons (eVar 1) (aCons (eVar 3) (aNil)))) (aNil)))) (sSeq (sFor (iR1 (aCons (eC (.int 3)) (aNil))) (gName 4) (sSeq (sSet 5 (eIf (mB (eBin fGt (eVar 4) (eC (.int 0)))) (eCallF 2 F__law_changed (aCons (eVar 1) (aCons (eVar 6) (aNil)))) (eVar 6))) (sIf (mNot (mB (eCallF 2 F__law_like (aCons (eCallF 2 F_is_share (aCons (eVar 3) (aCons (eVar 5) (aNil)))) (aCons (eCallF 2 F__law_share_right (aCons (eVar 3) (aCons (eVar 5) (aNil)))) (aNil)))))) (sRet (eC (.bl false))) (sNil)))) (sSeq (sSet 8 (eCallF 2 F__law_shuffled (aCons (eVar 1) (aCons (eLc (iSeq (eBin fIx (eVar 3) (eC (.int 1)))) (gTup (gsCons (gName 9) (gsCons (gName 10) (gsNil)))) (mYes) (eVar 9) [9, 10]) (aNil))))) (sSeq (sIf (mOr (mNot (mB (eCallF 2 F__law_like (aCons (eCallF 2 F_in_row (aCons (eVar 3) (aCons (eVar 8) (aNil)))) (aCons (eCallF 2 F__law_in_row (aCons (eVar 3) (aCons (eVar 8) (aNil)))) (aNil)))))) (mNot (mB (eCallF 2 F__law_like (aCons (eCallF 3 F_votes (aCons (eVar 3) (aCons (eVar 6) (aCons (eVar 7) (aNil))))) (aCons (eCallF 3 F__law_votes (aCons (eVar 3) (aCons (eVar 6) (aCons (eVar 7) (aNil))))) (aNil))))))) (sRet (eC (.bl false))) (sNil)) (sIf (mNot (mB (eCallF 2 F__law_like (aCons (eCallF 2 F_signature (aCons (eVar 3) (aCons (eVar 6) (aNil)))) (aCons (eCallF 2 F__law_signature (aCons (eVar 3) (aCons (eVar 6) (aNil)))) (aNil)))))) (sRet (eC (.bl false))) (sNil))))))))) (sRet (eC (.bl true))))
def F_law : Fn := runB b_law 10
theorem good_law {P : Program} {w : World} {K : PySem.W.Frag} {mg : Str → Option Value} {base : Heap} {f : Addr} {fd : FuncData} (fx : Fx K mg) (F : FunD K "law" "law" (defArgs st_law) (defBody st_law) (defScope st_law) [] [] f fd) (hm : mg "law" = some (.ref f)) (g__law_digits : GoodFn P w K mg base 2 "_law_digits" p__law_digits F__law_digits) (g__law_draw : GoodFn P w K mg base 1 "_law_draw" p__law_draw F__law_draw) (g__law_things : GoodFn P w K mg base 4 "_law_things" p__law_things F__law_things) (g__law_changed : GoodFn P w K mg base 43 "_law_changed" p__law_changed F__law_changed) (g__law_things_right : GoodFn P w K mg base 42 "_law_things_right" p__law_things_right F__law_things_right) (g_is_things : GoodFn P w K mg base 5 "is_things" p_is_things F_is_things) (g__law_like : GoodFn P w K mg base 41 "_law_like" p__law_like F__law_like) (g__law_some_share : GoodFn P w K mg base 3 "_law_some_share" p__law_some_share F__law_some_share) (g__law_share_right : GoodFn P w K mg base 1 "_law_share_right" p__law_share_right F__law_share_right) (g_is_share : GoodFn P w K mg base 3 "is_share" p_is_share F_is_share) (g__law_shuffled : GoodFn P w K mg base 2 "_law_shuffled" p__law_shuffled F__law_shuffled) (g__law_in_row : GoodFn P w K mg base 1 "_law_in_row" p__law_in_row F__law_in_row) (g_in_row : GoodFn P w K mg base 2 "in_row" p_in_row F_in_row) (g__law_votes : GoodFn P w K mg base 2 "_law_votes" p__law_votes F__law_votes) (g_votes : GoodFn P w K mg base 2 "votes" p_votes F_votes) (g__law_signature : GoodFn P w K mg base 1 "_law_signature" p__law_signature F__law_signature) (g_signature : GoodFn P w K mg base 2 "signature" p_signature F_signature) :
    FnOk P w K mg base CX0 44 f fd p_law (spT ⟨P, w, K, mg⟩ 1 F_law) := by
  have sc := sc_law
  refine fnok_of (k := 43) (N := N_law) F sc_law fun cdv A outer s H E hr => ?_
  exact dss_cons (ds_set (i := 1) sc.nd (de_lst (da_cons (de_call g__law_digits (hr.mono (by omega)) (da_cons (de_var (i := 0)) (da_cons (de_int) (da_cons (de_int) (da_nil))))) (da_cons (de_int) (da_nil))))) (dss_cons (ds_for (vs := [2]) .never rfl (di_rng1 fx.b_range (da_cons (de_int) (da_nil))) (dg_name (i := 2) sc.nd) (dss_cons (ds_set (i := 3) sc.nd (de_call g__law_things (hr.mono (by omega)) (da_cons (de_var (i := 1)) (da_cons (de_call g__law_draw (hr.mono (by omega)) (da_cons (de_var (i := 1)) (da_cons (de_int) (da_nil)))) (da_cons (de_call g__law_draw (hr.mono (by omega)) (da_cons (de_var (i := 1)) (da_cons (de_int) (da_nil)))) (da_nil)))))) (dss_cons (ds_for (vs := [4]) .never rfl (di_rng1 fx.b_range (da_cons (de_int) (da_nil))) (dg_name (i := 4) sc.nd) (dss_cons (ds_set (i := 5) sc.nd (de_if (dt_cmp (of_gt) (de_var (i := 4)) (de_int)) (de_call g__law_changed (hr.mono (by omega)) (da_cons (de_var (i := 1)) (da_cons (de_var (i := 3)) (da_nil)))) (de_var (i := 3)))) (dss_one (ds_if (dt_not (dt_val (de_call g__law_like (hr.mono (by omega)) (da_cons (de_call g_is_things (hr.mono (by omega)) (da_cons (de_var (i := 5)) (da_nil))) (da_cons (de_call g__law_things_right (hr.mono (by omega)) (da_cons (de_var (i := 5)) (da_nil))) (da_nil)))))) (dss_one (ds_ret (de_bl))) (dss_nil))))) (dss_cons (ds_par (i := 6) (j := 7) rfl sc.nd (da_cons (de_call g__law_some_share (hr.mono (by omega)) (da_cons (de_var (i := 1)) (da_cons (de_var (i := 3)) (da_nil)))) (da_cons (de_call g__law_some_share (hr.mono (by omega)) (da_cons (de_var (i := 1)) (da_cons (de_var (i := 3)) (da_nil)))) (da_nil)))) (dss_cons (ds_for (vs := [4]) .never rfl (di_rng1 fx.b_range (da_cons (de_int) (da_nil))) (dg_name (i := 4) sc.nd) (dss_cons (ds_set (i := 5) sc.nd (de_if (dt_cmp (of_gt) (de_var (i := 4)) (de_int)) (de_call g__law_changed (hr.mono (by omega)) (da_cons (de_var (i := 1)) (da_cons (de_var (i := 6)) (da_nil)))) (de_var (i := 6)))) (dss_one (ds_if (dt_not (dt_val (de_call g__law_like (hr.mono (by omega)) (da_cons (de_call g_is_share (hr.mono (by omega)) (da_cons (de_var (i := 3)) (da_cons (de_var (i := 5)) (da_nil)))) (da_cons (de_call g__law_share_right (hr.mono (by omega)) (da_cons (de_var (i := 3)) (da_cons (de_var (i := 5)) (da_nil)))) (da_nil)))))) (dss_one (ds_ret (de_bl))) (dss_nil))))) (dss_cons (ds_set (i := 8) sc.nd (de_call g__law_shuffled (hr.mono (by omega)) (da_cons (de_var (i := 1)) (da_cons (de_lc (own := [("person", 9), ("row", 10)]) rfl sc.nd (blkOk_by (by kernel_rfl)) (di_seq (de_ix (de_var (i := 3)) (de_int))) (fun s H C cl fp => dg_tup (n := 2) rfl (dgs_cons (dg_name (i := 9) sc.nd) (dgs_cons (dg_name (i := 10) sc.nd) (dgs_nil))) (gs_lenS (gs_lenS (gs_len0)))) (fun s H C cl fp => dts_nil) (fun s H C cl fp => de_var (i := 9))) (da_nil))))) (dss_cons (ds_if ((dw_or (dt_not (dt_val (de_call g__law_like (hr.mono (by omega)) (da_cons (de_call g_in_row (hr.mono (by omega)) (da_cons (de_var (i := 3)) (da_cons (de_var (i := 8)) (da_nil)))) (da_cons (de_call g__law_in_row (hr.mono (by omega)) (da_cons (de_var (i := 3)) (da_cons (de_var (i := 8)) (da_nil)))) (da_nil)))))) (dw_or1 (dt_not (dt_val (de_call g__law_like (hr.mono (by omega)) (da_cons (de_call g_votes (hr.mono (by omega)) (da_cons (de_var (i := 3)) (da_cons (de_var (i := 6)) (da_cons (de_var (i := 7)) (da_nil))))) (da_cons (de_call g__law_votes (hr.mono (by omega)) (da_cons (de_var (i := 3)) (da_cons (de_var (i := 6)) (da_cons (de_var (i := 7)) (da_nil))))) (da_nil)))))))).dt) (dss_one (ds_ret (de_bl))) (dss_nil)) (dss_one (ds_if (dt_not (dt_val (de_call g__law_like (hr.mono (by omega)) (da_cons (de_call g_signature (hr.mono (by omega)) (da_cons (de_var (i := 3)) (da_cons (de_var (i := 6)) (da_nil)))) (da_cons (de_call g__law_signature (hr.mono (by omega)) (da_cons (de_var (i := 3)) (da_cons (de_var (i := 6)) (da_nil)))) (da_nil)))))) (dss_one (ds_ret (de_bl))) (dss_nil)))))))))) (dss_one (ds_ret (de_bl))))
/-! ### the head -/
def d__law_cell : He.DefD := ⟨("_law_cell", none), "_law_cell", "_law_cell", defArgs st__law_cell, defBody st__law_cell, defScope st__law_cell, [], []⟩
def d__law_digits : He.DefD := ⟨("_law_digits", none), "_law_digits", "_law_digits", defArgs st__law_digits, defBody st__law_digits, defScope st__law_digits, [], []⟩
def d__law_draw : He.DefD := ⟨("_law_draw", none), "_law_draw", "_law_draw", defArgs st__law_draw, defBody st__law_draw, defScope st__law_draw, [], []⟩
def d__law_shuffled : He.DefD := ⟨("_law_shuffled", none), "_law_shuffled", "_law_shuffled", defArgs st__law_shuffled, defBody st__law_shuffled, defScope st__law_shuffled, [], []⟩
def d__law_list : He.DefD := ⟨("_law_list", none), "_law_list", "_law_list", defArgs st__law_list, defBody st__law_list, defScope st__law_list, [], []⟩
def d__law_things : He.DefD := ⟨("_law_things", none), "_law_things", "_law_things", defArgs st__law_things, defBody st__law_things, defScope st__law_things, [], []⟩
def d__law_other : He.DefD := ⟨("_law_other", none), "_law_other", "_law_other", defArgs st__law_other, defBody st__law_other, defScope st__law_other, [], []⟩
def d__law_changed : He.DefD := ⟨("_law_changed", none), "_law_changed", "_law_changed", defArgs st__law_changed, defBody st__law_changed, defScope st__law_changed, [], []⟩
def d__law_like : He.DefD := ⟨("_law_like", none), "_law_like", "_law_like", defArgs st__law_like, defBody st__law_like, defScope st__law_like, [], []⟩
def d__law_is_name : He.DefD := ⟨("_law_is_name", none), "_law_is_name", "_law_is_name", defArgs st__law_is_name, defBody st__law_is_name, defScope st__law_is_name, [], []⟩
def d__law_named : He.DefD := ⟨("_law_named", none), "_law_named", "_law_named", defArgs st__law_named, defBody st__law_named, defScope st__law_named, [], []⟩
def d__law_things_right : He.DefD := ⟨("_law_things_right", none), "_law_things_right", "_law_things_right", defArgs st__law_things_right, defBody st__law_things_right, defScope st__law_things_right, [], []⟩
def d_is_made : He.DefD := ⟨("is_made", none), "is_made", "is_made", defArgs st_is_made, defBody st_is_made, defScope st_is_made, [], []⟩
def d__are_signs : He.DefD := ⟨("_are_signs", none), "_are_signs", "_are_signs", defArgs st__are_signs, defBody st__are_signs, defScope st__are_signs, [], []⟩
def d_is_name : He.DefD := ⟨("is_name", none), "is_name", "is_name", defArgs st_is_name, defBody st_is_name, defScope st_is_name, [], []⟩
def d_are_names : He.DefD := ⟨("are_names", none), "are_names", "are_names", defArgs st_are_names, defBody st_are_names, defScope st_are_names, [], []⟩
def d_is_ascending : He.DefD := ⟨("is_ascending", none), "is_ascending", "is_ascending", defArgs st_is_ascending, defBody st_is_ascending, defScope st_is_ascending, [], []⟩
def d_are_rows : He.DefD := ⟨("are_rows", none), "are_rows", "are_rows", defArgs st_are_rows, defBody st_are_rows, defScope st_are_rows, [], []⟩
def d_are_ascending_names : He.DefD := ⟨("are_ascending_names", none), "are_ascending_names", "are_ascending_names", defArgs st_are_ascending_names, defBody st_are_ascending_names, defScope st_are_ascending_names, [], []⟩
def d_is_things : He.DefD := ⟨("is_things", none), "is_things", "is_things", defArgs st_is_things, defBody st_is_things, defScope st_is_things, [], []⟩
def d__law_pick : He.DefD := ⟨("_law_pick", none), "_law_pick", "_law_pick", defArgs st__law_pick, defBody st__law_pick, defScope st__law_pick, [], []⟩
def d__law_some_share : He.DefD := ⟨("_law_some_share", none), "_law_some_share", "_law_some_share", defArgs st__law_some_share, defBody st__law_some_share, defScope st__law_some_share, [], []⟩
def d__law_share_right : He.DefD := ⟨("_law_share_right", none), "_law_share_right", "_law_share_right", defArgs st__law_share_right, defBody st__law_share_right, defScope st__law_share_right, [], []⟩
def d_are_pairs : He.DefD := ⟨("are_pairs", none), "are_pairs", "are_pairs", defArgs st_are_pairs, defBody st_are_pairs, defScope st_are_pairs, [], []⟩
def d_lists_of : He.DefD := ⟨("lists_of", none), "lists_of", "lists_of", defArgs st_lists_of, defBody st_lists_of, defScope st_lists_of, [], []⟩
def d_is_share : He.DefD := ⟨("is_share", none), "is_share", "is_share", defArgs st_is_share, defBody st_is_share, defScope st_is_share, [], []⟩
def d__law_in_row : He.DefD := ⟨("_law_in_row", none), "_law_in_row", "_law_in_row", defArgs st__law_in_row, defBody st__law_in_row, defScope st__law_in_row, [], []⟩
def d_row_pairs : He.DefD := ⟨("row_pairs", none), "row_pairs", "row_pairs", defArgs st_row_pairs, defBody st_row_pairs, defScope st_row_pairs, [], []⟩
def d_in_row : He.DefD := ⟨("in_row", none), "in_row", "in_row", defArgs st_in_row, defBody st_in_row, defScope st_in_row, [], []⟩
def d__law_vote : He.DefD := ⟨("_law_vote", none), "_law_vote", "_law_vote", defArgs st__law_vote, defBody st__law_vote, defScope st__law_vote, [], []⟩
def d__law_votes : He.DefD := ⟨("_law_votes", none), "_law_votes", "_law_votes", defArgs st__law_votes, defBody st__law_votes, defScope st__law_votes, [], []⟩
def d_ware_place : He.DefD := ⟨("ware_place", none), "ware_place", "ware_place", defArgs st_ware_place, defBody st_ware_place, defScope st_ware_place, [], []⟩
def d_votes : He.DefD := ⟨("votes", none), "votes", "votes", defArgs st_votes, defBody st_votes, defScope st_votes, [], []⟩
def d__law_signature : He.DefD := ⟨("_law_signature", none), "_law_signature", "_law_signature", defArgs st__law_signature, defBody st__law_signature, defScope st__law_signature, [], []⟩
def d__longest : He.DefD := ⟨("_longest", none), "_longest", "_longest", defArgs st__longest, defBody st__longest, defScope st__longest, [], []⟩
def d_signature : He.DefD := ⟨("signature", none), "signature", "signature", defArgs st_signature, defBody st_signature, defScope st_signature, [], []⟩
def d_law : He.DefD := ⟨("law", none), "law", "law", defArgs st_law, defBody st_law, defScope st_law, [], []⟩
def fn : List He.DefD := [d__law_cell, d__law_digits, d__law_draw, d__law_shuffled, d__law_list, d__law_things, d__law_other, d__law_changed, d__law_like, d__law_is_name, d__law_named, d__law_things_right, d_is_made, d__are_signs, d_is_name, d_are_names, d_is_ascending, d_are_rows, d_are_ascending_names, d_is_things, d__law_pick, d__law_some_share, d__law_share_right, d_are_pairs, d_lists_of, d_is_share, d__law_in_row, d_row_pairs, d_in_row, d__law_vote, d__law_votes, d_ware_place, d_votes, d__law_signature, d__longest, d_signature, d_law]
def fa : List He.Fa := [.glo "_law_cell", .glo "_law_digits", .glo "_law_draw", .glo "_law_shuffled", .glo "_law_list", .glo "_law_things", .glo "_law_other", .glo "_law_changed", .glo "_law_like", .glo "_law_is_name", .glo "_law_named", .glo "_law_things_right", .glo "is_made", .glo "_are_signs", .glo "is_name", .glo "are_names", .glo "is_ascending", .glo "are_rows", .glo "are_ascending_names", .glo "is_things", .glo "_law_pick", .glo "_law_some_share", .glo "_law_share_right", .glo "are_pairs", .glo "lists_of", .glo "is_share", .glo "_law_in_row", .glo "row_pairs", .glo "in_row", .glo "_law_vote", .glo "_law_votes", .glo "ware_place", .glo "votes", .glo "_law_signature", .glo "_longest", .glo "signature", .glo "law", .free "all", .free "bool", .free "dict", .free "int", .free "isinstance", .free "len", .free "list", .free "max", .free "range", .free "set", .free "sorted", .free "str", .free "tuple", .str "DIGITS" "0123456789", .str "LETTERS" "abcdefghijklmnopqrstuvwxyz", .int "MOST" 40, .int "MOST_SIGNS" 10]
abbrev R : PySem.W.OpenRow := PySem.W.OpenLaw.row PySem.Challenge.rw_pairlands_k39_thi_things
abbrev hk : PySem.W.Hook := He.hookD 4 fa fn
def ob (s : PySem.W.SharedT) : He.AlD := He.obsDG 4 fa fn (HandSHeadRun.getT s)
theorem ob_eq (s : PySem.W.SharedT) : ob s = hk.obs s.abs := He.obsDG_eq (HandSHeadRun.getT_eq s)
def loose : List PySem.Str := [("LETTERS" : PySem.Str), ("DIGITS" : PySem.Str), ("MOST_SIGNS" : PySem.Str), ("_are_signs" : PySem.Str), ("is_name" : PySem.Str), ("is_made" : PySem.Str), ("is_ascending" : PySem.Str), ("are_names" : PySem.Str), ("are_ascending_names" : PySem.Str), ("are_rows" : PySem.Str), ("are_pairs" : PySem.Str), ("lists_of" : PySem.Str), ("row_pairs" : PySem.Str), ("ware_place" : PySem.Str), ("MOST" : PySem.Str), ("is_things" : PySem.Str), ("is_share" : PySem.Str), ("in_row" : PySem.Str), ("_longest" : PySem.Str), ("signature" : PySem.Str), ("votes" : PySem.Str), ("_law_cell" : PySem.Str), ("_law_digits" : PySem.Str), ("_law_draw" : PySem.Str), ("_law_pick" : PySem.Str), ("_law_like" : PySem.Str), ("_law_is_name" : PySem.Str), ("_law_named" : PySem.Str), ("_law_shuffled" : PySem.Str), ("_law_list" : PySem.Str), ("_law_things" : PySem.Str), ("_law_share_right" : PySem.Str), ("_law_some_share" : PySem.Str), ("_law_vote" : PySem.Str), ("_law_votes" : PySem.Str), ("_law_in_row" : PySem.Str), ("_law_signature" : PySem.Str), ("_law_other" : PySem.Str), ("_law_changed" : PySem.Str), ("_law_things_right" : PySem.Str)]
theorem run (w : World) : HandSHeadRun.RunEq R (PySem.W.view R.prog [47]) hk ob 4000 loose w := by
  intro os
  kernel_rfl
section
variable {P : Program} {w : World} {K : PySem.W.Frag} {h : Heap} {mg : Str → Option Value} {base : Heap}
theorem fx_of (X : K.In h) (G : h.Ns mainGlobals mg) (c : He.SaysD fa fn K) : Fx K mg where
  b_all := He.free_ok X G (c.fact 37 (f := .free "all") rfl)
  b_bool := He.free_ok X G (c.fact 38 (f := .free "bool") rfl)
  b_dict := He.free_ok X G (c.fact 39 (f := .free "dict") rfl)
  b_int := He.free_ok X G (c.fact 40 (f := .free "int") rfl)
  b_isinstance := He.free_ok X G (c.fact 41 (f := .free "isinstance") rfl)
  b_len := He.free_ok X G (c.fact 42 (f := .free "len") rfl)
  b_list := He.free_ok X G (c.fact 43 (f := .free "list") rfl)
  b_max := He.free_ok X G (c.fact 44 (f := .free "max") rfl)
  b_range := He.free_ok X G (c.fact 45 (f := .free "range") rfl)
  b_set := He.free_ok X G (c.fact 46 (f := .free "set") rfl)
  b_sorted := He.free_ok X G (c.fact 47 (f := .free "sorted") rfl)
  b_str := He.free_ok X G (c.fact 48 (f := .free "str") rfl)
  b_tuple := He.free_ok X G (c.fact 49 (f := .free "tuple") rfl)
  c_DIGITS := gl_str (He.str_ok X G (c.fact 50 (f := .str "DIGITS" "0123456789") rfl))
  c_LETTERS := gl_str (He.str_ok X G (c.fact 51 (f := .str "LETTERS" "abcdefghijklmnopqrstuvwxyz") rfl))
  c_MOST := gl_int (He.int_ok X G (c.fact 52 (f := .int "MOST" 40) rfl))
  c_MOST_SIGNS := gl_int (He.int_ok X G (c.fact 53 (f := .int "MOST_SIGNS" 10) rfl))
theorem gd__law_cell (X : K.In h) (G : h.Ns mainGlobals mg) (c : He.SaysD fa fn K) : GoodFn P w K mg base 1 "_law_cell" p__law_cell F__law_cell := by
  obtain ⟨fd, F⟩ := c.def_ 0 (d := d__law_cell) rfl
  exact good__law_cell (fx_of X G c) F (He.glo_ok X G (c.fact 0 (f := .glo "_law_cell") rfl)) 
theorem gd__law_digits (X : K.In h) (G : h.Ns mainGlobals mg) (c : He.SaysD fa fn K) : GoodFn P w K mg base 2 "_law_digits" p__law_digits F__law_digits := by
  obtain ⟨fd, F⟩ := c.def_ 1 (d := d__law_digits) rfl
  exact good__law_digits (fx_of X G c) F (He.glo_ok X G (c.fact 1 (f := .glo "_law_digits") rfl)) (gd__law_cell X G c)
theorem gd__law_draw (X : K.In h) (G : h.Ns mainGlobals mg) (c : He.SaysD fa fn K) : GoodFn P w K mg base 1 "_law_draw" p__law_draw F__law_draw := by
  obtain ⟨fd, F⟩ := c.def_ 2 (d := d__law_draw) rfl
  exact good__law_draw (fx_of X G c) F (He.glo_ok X G (c.fact 2 (f := .glo "_law_draw") rfl)) 
theorem gd__law_shuffled (X : K.In h) (G : h.Ns mainGlobals mg) (c : He.SaysD fa fn K) : GoodFn P w K mg base 2 "_law_shuffled" p__law_shuffled F__law_shuffled := by
  obtain ⟨fd, F⟩ := c.def_ 3 (d := d__law_shuffled) rfl
  exact good__law_shuffled (fx_of X G c) F (He.glo_ok X G (c.fact 3 (f := .glo "_law_shuffled") rfl)) (gd__law_draw X G c)
theorem gd__law_list (X : K.In h) (G : h.Ns mainGlobals mg) (c : He.SaysD fa fn K) : GoodFn P w K mg base 3 "_law_list" p__law_list F__law_list := by
  obtain ⟨fd, F⟩ := c.def_ 4 (d := d__law_list) rfl
  exact good__law_list (fx_of X G c) F (He.glo_ok X G (c.fact 4 (f := .glo "_law_list") rfl)) (gd__law_shuffled X G c) (gd__law_draw X G c)
theorem gd__law_things (X : K.In h) (G : h.Ns mainGlobals mg) (c : He.SaysD fa fn K) : GoodFn P w K mg base 4 "_law_things" p__law_things F__law_things := by
  obtain ⟨fd, F⟩ := c.def_ 5 (d := d__law_things) rfl
  exact good__law_things (fx_of X G c) F (He.glo_ok X G (c.fact 5 (f := .glo "_law_things") rfl)) (gd__law_list X G c)
theorem gd__law_other (X : K.In h) (G : h.Ns mainGlobals mg) (c : He.SaysD fa fn K) : GoodFn P w K mg base 2 "_law_other" p__law_other F__law_other := by
  obtain ⟨fd, F⟩ := c.def_ 6 (d := d__law_other) rfl
  exact good__law_other (fx_of X G c) F (He.glo_ok X G (c.fact 6 (f := .glo "_law_other") rfl)) (gd__law_draw X G c)
theorem gd__law_changed (X : K.In h) (G : h.Ns mainGlobals mg) (c : He.SaysD fa fn K) : GoodFn P w K mg base 43 "_law_changed" p__law_changed F__law_changed := by
  obtain ⟨fd, F⟩ := c.def_ 7 (d := d__law_changed) rfl
  exact good__law_changed (fx_of X G c) F (He.glo_ok X G (c.fact 7 (f := .glo "_law_changed") rfl)) (gd__law_draw X G c) (gd__law_other X G c)
theorem gd__law_like (X : K.In h) (G : h.Ns mainGlobals mg) (c : He.SaysD fa fn K) : GoodFn P w K mg base 41 "_law_like" p__law_like F__law_like := by
  obtain ⟨fd, F⟩ := c.def_ 8 (d := d__law_like) rfl
  exact good__law_like (fx_of X G c) F (He.glo_ok X G (c.fact 8 (f := .glo "_law_like") rfl)) 
theorem gd__law_is_name (X : K.In h) (G : h.Ns mainGlobals mg) (c : He.SaysD fa fn K) : GoodFn P w K mg base 1 "_law_is_name" p__law_is_name F__law_is_name := by
  obtain ⟨fd, F⟩ := c.def_ 9 (d := d__law_is_name) rfl
  exact good__law_is_name (fx_of X G c) F (He.glo_ok X G (c.fact 9 (f := .glo "_law_is_name") rfl)) 
theorem gd__law_named (X : K.In h) (G : h.Ns mainGlobals mg) (c : He.SaysD fa fn K) : GoodFn P w K mg base 2 "_law_named" p__law_named F__law_named := by
  obtain ⟨fd, F⟩ := c.def_ 10 (d := d__law_named) rfl
  exact good__law_named (fx_of X G c) F (He.glo_ok X G (c.fact 10 (f := .glo "_law_named") rfl)) (gd__law_is_name X G c)
theorem gd__law_things_right (X : K.In h) (G : h.Ns mainGlobals mg) (c : He.SaysD fa fn K) : GoodFn P w K mg base 42 "_law_things_right" p__law_things_right F__law_things_right := by
  obtain ⟨fd, F⟩ := c.def_ 11 (d := d__law_things_right) rfl
  exact good__law_things_right (fx_of X G c) F (He.glo_ok X G (c.fact 11 (f := .glo "_law_things_right") rfl)) (gd__law_like X G c) (gd__law_named X G c)
theorem gd_is_made (X : K.In h) (G : h.Ns mainGlobals mg) (c : He.SaysD fa fn K) : GoodFn P w K mg base 1 "is_made" p_is_made F_is_made := by
  obtain ⟨fd, F⟩ := c.def_ 12 (d := d_is_made) rfl
  exact good_is_made (fx_of X G c) F (He.glo_ok X G (c.fact 12 (f := .glo "is_made") rfl)) 
theorem gd__are_signs (X : K.In h) (G : h.Ns mainGlobals mg) (c : He.SaysD fa fn K) : GoodFn P w K mg base 1 "_are_signs" p__are_signs F__are_signs := by
  obtain ⟨fd, F⟩ := c.def_ 13 (d := d__are_signs) rfl
  exact good__are_signs (fx_of X G c) F (He.glo_ok X G (c.fact 13 (f := .glo "_are_signs") rfl)) 
theorem gd_is_name (X : K.In h) (G : h.Ns mainGlobals mg) (c : He.SaysD fa fn K) : GoodFn P w K mg base 2 "is_name" p_is_name F_is_name := by
  obtain ⟨fd, F⟩ := c.def_ 14 (d := d_is_name) rfl
  exact good_is_name (fx_of X G c) F (He.glo_ok X G (c.fact 14 (f := .glo "is_name") rfl)) (gd__are_signs X G c)
theorem gd_are_names (X : K.In h) (G : h.Ns mainGlobals mg) (c : He.SaysD fa fn K) : GoodFn P w K mg base 3 "are_names" p_are_names F_are_names := by
  obtain ⟨fd, F⟩ := c.def_ 15 (d := d_are_names) rfl
  exact good_are_names (fx_of X G c) F (He.glo_ok X G (c.fact 15 (f := .glo "are_names") rfl)) (gd_is_name X G c)
theorem gd_is_ascending (X : K.In h) (G : h.Ns mainGlobals mg) (c : He.SaysD fa fn K) : GoodFn P w K mg base 1 "is_ascending" p_is_ascending F_is_ascending := by
  obtain ⟨fd, F⟩ := c.def_ 16 (d := d_is_ascending) rfl
  exact good_is_ascending (fx_of X G c) F (He.glo_ok X G (c.fact 16 (f := .glo "is_ascending") rfl)) 
theorem gd_are_rows (X : K.In h) (G : h.Ns mainGlobals mg) (c : He.SaysD fa fn K) : GoodFn P w K mg base 4 "are_rows" p_are_rows F_are_rows := by
  obtain ⟨fd, F⟩ := c.def_ 17 (d := d_are_rows) rfl
  exact good_are_rows (fx_of X G c) F (He.glo_ok X G (c.fact 17 (f := .glo "are_rows") rfl)) (gd_is_name X G c) (gd_are_names X G c) (gd_is_ascending X G c)
theorem gd_are_ascending_names (X : K.In h) (G : h.Ns mainGlobals mg) (c : He.SaysD fa fn K) : GoodFn P w K mg base 4 "are_ascending_names" p_are_ascending_names F_are_ascending_names := by
  obtain ⟨fd, F⟩ := c.def_ 18 (d := d_are_ascending_names) rfl
  exact good_are_ascending_names (fx_of X G c) F (He.glo_ok X G (c.fact 18 (f := .glo "are_ascending_names") rfl)) (gd_are_names X G c) (gd_is_ascending X G c)
theorem gd_is_things (X : K.In h) (G : h.Ns mainGlobals mg) (c : He.SaysD fa fn K) : GoodFn P w K mg base 5 "is_things" p_is_things F_is_things := by
  obtain ⟨fd, F⟩ := c.def_ 19 (d := d_is_things) rfl
  exact good_is_things (fx_of X G c) F (He.glo_ok X G (c.fact 19 (f := .glo "is_things") rfl)) (gd_is_made X G c) (gd_are_rows X G c) (gd_are_ascending_names X G c)
theorem gd__law_pick (X : K.In h) (G : h.Ns mainGlobals mg) (c : He.SaysD fa fn K) : GoodFn P w K mg base 2 "_law_pick" p__law_pick F__law_pick := by
  obtain ⟨fd, F⟩ := c.def_ 20 (d := d__law_pick) rfl
  exact good__law_pick (fx_of X G c) F (He.glo_ok X G (c.fact 20 (f := .glo "_law_pick") rfl)) (gd__law_draw X G c)
theorem gd__law_some_share (X : K.In h) (G : h.Ns mainGlobals mg) (c : He.SaysD fa fn K) : GoodFn P w K mg base 3 "_law_some_share" p__law_some_share F__law_some_share := by
  obtain ⟨fd, F⟩ := c.def_ 21 (d := d__law_some_share) rfl
  exact good__law_some_share (fx_of X G c) F (He.glo_ok X G (c.fact 21 (f := .glo "_law_some_share") rfl)) (gd__law_draw X G c) (gd__law_pick X G c)
theorem gd__law_share_right (X : K.In h) (G : h.Ns mainGlobals mg) (c : He.SaysD fa fn K) : GoodFn P w K mg base 1 "_law_share_right" p__law_share_right F__law_share_right := by
  obtain ⟨fd, F⟩ := c.def_ 22 (d := d__law_share_right) rfl
  exact good__law_share_right (fx_of X G c) F (He.glo_ok X G (c.fact 22 (f := .glo "_law_share_right") rfl)) 
theorem gd_are_pairs (X : K.In h) (G : h.Ns mainGlobals mg) (c : He.SaysD fa fn K) : GoodFn P w K mg base 2 "are_pairs" p_are_pairs F_are_pairs := by
  obtain ⟨fd, F⟩ := c.def_ 23 (d := d_are_pairs) rfl
  exact good_are_pairs (fx_of X G c) F (He.glo_ok X G (c.fact 23 (f := .glo "are_pairs") rfl)) (gd_is_ascending X G c)
theorem gd_lists_of (X : K.In h) (G : h.Ns mainGlobals mg) (c : He.SaysD fa fn K) : GoodFn P w K mg base 1 "lists_of" p_lists_of F_lists_of := by
  obtain ⟨fd, F⟩ := c.def_ 24 (d := d_lists_of) rfl
  exact good_lists_of (fx_of X G c) F (He.glo_ok X G (c.fact 24 (f := .glo "lists_of") rfl)) 
theorem gd_is_share (X : K.In h) (G : h.Ns mainGlobals mg) (c : He.SaysD fa fn K) : GoodFn P w K mg base 3 "is_share" p_is_share F_is_share := by
  obtain ⟨fd, F⟩ := c.def_ 25 (d := d_is_share) rfl
  exact good_is_share (fx_of X G c) F (He.glo_ok X G (c.fact 25 (f := .glo "is_share") rfl)) (gd_are_pairs X G c) (gd_lists_of X G c)
theorem gd__law_in_row (X : K.In h) (G : h.Ns mainGlobals mg) (c : He.SaysD fa fn K) : GoodFn P w K mg base 1 "_law_in_row" p__law_in_row F__law_in_row := by
  obtain ⟨fd, F⟩ := c.def_ 26 (d := d__law_in_row) rfl
  exact good__law_in_row (fx_of X G c) F (He.glo_ok X G (c.fact 26 (f := .glo "_law_in_row") rfl)) 
theorem gd_row_pairs (X : K.In h) (G : h.Ns mainGlobals mg) (c : He.SaysD fa fn K) : GoodFn P w K mg base 1 "row_pairs" p_row_pairs F_row_pairs := by
  obtain ⟨fd, F⟩ := c.def_ 27 (d := d_row_pairs) rfl
  exact good_row_pairs (fx_of X G c) F (He.glo_ok X G (c.fact 27 (f := .glo "row_pairs") rfl)) 
theorem gd_in_row (X : K.In h) (G : h.Ns mainGlobals mg) (c : He.SaysD fa fn K) : GoodFn P w K mg base 2 "in_row" p_in_row F_in_row := by
  obtain ⟨fd, F⟩ := c.def_ 28 (d := d_in_row) rfl
  exact good_in_row (fx_of X G c) F (He.glo_ok X G (c.fact 28 (f := .glo "in_row") rfl)) (gd_lists_of X G c) (gd_row_pairs X G c)
theorem gd__law_vote (X : K.In h) (G : h.Ns mainGlobals mg) (c : He.SaysD fa fn K) : GoodFn P w K mg base 1 "_law_vote" p__law_vote F__law_vote := by
  obtain ⟨fd, F⟩ := c.def_ 29 (d := d__law_vote) rfl
  exact good__law_vote (fx_of X G c) F (He.glo_ok X G (c.fact 29 (f := .glo "_law_vote") rfl)) 
theorem gd__law_votes (X : K.In h) (G : h.Ns mainGlobals mg) (c : He.SaysD fa fn K) : GoodFn P w K mg base 2 "_law_votes" p__law_votes F__law_votes := by
  obtain ⟨fd, F⟩ := c.def_ 30 (d := d__law_votes) rfl
  exact good__law_votes (fx_of X G c) F (He.glo_ok X G (c.fact 30 (f := .glo "_law_votes") rfl)) (gd__law_vote X G c)
theorem gd_ware_place (X : K.In h) (G : h.Ns mainGlobals mg) (c : He.SaysD fa fn K) : GoodFn P w K mg base 1 "ware_place" p_ware_place F_ware_place := by
  obtain ⟨fd, F⟩ := c.def_ 31 (d := d_ware_place) rfl
  exact good_ware_place (fx_of X G c) F (He.glo_ok X G (c.fact 31 (f := .glo "ware_place") rfl)) 
theorem gd_votes (X : K.In h) (G : h.Ns mainGlobals mg) (c : He.SaysD fa fn K) : GoodFn P w K mg base 2 "votes" p_votes F_votes := by
  obtain ⟨fd, F⟩ := c.def_ 32 (d := d_votes) rfl
  exact good_votes (fx_of X G c) F (He.glo_ok X G (c.fact 32 (f := .glo "votes") rfl)) (gd_ware_place X G c)
theorem gd__law_signature (X : K.In h) (G : h.Ns mainGlobals mg) (c : He.SaysD fa fn K) : GoodFn P w K mg base 1 "_law_signature" p__law_signature F__law_signature := by
  obtain ⟨fd, F⟩ := c.def_ 33 (d := d__law_signature) rfl
  exact good__law_signature (fx_of X G c) F (He.glo_ok X G (c.fact 33 (f := .glo "_law_signature") rfl)) 
theorem gd__longest (X : K.In h) (G : h.Ns mainGlobals mg) (c : He.SaysD fa fn K) : GoodFn P w K mg base 1 "_longest" p__longest F__longest := by
  obtain ⟨fd, F⟩ := c.def_ 34 (d := d__longest) rfl
  exact good__longest (fx_of X G c) F (He.glo_ok X G (c.fact 34 (f := .glo "_longest") rfl)) 
theorem gd_signature (X : K.In h) (G : h.Ns mainGlobals mg) (c : He.SaysD fa fn K) : GoodFn P w K mg base 2 "signature" p_signature F_signature := by
  obtain ⟨fd, F⟩ := c.def_ 35 (d := d_signature) rfl
  exact good_signature (fx_of X G c) F (He.glo_ok X G (c.fact 35 (f := .glo "signature") rfl)) (gd_lists_of X G c) (gd__longest X G c)
def spLaw (K : PySem.W.Frag) : Sp := fun vs H Q _ => ∃ (a : Addr) (ns : List Int), vs = [.ref a] ∧ ns.length ≤ 63 ∧ SqS K H a (ns.map V.int) ∧ ∀ H', Q (.bl true) H'
/-- what is left to show -/
def Sem : Prop := ∀ ns : List Int, ns.length ≤ 63 → ∃ th, F_law [.scr ns] [] = .ok (.bl true) th
theorem law_ok (S : Sem) (X : K.In h) (G : h.Ns mainGlobals mg) (c : He.SaysD fa fn K) {f : Addr} (hf : mg "law" = some (.ref f)) :
    ∃ fd : FuncData, (∀ (s : Shared) (v : Value), BindsTo s fd ⟨[v], []⟩ [("script", v)]) ∧ ∀ base : Heap, K.In base → base.Ns mainGlobals mg → FnOk P w K mg base CX0 44 f fd ["script"] (spLaw K) := by
  obtain ⟨fd, F⟩ := c.def_ 36 (d := d_law) rfl
  have e := hf.symm.trans (He.glo_ok X G (c.fact 36 (f := .glo "law") rfl))
  cases e
  have b := FunD.bindsA (ps := ["script"]) F fun _ _ _ _ _ _ us hl => match us, hl with | [_], _ => rfl
  refine ⟨fd, fun s v => b s [v] rfl, fun base XB GB => ?_⟩
  refine law_of (good_law (fx_of X G c) F (He.glo_ok X G (c.fact 36 (f := .glo "law") rfl)) (gd__law_digits X G c) (gd__law_draw X G c) (gd__law_things X G c) (gd__law_changed X G c) (gd__law_things_right X G c) (gd_is_things X G c) (gd__law_like X G c) (gd__law_some_share X G c) (gd__law_share_right X G c) (gd_is_share X G c) (gd__law_shuffled X G c) (gd__law_in_row X G c) (gd_in_row X G c) (gd__law_votes X G c) (gd_votes X G c) (gd__law_signature X G c) (gd_signature X G c)) fun vs H Q E hsp => ?_
  obtain ⟨a, ns, rfl, hl, hS, hQ⟩ := hsp
  obtain ⟨th, e⟩ := S ns hl
  exact law_sp e hS hQ
end
theorem holds (S : Sem) : PySem.Challenge.rw_pairlands_k39_thi_things.Holds := by
  w_on; o_law
  refine HandSHeadRun.head_any (r := PySem.W.OpenLaw.row PySem.Challenge.rw_pairlands_k39_thi_things) (q := PySem.W.view (PySem.W.OpenLaw.row PySem.Challenge.rw_pairlands_k39_thi_things).prog [47]) (H := hk) (ob := ob) (M := 4000) (loose := loose) (d := HandSHeadRun.topDef (PySem.W.OpenLaw.row PySem.Challenge.rw_pairlands_k39_thi_things).prog 47) (kwd := []) ob_eq
    (by kernel_rfl) (fun s => by kernel_rfl) run (by kernel_rfl) (by kernel_rfl) (by kernel_rfl) (by rfl) (by first | assumption | decide +kernel) (by decide +kernel) ⟨rfl, rfl, rfl, rfl, rfl, by decide +kernel⟩ ?hw ?hc
  case hw => w_witness2
  case hc =>
    refine L2.walk_ofE (l := PySem.Challenge.rw_pairlands_k39_thi_things) (n := 63) (k := 44) (x := "script") (CX := L2.CX0) rfl (by decide) (by kernel_rfl) ⟨rfl, by decide, by decide⟩ ?F (fun _ _ _ _ z => z)
    intro w mg fa h Y G hmg0
    obtain ⟨K, KX, c⟩ := Y
    have hmg : mg ("law" : PySem.Str) = some (.ref fa) := by
      have e : (HandSHeadRun.topDef (PySem.W.OpenLaw.row PySem.Challenge.rw_pairlands_k39_thi_things).prog 47).name = ("law" : PySem.Str) := by kernel_rfl
      rw [← e]
      exact hmg0
    obtain ⟨fd, hb, hF⟩ := law_ok (P := PySem.Challenge.rw_pairlands_k39_thi_things.prog) (w := w) S KX G c hmg
    exact ⟨K, fd, spLaw K, KX, hb, fun H a ns hl hO hS => ⟨a, ns, rfl, hl, sqs_of hO hS, fun _ => rfl⟩, hF⟩
end K39

namespace K39
open PySem PySem.Spec PyProof.Rows L2 TL
abbrev LET : Str := "abcdefghijklmnopqrstuvwxyz"
abbrev SGN : Str := "abcdefghijklmnopqrstuvwxyz0123456789"
def signsB (x y : Str) : Bool := x.cps.toList.all fun c => inS ⟨#[c]⟩ y
theorem are_signs_eq (x y : Str) (h : TH) (hx : x.length ≤ 100) : ∃ h', Gr h h' ∧ F__are_signs [.str x, .str y] h = .ok (.bl (signsB x y)) h' := by
  obtain ⟨h', g, e⟩ := all_lc (it := iSeq (eVar 0)) (g := gName 2) (e := eBin fIn (eVar 2) (eVar 1)) (vs := [2]) (σ := [some (.str x), some (.str y), none]) (h := h) (J := fun i _ => some ((x.cps[i]?).map fun c => Yv.val (.str ⟨#[c]⟩)))
    (ys := x.cps.toList.map fun c => Yv.val (.str ⟨#[c]⟩)) (q := fun z => match z with | .val (.str c) => inS c y | _ => false)
    ⟨h, by simp [iSeq, eVar, itSeq], Gr.refl h⟩ (fun i h' _ => by rw [strY]) (by rw [List.length_map, Array.length_toList]; have : x.length = x.cps.size := rfl; omega)
    fun z hz h' _ => by
      obtain ⟨c, _, rfl⟩ := List.mem_map.mp hz
      exact ⟨_, h', rfl, by simp [eBin, eVar, wipeT, fIn, fInB, inS], Gr.refl _⟩
  refine ⟨h', g, ?_⟩
  have e' : eCall fAll (aCons (eLc (iSeq (eVar 0)) (gName 2) mYes (eBin fIn (eVar 2) (eVar 1)) [2]) aNil) ([T.str x, T.str y].map some ++ List.replicate 1 none) h = _ := e
  simp only [F__are_signs, b__are_signs, runB, sRet, e', of_ok, signsB, List.all_map]
  rfl
/-- a name -/
def headB (x : Str) : Bool := match x.cps.toList with
  | c :: _ => inS ⟨#[c]⟩ LET
  | [] => false
def nameB (x : Str) : Bool := decide (1 ≤ x.length) && decide (x.length ≤ 10) && headB x && signsB x SGN
def isNm : T → Bool
  | .str x => nameB x
  | _ => false
theorem head_ix {x : Str} (h0 : 1 ≤ x.length) (h1 : x.length ≤ 10) (h : TH) : ∃ c, fIx (.str x) (.int 0) h = .ok (.str ⟨#[c]⟩) h ∧ headB x = inS ⟨#[c]⟩ LET := by
  have hl : x.length = x.cps.toList.length := by rw [Array.length_toList]; rfl
  cases e : x.cps.toList with
  | nil => rw [e] at hl; simp at hl; omega
  | cons c r =>
    refine ⟨c, ?_, by unfold headB; rw [e]⟩
    have a : atI (c :: r) 0 = some c := by
      unfold atI ixN
      rw [if_pos (by decide), if_pos (by simp)]; rfl
    simp only [fIx, e, a]
    rw [if_pos (by rw [sizeLine_eq]; omega)]
theorem cat_sgn : LET ++ ("0123456789" : Str) = SGN := by decide
theorem is_name_eq {b L n : Nat} {t : T} {h : TH} (x : Gd b L h n t) : ∃ h', Gr h h' ∧ F_is_name [t] h = .ok (.bl (isNm t)) h' := by
  have e0 := inst_str x
  cases t with
  | str z =>
    have hz : z.length ≤ 100 := by
      cases n with
      | zero => exact x.elim
      | succ n => exact x.1
    have hs : z.length ≤ sizeLine := by rw [sizeLine_eq]; omega
    by_cases h1 : 1 ≤ z.length
    · by_cases h2 : z.length ≤ 10
      · obtain ⟨c, e1, e2⟩ := head_ix h1 h2 h
        have h1' : (1 : Int) ≤ z.length := by omega
        have h2' : (z.length : Int) ≤ 10 := by omega
        obtain ⟨h', g, e3⟩ := are_signs_eq z SGN h hz
        cases hc : inS ⟨#[c]⟩ LET with
        | false =>
          refine ⟨h, Gr.refl h, ?_⟩
          simp only [inS] at hc
          simp [F_is_name, b_is_name, runB, sSeq, sIf, SRes.of, SRes.then, mOr, mNot, mB, eUn, eVar, e0, isS, eChain, eC, eCall, aCons, aNil, fLen, hs, fLe, h1', h2', sNil, sRet, eAnd, eBin, e1, fIn, fInB, hc, isNm, nameB, e2, inS]
        | true =>
          refine ⟨h', g, ?_⟩
          simp only [inS] at hc
          have l1 : LET.length + (("0123456789" : Str)).length ≤ sizeLine := by rw [sizeLine_eq]; decide
          simp [F_is_name, b_is_name, runB, sSeq, sIf, SRes.of, SRes.then, mOr, mNot, mB, eUn, eVar, e0, isS, eChain, eC, eCall, aCons, aNil, fLen, hs, fLe, h1', h2', sNil, sRet, eAnd, eBin, e1, fIn, fInB, hc, isNm, nameB, e2, inS, eCallF, fAdd, l1, cat_sgn, e3, h1, h2]
      · refine ⟨h, Gr.refl h, ?_⟩
        have h1' : (1 : Int) ≤ z.length := by omega
        have h2' : ¬ (z.length : Int) ≤ 10 := by omega
        simp [F_is_name, b_is_name, runB, sSeq, sIf, SRes.of, SRes.then, mOr, mNot, mB, eUn, eVar, e0, isS, eChain, eC, eCall, aCons, aNil, fLen, hs, fLe, h1', h2', sNil, sRet, isNm, nameB, h2]
    · refine ⟨h, Gr.refl h, ?_⟩
      have h1' : ¬ (1 : Int) ≤ z.length := by omega
      simp [F_is_name, b_is_name, runB, sSeq, sIf, SRes.of, SRes.then, mOr, mNot, mB, eUn, eVar, e0, isS, eChain, eC, eCall, aCons, aNil, fLen, hs, fLe, h1', sNil, sRet, isNm, nameB, h1]
  | _ =>
    refine ⟨h, Gr.refl h, ?_⟩
    simp [F_is_name, b_is_name, runB, sSeq, sIf, SRes.of, SRes.then, mOr, mNot, mB, eUn, eVar, e0, isS, sRet, eC, isNm]
def qv (f : T → Bool) : Yv → Bool
  | .val t => f t
  | _ => false
def q2 (f : T → T → Bool) : Yv → Bool
  | .parts [x, y] => f x y
  | .val (.tup [x, y]) => f x y
  | _ => false
theorem all_qv (f : T → Bool) (ts : List T) : (ts.map Yv.val).all (qv f) = ts.all f := by rw [List.all_map]; rfl
theorem sgn_dat {z : Str} (hc : PyData.canLay0 (.str z) = true) {c : Nat} (hm : c ∈ z.cps.toList) : ∃ d, (∀ h, dat 65 h (.str ⟨#[c]⟩) = some d) ∧ d.canLay0 = true ∧ d.depth = 0 := by
  refine ⟨.str ⟨#[c]⟩, fun _ => rfl, ?_, rfl⟩
  have h1 : z.cps.all (· < 0x110000) = true := hc
  have h2 : c < 0x110000 := by
    rw [Array.all_eq_true_iff_forall_mem] at h1
    have := h1 c (by simpa using hm)
    simpa using this
  show (#[c] : Array Nat).all (· < 0x110000) = true
  simp [h2]
theorem law_is_name_eq (z : Str) (h : TH) (hz : z.length ≤ 100) (hzc : PyData.canLay0 (.str z) = true) : ∃ h', Gr h h' ∧ F__law_is_name [.str z] h = .ok (.bl (nameB z)) h' := by
  have hs : z.length ≤ sizeLine := by rw [sizeLine_eq]; omega
  by_cases h1 : 1 ≤ z.length
  · by_cases h2 : z.length ≤ 10
    · obtain ⟨c, e1, e2⟩ := head_ix h1 h2 h
      have h1' : (1 : Int) ≤ z.length := by omega
      have h2' : (z.length : Int) ≤ 10 := by omega
      cases hc : inS ⟨#[c]⟩ LET with
      | false =>
        refine ⟨h, Gr.refl h, ?_⟩
        simp only [inS] at hc
        simp [F__law_is_name, b__law_is_name, runB, sSeq, sIf, SRes.of, SRes.then, mOr, mNot, mB, eVar, eChain, eC, eCall, aCons, aNil, fLen, hs, fLe, h1', h2', sRet, eBin, e1, fNotIn, fInB, hc, nameB, e2, inS]
      | true =>
        obtain ⟨h', g, e, _⟩ := nil_lc (it := iSeq (eVar 0)) (g := gName 1) (t := mB (eBin fNotIn (eVar 1) (eC (.str SGN)))) (e := eVar 1) (vs := [1]) (σ := [some (.str z), none]) (h := h) (J := fun i _ => some ((z.cps[i]?).map fun c => Yv.val (.str ⟨#[c]⟩)))
          (ys := z.cps.toList.map fun c => Yv.val (.str ⟨#[c]⟩)) (p := fun y => match y with | .val (.str c) => !inS c SGN | _ => false) (f := fun y => match y with | .val t => t | _ => .non)
          ⟨h, by simp [iSeq, eVar, itSeq], Gr.refl h⟩ (fun i h' _ => by rw [strY]) (by rw [List.length_map, Array.length_toList]; have : z.length = z.cps.size := rfl; omega)
          (fun y hy => by
            obtain ⟨c, hc, rfl⟩ := List.mem_map.mp hy
            exact sgn_dat hzc hc)
          fun y hy h' _ => by
            obtain ⟨c, _, rfl⟩ := List.mem_map.mp hy
            exact ⟨_, h', rfl, by simp [mB, eBin, eVar, wipeT, eC, fNotIn, fInB, inS], Gr.refl _, fun _ => ⟨h', rfl, Gr.refl _⟩⟩
        refine ⟨h', g, ?_⟩
        simp only [inS] at hc
        have e' : eBin fEq (eLc (iSeq (eVar 0)) (gName 1) (mB (eBin fNotIn (eVar 1) (eC (.str "abcdefghijklmnopqrstuvwxyz0123456789")))) (eVar 1) [1]) (eLst aNil) [some (.str z), none] h = .ok (.bl (signsB z SGN)) h' := by
          rw [e]
          congr 2
          unfold signsB
          rw [List.all_map]
          congr 1
          funext c
          simp
        unfold F__law_is_name b__law_is_name
        generalize eBin fEq (eLc (iSeq (eVar 0)) (gName 1) (mB (eBin fNotIn (eVar 1) (eC (.str "abcdefghijklmnopqrstuvwxyz0123456789")))) (eVar 1) [1]) (eLst aNil) = G at e' ⊢
        simp [runB, sSeq, sIf, SRes.of, SRes.then, mOr, mNot, mB, eVar, eChain, eC, eCall, aCons, aNil, fLen, hs, fLe, h1', h2', sRet, eBin, e1, fNotIn, fInB, hc, nameB, e2, inS, sNil, h1, h2, e']
    · refine ⟨h, Gr.refl h, ?_⟩
      have h1' : (1 : Int) ≤ z.length := by omega
      have h2' : ¬ (z.length : Int) ≤ 10 := by omega
      simp [F__law_is_name, b__law_is_name, runB, sSeq, sIf, SRes.of, SRes.then, mOr, mNot, mB, eVar, eChain, eC, eCall, aCons, aNil, fLen, hs, fLe, h1', h2', sRet, nameB, h2]
  · refine ⟨h, Gr.refl h, ?_⟩
    have h1' : ¬ (1 : Int) ≤ z.length := by omega
    simp [F__law_is_name, b__law_is_name, runB, sSeq, sIf, SRes.of, SRes.then, mOr, mNot, mB, eVar, eChain, eC, eCall, aCons, aNil, fLen, hs, fLe, h1', sRet, nameB, h1]
theorem named_eq {b L n : Nat} {t : T} {h : TH} (x : Gd b L h n t) : ∃ h', Gr h h' ∧ F__law_named [t] h = .ok (.bl (isNm t)) h' := by
  have e0 := inst_str x
  cases t with
  | str z =>
    have hz : z.length ≤ 100 ∧ PyData.canLay0 (.str z) = true := by
      cases n with
      | zero => exact x.elim
      | succ n => exact x
    obtain ⟨h', g, e⟩ := law_is_name_eq z h hz.1 hz.2
    refine ⟨h', g, ?_⟩
    simp [F__law_named, b__law_named, runB, sRet, SRes.of, eAnd, mB, eUn, eVar, e0, isS, eCallF, aCons, aNil, e, isNm]
  | _ =>
    refine ⟨h, Gr.refl h, ?_⟩
    simp [F__law_named, b__law_named, runB, sRet, SRes.of, eAnd, mB, eUn, eVar, e0, isS, isNm]
def tupB (f : List T → Bool) : T → Bool
  | .tup ns => f ns
  | _ => false
theorem isNm_strs : ∀ {ns : List T}, ns.all isNm = true → ∃ xs, strsT ns = some xs ∧ ns = xs.map T.str ∧ xs.all nameB = true
  | [], _ => ⟨[], rfl, rfl, rfl⟩
  | t :: ns, h => by
    rw [List.all_cons, Bool.and_eq_true] at h
    obtain ⟨xs, e1, e2, e3⟩ := isNm_strs h.2
    cases t with
    | str z => exact ⟨z :: xs, by simp [strsT, e1], by rw [e2]; rfl, by rw [List.all_cons, e3, Bool.and_true]; exact h.1⟩
    | _ => exact absurd h.1 (by simp [isNm])
theorem strs_isNm : ∀ {ns : List T} {xs : List Str}, strsT ns = some xs → ns.all isNm = xs.all nameB := by
  intro ns xs e
  rw [strsT_of e, List.all_map]; rfl
theorem ix_tup0 (a : T) (l : List T) (h : TH) : fIx (.tup (a :: l)) (.int 0) h = .ok a h := by
  have : atI (a :: l) 0 = some a := by
    unfold atI ixN
    rw [if_pos (by decide), if_pos (by first | (simp; done) | (simp; omega))]; rfl
  simp [fIx, itemsOf, this]
theorem ix_tup1 (a c : T) (l : List T) (h : TH) : fIx (.tup (a :: c :: l)) (.int 1) h = .ok c h := by
  have : atI (a :: c :: l) 1 = some c := by
    unfold atI ixN
    rw [if_pos (by decide), if_pos (by first | (simp; done) | (simp; omega))]; rfl
  simp [fIx, itemsOf, this]
theorem ix_tup2 (a c d : T) (l : List T) (h : TH) : fIx (.tup (a :: c :: d :: l)) (.int 2) h = .ok d h := by
  have : atI (a :: c :: d :: l) 2 = some d := by
    unfold atI ixN
    rw [if_pos (by decide), if_pos (by first | (simp; done) | (simp; omega))]; rfl
  simp [fIx, itemsOf, this]
/-- the strings of a good row -/
theorem gd_strs {b L n : Nat} {ns : List T} {xs : List Str} {h : TH} (x : Gd b L h n (.tup ns)) (e : ns = xs.map T.str) : ∀ z ∈ xs, okS z := by
  cases n with
  | zero => exact x.elim
  | succ n =>
    intro z hz
    have := x.2 (.str z) (by rw [e]; exact List.mem_map.mpr ⟨z, hz, rfl⟩)
    cases n with
    | zero => exact this.elim
    | succ n => exact this.2
theorem gd_pairs {b L n : Nat} {ps : List T} {qs : List (Str × Str)} {h : TH} (x : Gd b L h n (.tup ps)) (e : ps = qs.map ofPair) : ∀ q ∈ qs, okS q.1 ∧ okS q.2 := by
  cases n with
  | zero => exact x.elim
  | succ n =>
    intro q hq
    have h1 := x.2 (ofPair q) (by rw [e]; exact List.mem_map.mpr ⟨q, hq, rfl⟩)
    cases n with
    | zero => exact h1.elim
    | succ n =>
      have a := h1.2 (.str q.1) (by simp)
      have c := h1.2 (.str q.2) (by simp)
      cases n with
      | zero => exact a.elim
      | succ n => exact ⟨a.2, c.2⟩
theorem one_dat : ∃ d : PyData, (∀ h, dat 65 h (.int 1) = some d) ∧ d.canLay0 = true ∧ d.depth = 0 := ⟨.int 1, fun _ => rfl, rfl, rfl⟩
theorem sort_strs {xs : List Str} (hl : xs.length < 64) (h : TH) : fSortSet (.tup (xs.map T.str)) h = .ok (.ref h.length) (h ++ [.lst (((uniq xs).mergeSort leS).map T.str)]) := by
  have : strsT (xs.map T.str) = some xs := by
    clear hl
    induction xs with
    | nil => rfl
    | cons x xs ih => simp [strsT, ih]
  simp [fSortSet, itemsOf, hl, this]
theorem sort_pairs {qs : List (Str × Str)} (hl : qs.length < 64) (h : TH) : ∃ r : List (Str × Str), r = (uniq qs).mergeSort leP ∧ fSortSet (.tup (qs.map ofPair)) h = .ok (.ref h.length) (h ++ [.lst (r.map ofPair)]) := by
  have e1 : pairsT (qs.map ofPair) = some qs := by
    clear hl
    induction qs with
    | nil => rfl
    | cons x xs ih => simp [pairsT, pairT, ih]
  refine ⟨_, rfl, ?_⟩
  cases qs with
  | nil => simp [fSortSet, itemsOf, strsT, uniq]
  | cons q qs =>
    have e2 : strsT ((q :: qs).map ofPair) = none := rfl
    have e3 : intsOf ((q :: qs).map ofPair) = none := rfl
    have hl' : ((q :: qs).map ofPair).length < 64 := by rw [List.length_map]; exact hl
    simp only [fSortSet, itemsOf, hl', if_true, e2, e3, e1]
/-- rows and texts alone -/
def Ts (L : Nat) : Nat → T → Prop
  | 0, _ => False
  | n + 1, t => match t with
    | .str x => x.length ≤ 100 ∧ PyData.canLay0 (.str x) = true
    | .tup ts => ts.length ≤ L ∧ ∀ t ∈ ts, Ts L n t
    | _ => False
theorem Ts.gd {b L : Nat} {h : TH} : ∀ {n : Nat} {t : T}, Ts L n t → Gd b L h n t
  | 0, _, x => x.elim
  | n + 1, t, x => by
    cases t with
    | str _ => exact x
    | tup ts => exact ⟨x.1, fun t ht => Ts.gd (x.2 t ht)⟩
    | _ => exact x.elim
theorem pick_eq {h : TH} {q : Nat} {opts : List T} {r : Int} (e : h[q]? = some (.lst opts)) (h0 : 0 ≤ r) (h1 : r < opts.length) : ∃ t ∈ opts, fIx (.ref q) (.int r) h = .ok t h := by
  refine ⟨opts[r.toNat]'(by omega), List.getElem_mem _, ?_⟩
  simp [fIx, itemsOf, e, atI_nn h0 h1]
theorem draw_eq' {h : TH} {b d : Nat} {many : Int} (x : Bx h b d) (hm : 0 < many) : ∃ (r : Int) (h' : TH), F__law_draw [.ref b, .int many] h = .ok (.int r) h' ∧ 0 ≤ r ∧ r < many ∧ Bx h' b d ∧ Gw b h h' ∧ h'.length = h.length := draw_eq x hm
theorem bx_lt {h : TH} {b d : Nat} (x : Bx h b d) : b < h.length := let ⟨_, _, e, _⟩ := x; (List.getElem?_eq_some_iff.mp e).1
def turn_lc : ME := eLc (iR1 (aCons (eCall fLen (aCons (eVar 1) (aNil))) (aNil))) (TL.gName 3) (mYes) (eBin fIx (eVar 1) (eBin fSub (eBin fSub (eCall fLen (aCons (eVar 1) (aNil))) (eC (.int 1))) (eVar 3))) [3]
theorem iR1_int {as : ML} {σ : Sl} {h h1 : TH} {j : Int} (e : as σ h = .ok [.int j] h1) (h2 : -(2 ^ 62) ≤ j ∧ j < 2 ^ 62) : iR1 as σ h = .ok (itRng 0 j.toNat) h1 := by
  unfold iR1
  rw [e, bind_ok]
  exact if_pos h2
theorem iR2_int {as : ML} {σ : Sl} {h h1 : TH} {i j : Int} (e : as σ h = .ok [.int i, .int j] h1) (h2 : -(2 ^ 62) ≤ i ∧ i < 2 ^ 62 ∧ -(2 ^ 62) ≤ j ∧ j < 2 ^ 62) : iR2 as σ h = .ok (itRng i (j - i).toNat) h1 := by
  unfold iR2
  rw [e, bind_ok]
  exact if_pos h2
theorem rng1_eq {as : ML} {σ : Sl} {h h1 : TH} {n : Nat} (e : as σ h = .ok [.int (n : Int)] h1) (hn : n ≤ 1000000) : iR1 as σ h = .ok (itRng 0 n) h1 := by
  rw [iR1_int e ⟨by omega, by omega⟩, Int.toNat_natCast]
theorem rng2_eq {as : ML} {σ : Sl} {h h1 : TH} {i n : Nat} (e : as σ h = .ok [.int (i : Int), .int (n : Int)] h1) (hi : i ≤ 1000000) (hn : n ≤ 1000000) : iR2 as σ h = .ok (itRng i (n - i)) h1 := by
  rw [iR2_int e ⟨by omega, by omega, by omega, by omega⟩]
  have : ((n : Int) - i).toNat = n - i := by omega
  rw [this]
theorem turn_eq (b : Nat) (ts : List T) (h : TH) (hl : ts.length ≤ 100) : ∃ h' us, Gr h h' ∧ turn_lc [some (.ref b), some (.tup ts), none, none] h = .ok (.ref h'.length) (h' ++ [.lst us]) ∧ us.length = ts.length ∧ ∀ u ∈ us, u ∈ ts := by
  obtain ⟨h', g, e⟩ := eLc_gr (it := iR1 (aCons (eCall fLen (aCons (eVar 1) (aNil))) (aNil))) (g := TL.gName 3) (t := mYes) (e := eBin fIx (eVar 1) (eBin fSub (eBin fSub (eCall fLen (aCons (eVar 1) (aNil))) (eC (.int 1))) (eVar 3))) (vs := [3]) (σ := [some (.ref b), some (.tup ts), none, none]) (h := h)
    (J := itRng 0 ts.length) (ys := rngY 0 ts.length) (p := fun _ => true) (f := fun y => match y with | .val (.int k) => (atI ts ((ts.length : Int) - 1 - k)).getD .non | _ => .non)
    ⟨h, rng1_eq (by simp [aCons, aNil, eCall, eVar, fLen, itemsOf]) (by omega), Gr.refl h⟩ (fun i h' _ => rng_fix i h') (by rw [rngY_len]; omega)
    fun y hy h' g => by
      obtain ⟨i, hi, ei⟩ := List.getElem_of_mem hy
      obtain ⟨q1, rfl⟩ := rngY_at (by rw [List.getElem?_eq_getElem hi, ei])
      have hp : 0 ≤ (ts.length : Int) - 1 - (0 + (i : Nat)) ∧ (ts.length : Int) - 1 - (0 + (i : Nat)) < ts.length := by omega
      have ea := atI_nn hp.1 hp.2
      refine ⟨_, h', rfl, rfl, Gr.refl _, fun _ => ⟨h', ?_, Gr.refl _⟩⟩
      have ea' : atI ts ((ts.length : Int) - 1 - (0 + (i : Int))) = _ := ea
      simp only [eBin, eVar, wipeT, List.set, List.getElem?_cons_zero, List.getElem?_cons_succ, bind_ok, eCall, aCons, aNil, fLen, itemsOf, eC, fSub, fIx, ea', Option.getD]
  refine ⟨h', _, g, e, ?_, fun u hu => ?_⟩
  · rw [List.length_map, List.filter_eq_self.mpr (fun _ _ => rfl), rngY_len]
  · obtain ⟨y, hy, rfl⟩ := List.mem_map.mp hu
    obtain ⟨i, hi, ei⟩ := List.getElem_of_mem (List.mem_filter.mp hy).1
    obtain ⟨q1, rfl⟩ := rngY_at (by rw [List.getElem?_eq_getElem hi, ei])
    have hp : 0 ≤ (ts.length : Int) - 1 - (0 + (i : Nat)) ∧ (ts.length : Int) - 1 - (0 + (i : Nat)) < ts.length := by omega
    have ea := atI_nn hp.1 hp.2
    show (atI ts ((ts.length : Int) - 1 - (0 + (i : Nat)))).getD .non ∈ ts
    rw [ea]
    exact List.getElem_mem _
theorem eTup_ok {as : ML} {σ : Sl} {h h1 : TH} {ts : List T} (e : as σ h = .ok ts h1) (hl : ts.length ≤ 1000000) : eTup as σ h = .ok (.tup ts) h1 := by
  unfold eTup
  rw [e, bind_ok]
  exact if_pos (by rw [sizeLine_eq]; omega)
theorem eLst_ok {as : ML} {σ : Sl} {h h1 : TH} {ts : List T} (e : as σ h = .ok ts h1) (hl : ts.length ≤ 1000000) : eLst as σ h = .ok (.ref h1.length) (h1 ++ [.lst ts]) := by
  unfold eLst
  rw [e, bind_ok]
  exact if_pos (by rw [sizeLine_eq]; omega)
theorem fAdd_tup {a c : List T} {h : TH} (hl : a.length + c.length ≤ 1000000) : fAdd (.tup a) (.tup c) h = .ok (.tup (a ++ c)) h := by
  unfold fAdd
  exact if_pos (by rw [sizeLine_eq]; omega)
theorem eBin_ok {f : Op2} {a c : ME} {σ : Sl} {h h1 h2 : TH} {x y : T} (e1 : a σ h = .ok x h1) (e2 : c σ h1 = .ok y h2) : eBin f a c σ h = f x y h2 := by
  unfold eBin
  rw [e1, bind_ok, e2, bind_ok]
theorem aCons_ok {a : ME} {r : ML} {σ : Sl} {h h1 h2 : TH} {x : T} {xs : List T} (e1 : a σ h = .ok x h1) (e2 : r σ h1 = .ok xs h2) : aCons a r σ h = .ok (x :: xs) h2 := by
  unfold aCons
  rw [e1, bind_ok, e2, bind_ok]
theorem eCall_ok {g : Fn} {as : ML} {σ : Sl} {h h1 : TH} {xs : List T} (e : as σ h = .ok xs h1) : eCall g as σ h = g xs h1 := by
  unfold eCall
  rw [e, bind_ok]
theorem eCallF_ok {n : Nat} {g : Fn} {as : ML} {σ : Sl} {h h1 : TH} {xs : List T} (e : as σ h = .ok xs h1) (hl : xs.length = n) : eCallF n g as σ h = g xs h1 := by
  unfold eCallF
  rw [e, bind_ok]
  exact if_pos hl
theorem var_ok {i : Nat} {σ : Sl} {h : TH} {t : T} (e : σ[i]? = some (some t)) : eVar i σ h = .ok t h := by
  unfold eVar
  rw [e]
theorem nil_ok {σ : Sl} {h : TH} : aNil σ h = .ok [] h := rfl
theorem c_ok {t : T} {σ : Sl} {h : TH} : eC t σ h = .ok t h := rfl
theorem sRet_ok {a : ME} {σ : Sl} {h h1 : TH} {t : T} (e : a σ h = .ok t h1) : sRet a σ h = .rt t h1 := by
  unfold sRet
  rw [e, of_ok]
theorem sSet_ok {a : ME} {i : Nat} {σ : Sl} {h h1 : TH} {t : T} (e : a σ h = .ok t h1) : sSet i a σ h = .nx (σ.set i (some t)) h1 := by
  unfold sSet
  rw [e, of_ok]
theorem sSeq_nx {a c : MS} {σ σ1 : Sl} {h h1 : TH} (e : a σ h = .nx σ1 h1) : sSeq a c σ h = c σ1 h1 := by
  unfold sSeq
  rw [e]; rfl
theorem sSeq_rt {a c : MS} {σ : Sl} {h h1 : TH} {t : T} (e : a σ h = .rt t h1) : sSeq a c σ h = .rt t h1 := by
  unfold sSeq
  rw [e]; rfl
theorem sIf_ok {t : MB} {a c : MS} {σ : Sl} {h h1 : TH} {k : Bool} (e : t σ h = .ok k h1) : sIf t a c σ h = if k = true then a σ h1 else c σ h1 := by
  unfold sIf
  rw [e, of_ok]
theorem runB_rt {m : MS} {nl : Nat} {ts : List T} {h h1 : TH} {t : T} (e : m (ts.map some ++ List.replicate nl none) h = .rt t h1) : runB m nl ts h = .ok t h1 := by
  unfold runB
  rw [e]
/-- what may come of a row, of a text -/
theorem other_tup {b d L n : Nat} {ts : List T} {h : TH} (x : Ts L (n + 1) (.tup ts)) (B : Bx h b d) (hL : L ≤ 50) : ∃ t' h', F__law_other [.ref b, .tup ts] h = .ok t' h' ∧ Gd b (L + 1) h' (n + 2) t' ∧ Bx h' b d ∧ Gw b h h' := by
  have hl : ts.length ≤ L := x.1
  obtain ⟨h1, us, g1, e1, lu, mu⟩ := turn_eq b ts h (by omega)
  have hb := bx_lt B
  have c1 : cutL ts none (some 1) = ts.take 1 := by
    unfold cutL
    have q1 : HT.sIx ts.length 0 none = 0 := rfl
    have q2 : HT.sIx ts.length ts.length (some 1) = min 1 ts.length := HT.sIx_nat ts.length ts.length 1
    rw [q1, q2]
    cases ts with
    | nil => rfl
    | cons a l => simp
  -- the rows made
  let h2 := h1 ++ [TO.lst us]
  let h3 := h2 ++ [TO.lst ts]
  let opts : List T := [.ref h2.length, .tup (ts ++ ts.take 1), .tup (ts.drop 1), .non, .tup [], .tup us]
  let h4 := h3 ++ [TO.lst opts]
  have G4 : Gr h h4 := ((g1.trans (Gr.app h1 [TO.lst us])).trans (Gr.app h2 [TO.lst ts])).trans (Gr.app h3 [TO.lst opts])
  obtain ⟨r, h5, e5, r0, r1, B5, G5, l5⟩ := draw_eq' (G4.bx B) (many := 6) (by decide)
  have hh : h.length ≤ h1.length := (g1.gw b).len
  have nb : ∀ q, h.length ≤ q → q ≠ b := fun q hq e => by omega
  have k4 : h5[h3.length]? = some (.lst opts) := G5.at_ _ _ (nb _ (by simp [h3, h2]; omega)) (get_last h3 _)
  obtain ⟨t', mt, et⟩ := pick_eq k4 r0 (by simpa [opts] using r1)
  refine ⟨t', h5, ?_, ?_, B5, (G4.gw b).trans G5⟩
  · have i1 : fIsInst .tup (.tup ts) h = .ok (.bl true) h := by simp [fIsInst, tyT, Ty.is]
    let σ1 : Sl := [some (.ref b), some (.tup ts), none, none]
    let σ2 : Sl := [some (.ref b), some (.tup ts), some (.tup us), none]
    have p1 : mB (eUn (fIsInst .tup) (eVar 1)) σ1 h = .ok true h := by
      unfold mB eUn
      rw [var_ok (t := .tup ts) rfl, bind_ok, i1, bind_ok]
    have p2 : eCall fTuple (aCons turn_lc aNil) σ1 h = .ok (.tup us) h2 := by
      rw [eCall_ok (aCons_ok e1 nil_ok)]
      show (match itemsOf h2 (.ref h1.length) with | some l => Res.ok (T.tup l) h2 | none => .stuck) = _
      have : itemsOf h2 (.ref h1.length) = some us := by
        show (match h2[h1.length]? with | some (.lst ts) => some ts | _ => none) = _
        rw [show h2[h1.length]? = some (.lst us) from get_last h1 _]
      rw [this]
    have v0 : ∀ h, eVar 0 σ2 h = .ok (.ref b) h := fun h => var_ok rfl
    have v1 : ∀ h, eVar 1 σ2 h = .ok (.tup ts) h := fun h => var_ok rfl
    have v2 : ∀ h, eVar 2 σ2 h = .ok (.tup us) h := fun h => var_ok rfl
    have o1 : eCall fList (aCons (eVar 1) aNil) σ2 h2 = .ok (.ref h2.length) h3 := by
      rw [eCall_ok (aCons_ok (v1 _) nil_ok)]; rfl
    have o2s : eSlice (eVar 1) oNone (oSome (eC (.int 1))) σ2 h3 = .ok (.tup (ts.take 1)) h3 := by
      unfold eSlice oNone oSome eC
      rw [v1, bind_ok, bind_ok, bind_ok, bind_ok]
      show Res.ok (T.tup (cutL ts none (some 1))) h3 = _
      rw [c1]
    have o2 : eBin fAdd (eVar 1) (eSlice (eVar 1) oNone (oSome (eC (.int 1)))) σ2 h3 = .ok (.tup (ts ++ ts.take 1)) h3 := by
      rw [eBin_ok (v1 _) o2s]
      exact fAdd_tup (by simp; omega)
    have o3 : eSlice (eVar 1) (oSome (eC (.int 1))) oNone σ2 h3 = .ok (.tup (ts.drop 1)) h3 := by
      unfold eSlice oNone oSome eC
      rw [v1, bind_ok, bind_ok, bind_ok, bind_ok]
      show Res.ok (T.tup (cutL ts (some 1) none)) h3 = _
      rw [cut1]
    have o5 : eTup aNil σ2 h3 = .ok (.tup []) h3 := eTup_ok rfl (by simp)
    have oo := eLst_ok (aCons_ok o1 (aCons_ok o2 (aCons_ok o3 (aCons_ok (show eC .non σ2 h3 = .ok .non h3 from rfl) (aCons_ok o5 (aCons_ok (v2 h3) (show aNil σ2 h3 = .ok [] h3 from rfl))))))) (by simp)
    have od : eCallF 2 F__law_draw (aCons (eVar 0) (aCons (eC (.int 6)) aNil)) σ2 h4 = .ok (.int r) h5 := by
      exact (eCallF_ok (aCons_ok (v0 h4) (aCons_ok c_ok nil_ok)) rfl).trans e5
    refine runB_rt ?_
    refine sSeq_rt ((sIf_ok p1).trans ((if_pos rfl).trans ((sSeq_nx (sSet_ok p2)).trans (sRet_ok ?_))))
    exact (eBin_ok oo od).trans et
  · have G45 : Gw b h h5 := (G4.gw b).trans G5
    have gt : ∀ t ∈ ts, Gd b (L + 1) h5 (n + 1) t := fun t ht => (Ts.gd (x.2 t ht)).mono (h := h5) (by omega) (Gw.refl b h5) (by omega)
    have k3 : h5[h2.length]? = some (.lst ts) := G5.at_ _ _ (nb _ (by simp [h2]; omega)) (app_get _ (get_last h2 _))
    simp only [opts, List.mem_cons, List.not_mem_nil, or_false] at mt
    rcases mt with rfl | rfl | rfl | rfl | rfl | rfl
    · exact ⟨nb _ (by simp [h2]; omega), ts, k3, by omega, gt⟩
    · refine ⟨by simp; omega, fun t ht => ?_⟩
      rcases List.mem_append.mp ht with z | z
      · exact gt t z
      · exact gt t (List.mem_of_mem_take z)
    · exact ⟨by simp; omega, fun t ht => gt t (List.mem_of_mem_drop ht)⟩
    · trivial
    · exact ⟨by simp, fun t ht => by cases ht⟩
    · exact ⟨by omega, fun t ht => gt t (mu t ht)⟩
def words : List T := [.str "a0", .str "a1", .str "h0", .str "h1", .str "market", .str "a", .str "A", .str "", .str "x y", .non, .str "abcdefghijk"]
theorem words_gd {b L n : Nat} {h : TH} : ∀ t ∈ words, Gd b L h (n + 1) t := by
  intro t ht
  simp only [words, List.mem_cons, List.not_mem_nil, or_false] at ht
  rcases ht with rfl | rfl | rfl | rfl | rfl | rfl | rfl | rfl | rfl | rfl | rfl
  all_goals first | trivial | exact ⟨by decide +kernel, by decide +kernel⟩
theorem other_str {b d L n : Nat} {z : Str} {h : TH} (B : Bx h b d) : ∃ t' h', F__law_other [.ref b, .str z] h = .ok t' h' ∧ Gd b L h' (n + 1) t' ∧ Bx h' b d ∧ Gw b h h' := by
  have hb := bx_lt B
  obtain ⟨r, h5, e5, r0, r1, B5, G5, l5⟩ := draw_eq' ((Gr.app h [TO.lst words]).bx B) (many := 11) (by decide)
  have k4 : h5[h.length]? = some (.lst words) := G5.at_ _ _ (by omega) (get_last h _)
  obtain ⟨t', mt, et⟩ := pick_eq k4 r0 (by simpa [words] using r1)
  refine ⟨t', h5, ?_, words_gd t' mt, B5, ((Gr.app h _).gw b).trans G5⟩
  have i1 : fIsInst .tup (.str z) h = .ok (.bl false) h := by simp [fIsInst, tyT, Ty.is]
  have i2 : fIsInst .str (.str z) h = .ok (.bl true) h := by simp [fIsInst, tyT, Ty.is]
  have l11 : (11 : Nat) ≤ sizeLine := by rw [sizeLine_eq]; omega
  have e5' : F__law_draw [.ref b, .int 11] (h ++ [TO.lst [.str "a0", .str "a1", .str "h0", .str "h1", .str "market", .str "a", .str "A", .str "", .str "x y", .non, .str "abcdefghijk"]]) = .ok (.int r) h5 := e5
  simp only [F__law_other, b__law_other, runB, List.map_cons, List.map_nil, List.cons_append, List.nil_append, List.replicate, sSeq, sIf, mB, eUn, eVar, List.getElem?_cons_zero, List.getElem?_cons_succ, bind_ok, i1, i2, of_ok, if_true, Bool.false_eq_true, if_false, sNil, SRes.then, sRet, eBin, eLst, aCons, aNil, eC, List.length_nil, List.length_cons, eCallF, e5', et, l11]
theorem eq_unit {b L n : Nat} {ts : List T} {h : TH} (x : Gd b L h n (.tup ts)) (hn : n ≤ 60) : fEqB (.tup ts) (.tup []) h = .ok (decide (ts = [])) h := by
  obtain ⟨d, e, c, dp⟩ := gd_dat x 66 (by omega)
  have e' := e
  rw [show (66 : Nat) = 65 + 1 from rfl] at e'
  have : ∃ ds, ts.mapM (dat 65 h) = some ds ∧ d = .tuple ds := by
    have e2 : (ts.mapM (dat 65 h)).map PyData.tuple = some d := e'
    rw [Option.map_eq_some_iff] at e2
    obtain ⟨ds, q1, q2⟩ := e2
    exact ⟨ds, q1, q2.symm⟩
  obtain ⟨ds, q1, rfl⟩ := this
  have hl := (mapM_some q1).1
  have sd : SeqAt.shaped (.tuple ds) = true := by
    unfold SeqAt.shaped
    rw [c, Bool.true_and, decide_eq_true_eq]; omega
  have s0 : SeqAt.shaped (.tuple []) = true := by decide
  have d0 : dat 66 h (.tup []) = some (.tuple []) := rfl
  unfold fEqB
  simp only [e, d0, sd, s0, and_self, if_true]
  cases ts with
  | nil => cases ds with
    | nil => rfl
    | cons d ds => simp at hl
  | cons t l => cases ds with
    | nil => simp at hl
    | cons d ds => simp [PyData.eqv, PyData.eqvAll]
theorem cut_take {α : Type} (l : List α) (k : Nat) (hk : k ≤ l.length) : cutL l none (some (k : Int)) = l.take k := by
  unfold cutL
  have q1 : HT.sIx l.length 0 none = 0 := rfl
  have q2 : HT.sIx l.length l.length (some (k : Int)) = min k l.length := HT.sIx_nat l.length l.length k
  rw [q1, q2, Nat.min_eq_left hk]
  simp
theorem cut_drop {α : Type} (l : List α) (k : Nat) (hk : k ≤ l.length) : cutL l (some (k : Int)) none = l.drop k := by
  unfold cutL
  have q1 : HT.sIx l.length 0 (some (k : Int)) = min k l.length := HT.sIx_nat l.length 0 k
  have q2 : HT.sIx l.length l.length none = l.length := rfl
  rw [q1, q2, Nat.min_eq_left hk]
  rw [List.take_of_length_le (by simp)]
abbrev mCh : MB := mOr (mNot (mB (eUn (fIsInst .tup) (eVar 1)))) (mOr (mB (eBin fEq (eVar 1) (eTup (aNil)))) (mB (eBin fEq (eCallF 2 F__law_draw (aCons (eVar 0) (aCons (eC (.int 9)) (aNil)))) (eC (.int 0)))))
section
variable {b d L n : Nat} {ts : List T} {h h1 : TH}
theorem mCh_a (hq : fEqB (.tup ts) (.tup []) h = .ok true h) : mCh [some (.ref b), some (.tup ts), none] h = .ok true h := by
  have i1 : fIsInst .tup (.tup ts) h = .ok (.bl true) h := by simp [fIsInst, tyT, Ty.is]
  have v1 : eVar 1 [some (.ref b), some (.tup ts), none] h = .ok (.tup ts) h := var_ok rfl
  have t2 : eBin fEq (eVar 1) (eTup aNil) [some (.ref b), some (.tup ts), none] h = .ok (.bl true) h := by
    rw [eBin_ok v1 (eTup_ok nil_ok (by simp))]
    unfold fEq
    rw [hq, bind_ok]
  unfold mCh mOr mNot mB eUn
  rw [v1, bind_ok, i1, bind_ok, bind_ok, bind_ok]
  simp only [Bool.not_true, Bool.false_eq_true, if_false]
  rw [t2, bind_ok, bind_ok]
  rfl
theorem mCh_b {r : Int} (hq : fEqB (.tup ts) (.tup []) h = .ok false h) (e1 : F__law_draw [.ref b, .int 9] h = .ok (.int r) h1) : mCh [some (.ref b), some (.tup ts), none] h = .ok (decide (r = 0)) h1 := by
  have i1 : fIsInst .tup (.tup ts) h = .ok (.bl true) h := by simp [fIsInst, tyT, Ty.is]
  have v0 : eVar 0 [some (.ref b), some (.tup ts), none] h = .ok (.ref b) h := var_ok rfl
  have v1 : eVar 1 [some (.ref b), some (.tup ts), none] h = .ok (.tup ts) h := var_ok rfl
  have t2 : eBin fEq (eVar 1) (eTup aNil) [some (.ref b), some (.tup ts), none] h = .ok (.bl false) h := by
    rw [eBin_ok v1 (eTup_ok nil_ok (by simp))]
    unfold fEq
    rw [hq, bind_ok]
  have t3 : eBin fEq (eCallF 2 F__law_draw (aCons (eVar 0) (aCons (eC (.int 9)) aNil))) (eC (.int 0)) [some (.ref b), some (.tup ts), none] h = .ok (.bl (decide (r = 0))) h1 :=
    eBin_ok ((eCallF_ok (n := 2) (aCons_ok v0 (aCons_ok c_ok nil_ok)) rfl).trans e1) c_ok
  unfold mCh mOr mNot mB eUn
  rw [v1, bind_ok, i1, bind_ok, bind_ok, bind_ok]
  simp only [Bool.not_true, Bool.false_eq_true, if_false]
  rw [t2, bind_ok, bind_ok]
  simp only [Bool.false_eq_true, if_false]
  rw [t3, bind_ok]
theorem ch_other {g : Fn} {h2 : TH} {t' : T} (tt : mCh [some (.ref b), some (.tup ts), none] h = .ok true h1) (e : F__law_other [.ref b, .tup ts] h1 = .ok t' h2) : runB (b__law_changed g) 1 [.ref b, .tup ts] h = .ok t' h2 := by
  have v0 : eVar 0 [some (.ref b), some (.tup ts), none] h1 = .ok (.ref b) h1 := var_ok rfl
  have v1 : eVar 1 [some (.ref b), some (.tup ts), none] h1 = .ok (.tup ts) h1 := var_ok rfl
  refine runB_rt ?_
  exact sSeq_rt ((sIf_ok tt).trans ((if_pos rfl).trans (sRet_ok ((eCallF_ok (aCons_ok v0 (aCons_ok v1 nil_ok)) rfl).trans e))))
theorem ch_in {g : Fn} {h2 h3 : TH} {t' : T} {q : Int} {k : Nat} (tt : mCh [some (.ref b), some (.tup ts), none] h = .ok false h1) (e2 : F__law_draw [.ref b, .int 900] h1 = .ok (.int q) h2) (hl : ts.length ≤ 50) (hk : q % (ts.length : Int) = k) (hkl : k < ts.length) (e3 : g [.ref b, ts[k]] h2 = .ok t' h3) :
    runB (b__law_changed g) 1 [.ref b, .tup ts] h = .ok (.tup (ts.take k ++ [t'] ++ ts.drop (k + 1))) h3 := by
  have c1 := cut_take ts k (by omega)
  have c2 : cutL ts (some ((k : Int) + 1)) none = ts.drop (k + 1) := cut_drop ts (k + 1) (by omega)
  have lp : (0 : Int) < ts.length := by omega
  have ea : atI ts (k : Int) = some ts[k] := by
    rw [atI_nn (by omega) (by omega)]
    simp
  have v0 : ∀ h, eVar 0 [some (.ref b), some (.tup ts), none] h = .ok (.ref b) h := fun h => var_ok rfl
  have v1 : ∀ h, eVar 1 [some (.ref b), some (.tup ts), none] h = .ok (.tup ts) h := fun h => var_ok rfl
  have w0 : ∀ h, eVar 0 [some (.ref b), some (.tup ts), some (.int k)] h = .ok (.ref b) h := fun h => var_ok rfl
  have w1 : ∀ h, eVar 1 [some (.ref b), some (.tup ts), some (.int k)] h = .ok (.tup ts) h := fun h => var_ok rfl
  have w2 : ∀ h, eVar 2 [some (.ref b), some (.tup ts), some (.int k)] h = .ok (.int k) h := fun h => var_ok rfl
  have t4 : eBin fMod (eCallF 2 F__law_draw (aCons (eVar 0) (aCons (eC (.int 900)) aNil))) (eCall fLen (aCons (eVar 1) aNil)) [some (.ref b), some (.tup ts), none] h1 = .ok (.int k) h2 := by
    have a2 : eCall fLen (aCons (eVar 1) aNil) [some (.ref b), some (.tup ts), none] h2 = .ok (.int ts.length) h2 := (eCall_ok (aCons_ok (v1 h2) nil_ok)).trans rfl
    rw [eBin_ok ((eCallF_ok (n := 2) (aCons_ok (v0 h1) (aCons_ok c_ok nil_ok)) rfl).trans e2) a2]
    unfold fMod
    rw [← hk]
    exact if_pos lp
  have o1 : eSlice (eVar 1) oNone (oSome (eVar 2)) [some (.ref b), some (.tup ts), some (.int k)] h2 = .ok (.tup (ts.take k)) h2 := by
    unfold eSlice oNone oSome
    rw [w1, bind_ok, bind_ok, w2, bind_ok, bind_ok, ← c1]
    rfl
  have o2x : eBin fIx (eVar 1) (eVar 2) [some (.ref b), some (.tup ts), some (.int k)] h2 = .ok ts[k] h2 := by
    rw [eBin_ok (w1 h2) (w2 h2)]
    unfold fIx
    simp only [itemsOf, ea]
  have o2 : eTup (aCons (eCallF 2 g (aCons (eVar 0) (aCons (eBin fIx (eVar 1) (eVar 2)) aNil))) aNil) [some (.ref b), some (.tup ts), some (.int k)] h2 = .ok (.tup [t']) h3 :=
    eTup_ok (aCons_ok ((eCallF_ok (aCons_ok (w0 h2) (aCons_ok o2x nil_ok)) rfl).trans e3) nil_ok) (by simp)
  have o3 : eSlice (eVar 1) (oSome (eBin fAdd (eVar 2) (eC (.int 1)))) oNone [some (.ref b), some (.tup ts), some (.int k)] h3 = .ok (.tup (ts.drop (k + 1))) h3 := by
    have : eBin fAdd (eVar 2) (eC (.int 1)) [some (.ref b), some (.tup ts), some (.int k)] h3 = .ok (.int ((k : Int) + 1)) h3 := (eBin_ok (w2 h3) c_ok).trans rfl
    unfold eSlice oNone oSome
    rw [w1, bind_ok, this, bind_ok, bind_ok, bind_ok, ← c2]
    rfl
  refine runB_rt ?_
  refine (sSeq_nx ((sIf_ok tt).trans (if_neg (by decide)))).trans ((sSeq_nx (sSet_ok t4)).trans (sRet_ok ?_))
  exact (eBin_ok ((eBin_ok o1 o2).trans (fAdd_tup (by simp; omega))) o3).trans (fAdd_tup (by simp; omega))
end
/-- a thing with one thing in it changed -/
theorem changed_eq {b d L : Nat} (hL : L ≤ 50) (n : Nat) : ∀ (t : T) (h : TH) (m : Nat), Ts L n t → n ≤ 50 → n ≤ m → Bx h b d → ∃ t' h', recF b__law_changed 1 m [.ref b, t] h = .ok t' h' ∧ Gd b (L + 1) h' (n + 1) t' ∧ Bx h' b d ∧ Gw b h h' := by
  induction n with
  | zero => intro _ _ _ x; exact x.elim
  | succ n ih =>
    intro t h m x hn hm B
    cases m with
    | zero => omega
    | succ m =>
    cases t with
    | str z =>
      obtain ⟨t', h', e, g, B', G⟩ := other_str (L := L + 1) (n := n + 1) (z := z) B
      refine ⟨t', h', ?_, g, B', G⟩
      have i1 : fIsInst .tup (.str z) h = .ok (.bl false) h := by simp [fIsInst, tyT, Ty.is]
      have v0 : eVar 0 [some (.ref b), some (.str z), none] h = .ok (.ref b) h := var_ok rfl
      have v1 : eVar 1 [some (.ref b), some (.str z), none] h = .ok (.str z) h := var_ok rfl
      have tt : mCh [some (.ref b), some (.str z), none] h = .ok true h := by
        unfold mCh mOr mNot mB eUn
        rw [v1, bind_ok, i1, bind_ok, bind_ok, bind_ok]
        rfl
      exact runB_rt (sSeq_rt ((sIf_ok tt).trans ((if_pos rfl).trans (sRet_ok ((eCallF_ok (aCons_ok v0 (aCons_ok v1 nil_ok)) rfl).trans e)))))
    | tup ts =>
      have gd : Gd b L h (n + 1) (.tup ts) := Ts.gd x
      have eu := eq_unit gd (by omega)
      by_cases ht : ts = []
      · obtain ⟨t', h', e, g, B', G⟩ := other_tup x B hL
        exact ⟨t', h', ch_other (mCh_a (by rw [eu, decide_eq_true ht])) e, g, B', G⟩
      · have eu' : fEqB (.tup ts) (.tup []) h = .ok false h := by rw [eu, decide_eq_false ht]
        obtain ⟨r, h1, e1, r0, r1, B1, G1, l1⟩ := draw_eq' B (many := 9) (by decide)
        by_cases hr : r = 0
        · obtain ⟨t', h', e, g, B', G⟩ := other_tup x B1 hL
          exact ⟨t', h', ch_other ((mCh_b eu' e1).trans (by rw [decide_eq_true hr])) e, g, B', G1.trans G⟩
        · obtain ⟨q, h2, e2, q0, q1, B2, G2, l2⟩ := draw_eq' B1 (many := 900) (by decide)
          have hpos : 0 < ts.length := List.length_pos_iff.mpr ht
          have a0 : 0 ≤ q % (ts.length : Int) := Int.emod_nonneg _ (by omega)
          have a1 : q % (ts.length : Int) < ts.length := Int.emod_lt_of_pos _ (by omega)
          obtain ⟨k, hk⟩ : ∃ k : Nat, q % (ts.length : Int) = k := ⟨(q % (ts.length : Int)).toNat, by omega⟩
          have hkl : k < ts.length := by omega
          have hts : ts.length ≤ L := x.1
          obtain ⟨t', h3, e3, g3, B3, G3⟩ := ih ts[k] h2 m (x.2 _ (List.getElem_mem _)) (by omega) (by omega) B2
          refine ⟨.tup (ts.take k ++ [t'] ++ ts.drop (k + 1)), h3, ch_in ((mCh_b eu' e1).trans (by rw [decide_eq_false hr])) e2 (by omega) hk hkl e3, ?_, B3, (G1.trans G2).trans G3⟩
          have gt : ∀ t ∈ ts, Gd b (L + 1) h3 (n + 1) t := fun t ht => (Ts.gd (x.2 t ht)).mono (h := h3) (by omega) (Gw.refl b h3) (by omega)
          refine ⟨by simp; omega, fun t ht => ?_⟩
          rcases List.mem_append.mp ht with z | z
          · rcases List.mem_append.mp z with z | z
            · exact gt t (List.mem_of_mem_take z)
            · rw [List.mem_singleton.mp z]; exact g3
          · exact gt t (List.mem_of_mem_drop z)
    | _ => exact x.elim
end K39

namespace K39
open PySem PySem.Spec PyProof.Rows L2 TL
/-! ### is_things -/
def madeB (z : Str) (k : Nat) : T → Bool
  | .tup ts => decide (ts.length = k) && (match ts with
    | a :: _ => eqS z a
    | [] => false)
  | _ => false
theorem made_eq {b L n : Nat} {t : T} {h : TH} (x : Gd b L h n t) (hn : n ≤ 60) {z : Str} (hz : okS z) (k : Nat) (hk : 0 < k) : F_is_made [t, .str z, .int k] h = .ok (.bl (madeB z k t)) h := by
  have w : W (F_is_made [t, .str z, .int k] h) fun a h' => a = .bl (madeB z k t) ∧ h' = h := by
    refine w_run ?_
    unfold b_is_made
    walk_at "TL on"
    refine W.eq (inst_tup x) ?_
    walk_at "TL on"
    refine ⟨fun hc => ?_, fun hc => ?_⟩
    · refine ⟨?_, rfl⟩
      cases t <;> simp_all [isT, madeB]
    · cases t with
      | tup ts =>
        walk_at "TL on"
        refine ⟨fun hl => ?_, fun hl => ?_⟩
        · refine ⟨?_, rfl⟩
          have : ¬ ts.length = k := by simp at hl; omega
          simp [madeB, this]
        · have hl' : ts.length = k := by simp at hl; omega
          walk_at "TL on"
          cases ts with
          | nil => simp at hl'; omega
          | cons a r =>
            walk_at "TL on"
            have xa : Gd b L h (n - 1) a := by
              cases n with
              | zero => exact x.elim
              | succ n => exact x.2 a List.mem_cons_self
            refine w_eq (eq_str z hz xa (by omega)) ⟨?_, rfl⟩
            simp [madeB, hl']
      | _ => simp [isT] at hc
  obtain ⟨a, h', e, rfl, rfl⟩ := w
  exact e
/-- not two the same -/
def unS (xs : List Str) : Bool := decide ((uniq xs).length = xs.length)
def namesU (ns : List T) : Bool := match strsT ns with
  | some xs => xs.all nameB && unS xs
  | none => false
theorem lenset_strs {xs : List Str} (hl : xs.length < 64) (h : TH) : fLenSet (.tup (xs.map T.str)) h = .ok (.int (uniq xs).length) h := by
  simp only [fLenSet, itemsOf, List.length_map, hl, if_true, strsT_map]
theorem are_names_eq {b L n : Nat} {t : T} {h : TH} (x : Gd b L h n t) (hL : L ≤ 60) : ∃ h', Gr h h' ∧ F_are_names [t] h = .ok (.bl (tupB namesU t)) h' := by
  refine W.pu (w_run ?_)
  unfold b_are_names
  walk_at "TL on"
  refine W.eq (inst_tup x) ?_
  walk_at "TL on"
  refine ⟨fun hc => ?_, fun hc => ?_⟩
  · walk_at "TL on"
    refine ⟨?_, Gr.refl h⟩
    cases t <;> simp_all [isT, tupB]
  · cases t with
    | tup ts =>
      obtain ⟨hl, xs⟩ := gd_tup x
      walk_at "TL on"
      refine ws_for (w_seqT ?_)
      walk_at "TL on"
      refine ⟨ts.map Yv.val, fun i σ hh => (∃ o, σ = [some (.tup ts), o]) ∧ Gr h hh ∧ (ts.take i).all isNm = true, by simp; omega, ⟨⟨none, rfl⟩, Gr.refl h, rfl⟩, fun i σ h _ => congrArg some (tupY i), ?_, ?_⟩
      · rintro i y hy σ hh ⟨⟨o, rfl⟩, g, ha⟩
        rw [List.getElem?_map, Option.map_eq_some_iff] at hy
        obtain ⟨u, hu, rfl⟩ := hy
        walk_at "TL on"
        refine W.use (is_name_eq ((xs u (List.mem_of_getElem? hu)).mono (Nat.le_refl _) (g.gw b) (Nat.le_refl _))) fun h2 g2 => ?_
        walk_at "TL on"
        refine ⟨fun hc => ?_, fun hc => ?_⟩
        · walk_at "TL on"
          refine ⟨?_, g.trans g2⟩
          have hq : ts.all isNm = false := by
            rw [List.all_eq_false]
            exact ⟨u, List.mem_of_getElem? hu, by simpa using hc⟩
          cases e : namesU ts with
          | false => simp [tupB, e]
          | true =>
            unfold namesU at e
            cases es : strsT ts with
            | none => rw [es] at e; cases e
            | some zs => rw [es] at e; rw [strs_isNm es] at hq; simp [hq] at e
        · walk_at "TL on"
          refine ⟨⟨_, rfl⟩, g.trans g2, ?_⟩
          rw [List.take_add_one, List.all_append, ha, hu]
          simpa using hc
      · rintro σ hh ⟨⟨o, rfl⟩, g, ha⟩
        rw [List.length_map, List.take_length] at ha
        obtain ⟨zs, s1, s2, s3⟩ := isNm_strs ha
        subst s2
        rw [List.length_map] at hl
        walk_at "TL on"
        refine W.eq (lenset_strs (by omega) hh) ?_
        walk_at "TL on"
        refine ⟨?_, g⟩
        simp [tupB, namesU, s1, s3, unS]
        omega
    | _ => simp [isT] at hc
theorem ascending_eq {h : TH} {q : T} {xs : List Str} (e : itemsOf h q = some (xs.map T.str)) (hl : xs.length ≤ 1000) : F_is_ascending [q] h = .ok (.bl (ascB ltS xs)) h := by
  have w : W (F_is_ascending [q] h) fun a h' => a = .bl (ascB ltS xs) ∧ h' = h := by
    refine w_run ?_
    unfold b_is_ascending
    walk_at "TL on"
    refine ws_for (w_rng2 (i := 1) (n := xs.length) ?_)
    walk_at "TL on"
    refine W.eq (len_items e) ?_
    walk_at "TL on"
    refine ⟨by simp, by omega, by omega, rngY (1 : Nat) (xs.length - 1), fun i σ hh => (∃ o, σ = [some q, o]) ∧ hh = h ∧ ∀ j a b, j < i → xs[j]? = some a → xs[j + 1]? = some b → ltS a b = true, by rw [rngY_len]; omega, ⟨⟨none, rfl⟩, rfl, fun j a b hj => by omega⟩, fun i σ hh _ => rng_fix i hh, ?_, ?_⟩
    · rintro i y hy σ hh ⟨⟨o, rfl⟩, rfl, ha⟩
      obtain ⟨hi, rfl⟩ := rngY_at hy
      have h1 : xs[i]? = some xs[i] := List.getElem?_eq_getElem (by omega)
      have h2 : xs[i + 1]? = some xs[i + 1] := List.getElem?_eq_getElem (by omega)
      walk_at "TL on"
      refine W.eq (ix_items (x := .str xs[i + 1]) e (atI_at (k := i + 1) (by rw [List.getElem?_map, h2]; rfl) (by omega))) ?_
      walk_at "TL on"
      refine W.eq (ix_items (x := .str xs[i]) e (atI_at (k := i) (by rw [List.getElem?_map, h1]; rfl) (by omega))) ?_
      refine W.eq (le_strs _ _ _) ?_
      walk_at "TL on"
      refine ⟨fun hc => ?_, fun hc => ?_⟩
      · walk_at "TL on"
        exact ⟨by rw [asc_not h1 h2 (by simpa using hc)], rfl⟩
      · walk_at "TL on"
        refine ⟨⟨_, rfl⟩, rfl, fun j a b hj hja hjb => ?_⟩
        by_cases e1 : j = i
        · subst e1
          rw [h1] at hja; rw [h2] at hjb
          cases hja; cases hjb
          simpa using hc
        · exact ha j a b (by omega) hja hjb
    · rintro σ hh ⟨⟨o, rfl⟩, rfl, ha⟩
      rw [rngY_len] at ha
      walk_at "TL on"
      refine ⟨?_, rfl⟩
      rw [(asc_iff ltS xs).mpr fun i a b h1 h2 => ha i a b (by have := (List.getElem?_eq_some_iff.mp h2).1; omega) h1 h2]
  obtain ⟨a, h', e, rfl, rfl⟩ := w
  exact e
end K39

namespace K39
open PySem PySem.Spec PyProof.Rows L2 TL
def rowB : T → Bool
  | .tup [a, b] => isNm a && tupB namesU b
  | _ => false
def fstS : T → Str
  | .tup (.str z :: _) => z
  | _ => ""
def rowsB (ts : List T) : Bool := ts.all rowB && ascB ltS (ts.map fstS)
theorem rows_not {ts : List T} {u : T} (hu : u ∈ ts) (h : rowB u = false) : rowsB ts = false := by
  have : ts.all rowB = false := List.all_eq_false.mpr ⟨u, hu, by simp [h]⟩
  simp [rowsB, this]
theorem rowB_str {u : T} (h : rowB u = true) : ∃ z c, u = .tup [.str z, c] ∧ nameB z = true ∧ tupB namesU c = true := by
  match u, h with
  | .tup [a, c], h =>
    simp only [rowB, Bool.and_eq_true] at h
    cases a with
    | str z => exact ⟨z, c, rfl, h.1, h.2⟩
    | _ => exact absurd h.1 (by simp [isNm])
theorem rowB_len {us : List T} (h : us.length ≠ 2) : rowB (.tup us) = false := by
  match us, h with
  | [], _ => rfl
  | [_], _ => rfl
  | [_, _], h => exact absurd rfl h
  | _ :: _ :: _ :: _, _ => rfl
section
variable {b L n : Nat} {t : T} {h : TH}
theorem are_rows_eq (x : Gd b L h n t) (hL : L ≤ 60) : ∃ h', Gr h h' ∧ F_are_rows [t] h = .ok (.bl (tupB rowsB t)) h' := by
  refine W.pu (w_run ?_)
  unfold b_are_rows
  walk_at "TL on"
  refine w_gdTup x ?_
  walk_at "TL on"
  refine ⟨fun hc => ?_, fun hc => ?_⟩
  · walk_at "TL on"
    refine ⟨?_, Gr.refl h⟩
    cases t <;> simp_all [isT, tupB]
  · obtain ⟨ts, rfl⟩ := isT_tup (t := t) (by simpa using hc)
    obtain ⟨hl, xs⟩ := gd_tup x
    walk_at "TL on"
    refine ws_for (w_seqT ?_)
    walk_at "TL on"
    refine ⟨ts.map Yv.val, fun i σ hh => (∃ o, σ = [some (.tup ts), o]) ∧ Gr h hh ∧ (ts.take i).all rowB = true, by simp; omega, ⟨⟨none, rfl⟩, Gr.refl h, rfl⟩, fun i σ h _ => congrArg some (tupY i), ?_, ?_⟩
    · rintro i y hy σ hh ⟨⟨o, rfl⟩, g, ha⟩
      rw [List.getElem?_map, Option.map_eq_some_iff] at hy
      obtain ⟨u, hu, rfl⟩ := hy
      have hm := List.mem_of_getElem? hu
      have xu := (xs u hm).mono (Nat.le_refl _) (g.gw b) (Nat.le_refl _)
      have bad : ∀ {h2}, Gr h h2 → rowB u = false → (T.bl false = .bl (tupB rowsB (.tup ts)) ∧ Gr h h2) := fun g2 e => ⟨by simp [tupB, rows_not hm e], g2⟩
      walk_at "TL on"
      refine w_gdTup xu ?_
      walk_at "TL on"
      refine ⟨fun hc => ?_, fun hc => ?_⟩
      · walk_at "TL on"
        refine ⟨fun _ => ?_, fun hf => by cases hf⟩
        walk_at "TL on"
        refine bad g ?_
        cases u <;> simp_all [isT, rowB]
      · obtain ⟨us, rfl⟩ := isT_tup (t := u) (by simpa using hc)
        walk_at "TL on"
        refine ⟨fun hc => ?_, fun hc => ?_⟩
        · walk_at "TL on"
          exact bad g (rowB_len (nat_not hc))
        · obtain ⟨a, c, rfl⟩ := two_of (nat_of hc)
          obtain ⟨hl2, xs2⟩ := gd_tup xu
          walk_at "TL on"
          refine W.use (is_name_eq (xs2 a (by simp))) fun h2 g2 => ?_
          walk_at "TL on"
          refine ⟨fun hc => ?_, fun hc => ?_⟩
          · walk_at "TL on"
            refine ⟨fun _ => ?_, fun hf => by cases hf⟩
            walk_at "TL on"
            exact bad (g.trans g2) (by simp at hc; simp [rowB, hc])
          · walk_at "TL on"
            refine W.use (are_names_eq ((xs2 c (by simp)).mono (Nat.le_refl _) (g2.gw b) (Nat.le_refl _)) hL) fun h3 g3 => ?_
            walk_at "TL on"
            refine ⟨fun hc2 => ?_, fun hc2 => ?_⟩
            · walk_at "TL on"
              exact bad ((g.trans g2).trans g3) (by simp at hc2; simp [rowB, hc2])
            · walk_at "TL on"
              refine ⟨⟨_, rfl⟩, (g.trans g2).trans g3, ?_⟩
              rw [List.take_add_one, List.all_append, ha, hu]
              simp at hc hc2
              simp [rowB, hc, hc2]
    · rintro σ hh ⟨⟨o, rfl⟩, g, ha⟩
      rw [List.length_map, List.take_length] at ha
      walk_at "TL on"
      refine w_lcG (fun _ => true) (fun y => match y with
        | .val u => .str (fstS u)
        | _ => .non) (w_seqT ?_)
      walk_at "TL on"
      refine ⟨ts.map Yv.val, by simp; omega, Gr.refl hh, fun i h' _ => congrArg some (tupY i), ?_, ?_⟩
      · rintro y hy h' g'
        obtain ⟨u, hu, rfl⟩ := List.mem_map.mp hy
        obtain ⟨z, c, rfl, _, _⟩ := rowB_str (List.all_eq_true.mp ha u hu)
        walk_at "TL on"
        exact ⟨rfl, g', fun _ => by walk_at "TL on"; exact ⟨rfl, g'⟩⟩
      · intro h' g'
        walk_at "TL on"
        have e : itemsOf (h' ++ [TO.lst (((ts.map Yv.val).filter fun _ => true).map fun y => match y with
          | .val u => T.str (fstS u)
          | _ => .non)]) (.ref h'.length) = some ((ts.map fstS).map T.str) := by
          have q := get_last h' (TO.lst (((ts.map Yv.val).filter fun _ => true).map fun y => match y with
            | .val u => T.str (fstS u)
            | _ => .non))
          simp only [itemsOf, q]
          simp [List.filter_eq_self.mpr]
        refine W.eq (ascending_eq e (by simp; omega)) ?_
        refine ⟨?_, (g.trans g').trans (Gr.app _ _)⟩
        simp [tupB, rowsB, ha]
def strOf : T → Str
  | .str z => z
  | _ => ""
def namesA (ws : List T) : Bool := namesU ws && ascB ltS (ws.map strOf)
theorem asc_names_eq (x : Gd b L h n t) (hL : L ≤ 60) : ∃ h', Gr h h' ∧ F_are_ascending_names [t] h = .ok (.bl (tupB namesA t)) h' := by
  refine W.pu (w_run ?_)
  unfold b_are_ascending_names
  walk_at "TL on"
  refine W.use (are_names_eq x hL) fun h1 g1 => ?_
  walk_at "TL on"
  refine ⟨fun hc => ?_, fun hc => ?_⟩
  · refine ⟨?_, g1⟩
    cases t <;> simp_all [tupB, namesA]
  · cases t with
    | tup ts =>
      obtain ⟨hl, _⟩ := gd_tup x
      have hc' : namesU ts = true := hc
      have : ∃ zs : List Str, ts = zs.map T.str := by
        unfold namesU at hc'
        cases e : strsT ts with
        | none => rw [e] at hc'; cases hc'
        | some zs => exact ⟨zs, strsT_of e⟩
      obtain ⟨zs, rfl⟩ := this
      walk_at "TL on"
      rw [List.length_map] at hl
      refine W.eq (ascending_eq (xs := zs) rfl (by omega)) ⟨?_, g1⟩
      have : (zs.map T.str).map strOf = zs := by rw [List.map_map]; exact List.map_id _
      simp only [tupB, namesA, hc', this, Bool.true_and]
    | _ => simp [tupB] at hc
def memS (ws : List T) : T → Bool
  | .str z => ws.any (eqS z)
  | _ => false
def rowIn (ws : List T) : T → Bool
  | .tup [a, .tup us] => !memS ws a && us.all (memS ws)
  | _ => false
def thingsB : T → Bool
  | .tup [a, .tup rs, .tup ws] => eqS "things" a && rowsB rs && namesA ws && decide (rs.length ≤ 40) && decide (ws.length ≤ 40) && rs.all (rowIn ws)
  | _ => false
theorem namesU_strs {us : List T} (h : namesU us = true) : ∃ zs : List Str, us = zs.map T.str ∧ zs.all nameB = true ∧ unS zs = true := by
  unfold namesU at h
  cases e : strsT us with
  | none => rw [e] at h; cases h
  | some zs => rw [e, Bool.and_eq_true] at h; exact ⟨zs, strsT_of e, h.1, h.2⟩
theorem memS_mem {zs : List Str} {z : Str} : memS (zs.map T.str) (.str z) = decide (z ∈ zs) := by
  rw [Bool.eq_iff_iff]
  simp only [memS, List.any_map, List.any_eq_true, decide_eq_true_eq, Function.comp]
  constructor
  · rintro ⟨y, hy, e⟩
    have : y = z := by simpa [eqS] using e
    exact this ▸ hy
  · intro hz
    exact ⟨z, hz, by simp [eqS]⟩
theorem thingsB_not (h : madeB "things" 3 t = false) : thingsB t = false := by
  unfold thingsB
  split
  · rename_i a rs ws
    have e : eqS "things" a = false := by simpa [madeB] using h
    rw [e]; rfl
  · rfl
theorem made3 (h : madeB "things" 3 t = true) : ∃ a r w, t = .tup [a, r, w] ∧ eqS "things" a = true := by
  cases t with
  | tup ts =>
    simp only [madeB, Bool.and_eq_true, decide_eq_true_eq] at h
    obtain ⟨a, r, w, rfl⟩ := three_of h.1
    exact ⟨a, r, w, rfl, h.2⟩
  | _ => simp [madeB] at h
theorem okThings : okS "things" := by
  show PyData.canLay0 (.str "things") = true
  decide +kernel
theorem is_things_eq (x : Gd b L h n t) (hn : n ≤ 60) (hL : L ≤ 60) : ∃ h', Gr h h' ∧ F_is_things [t] h = .ok (.bl (thingsB t)) h' := by
  refine W.pu (w_run ?_)
  unfold b_is_things
  walk_at "TL on"
  refine W.eq (made_eq x hn okThings 3 (by decide)) ?_
  walk_at "TL on"
  refine ⟨fun hc => ?_, fun hc => ?_⟩
  · walk_at "TL on"
    refine ⟨fun _ => ?_, fun hf => by cases hf⟩
    walk_at "TL on"
    exact ⟨by rw [thingsB_not (by simpa using hc)], Gr.refl h⟩
  obtain ⟨a, r, w, rfl, ea⟩ := made3 (t := t) (by simpa using hc)
  obtain ⟨_, xs⟩ := gd_tup x
  have bad : ∀ {h2}, Gr h h2 → thingsB (.tup [a, r, w]) = false → (T.bl false = .bl (thingsB (.tup [a, r, w])) ∧ Gr h h2) := fun g2 e => ⟨by rw [e], g2⟩
  walk_at "TL on"
  refine W.use (are_rows_eq (xs r (by simp)) hL) fun h1 g1 => ?_
  walk_at "TL on"
  refine ⟨fun hr => ?_, fun hr => ?_⟩
  · walk_at "TL on"
    refine ⟨fun _ => ?_, fun hf => by cases hf⟩
    walk_at "TL on"
    refine bad g1 ?_
    unfold thingsB
    split
    · rename_i rs ws e
      cases e
      have : rowsB rs = false := by simpa [tupB] using hr
      simp [this]
    · rfl
  cases r with
  | tup rs =>
    have hrs : rowsB rs = true := by simpa [tupB] using hr
    walk_at "TL on"
    refine W.use (asc_names_eq ((xs w (by simp)).mono (Nat.le_refl _) (g1.gw b) (Nat.le_refl _)) hL) fun h2 g2 => ?_
    walk_at "TL on"
    refine ⟨fun hc2 => ?_, fun hc2 => ?_⟩
    · walk_at "TL on"
      refine bad (g1.trans g2) ?_
      unfold thingsB
      split
      · rename_i rs ws e
        cases e
        have : namesA ws = false := by simpa [tupB] using hc2
        simp [this]
      · rfl
    cases w with
    | tup ws =>
      have hws : namesA ws = true := by simpa [tupB] using hc2
      have lw := (gd_tup (xs (.tup ws) (by simp))).1
      have lr := (gd_tup (xs (.tup rs) (by simp))).1
      obtain ⟨zs, ez, _, _⟩ := namesU_strs (by have := hws; simp only [namesA, Bool.and_eq_true] at this; exact this.1)
      subst ez
      rw [List.length_map] at lw
      have two : ∀ i : Nat, (decide ((i : Int) > 40)) = !decide (i ≤ 40) := fun i => by
        by_cases hi : i ≤ 40
        · have : ¬ (i : Int) > 40 := by omega
          simp [hi]; omega
        · have : (i : Int) > 40 := by omega
          simp [hi]; omega
      walk_at "TL on"
      refine ⟨fun hc3 => ?_, fun hc3 => ?_⟩
      · walk_at "TL on"
        refine ⟨fun _ => ?_, fun hf => by cases hf⟩
        walk_at "TL on"
        refine bad (g1.trans g2) ?_
        rw [two] at hc3
        have : decide (rs.length ≤ 40) = false := by simpa using hc3
        simp only [thingsB, this, Bool.and_false, Bool.false_and]
      rw [two] at hc3
      have l1 : decide (rs.length ≤ 40) = true := by simpa using hc3
      walk_at "TL on"
      refine ⟨fun hc4 => ?_, fun hc4 => ?_⟩
      · walk_at "TL on"
        refine bad (g1.trans g2) ?_
        rw [two] at hc4
        have : decide ((zs.map T.str).length ≤ 40) = false := by simpa using hc4
        simp only [thingsB, this, Bool.and_false, Bool.false_and]
      rw [two] at hc4
      have l2 : decide ((zs.map T.str).length ≤ 40) = true := by simpa using hc4
      have fin : thingsB (.tup [a, .tup rs, .tup (zs.map T.str)]) = rs.all (rowIn (zs.map T.str)) := by
        simp only [thingsB, ea, hrs, hws, l1, l2, Bool.true_and]
      walk_at "TL on"
      refine w_dcG (fun y => match y with
        | .val (.str z) => (Sum.inr z, T.bl true)
        | _ => (Sum.inl 0, T.non)) (w_seqT ?_)
      walk_at "TL on"
      refine ⟨(zs.map T.str).map Yv.val, by simp; omega, Gr.refl _, fun i h' _ => congrArg some (tupY i), ?_, ?_⟩
      · rintro y hy h' g'
        obtain ⟨u, hu, rfl⟩ := List.mem_map.mp hy
        obtain ⟨z, hz, rfl⟩ := List.mem_map.mp hu
        walk_at "TL on"
        refine ⟨rfl, ?_⟩
        walk_at "TL on"
        exact ⟨rfl, rfl, g'⟩
      · intro h3 g3
        generalize hD : dMrg [] _ = D
        have mem : ∀ z, (dAt D (.inr z)).isSome = memS (zs.map T.str) (.str z) := by
          intro z
          subst hD
          rw [memS_mem, Bool.eq_iff_iff, dMrg_is, decide_eq_true_eq]
          simp [dAt]
        have G4 := (g1.trans g2).trans (g3.trans (Gr.app h3 [TO.dic D]))
        have hd : ∀ {hh}, Gr (h3 ++ [TO.dic D]) hh → hh[h3.length]? = some (.dic D) := fun g => g.get (get_last h3 _)
        walk_at "TL on"
        refine ws_for (w_seqT ?_)
        walk_at "TL on"
        refine ⟨rs.map Yv.val, fun i σ hh => (∃ o2 o3 o4, σ = [some (.tup [a, .tup rs, .tup (zs.map T.str)]), some (.ref h3.length), o2, o3, o4]) ∧ Gr (h3 ++ [TO.dic D]) hh ∧ (rs.take i).all (rowIn (zs.map T.str)) = true, by simp; omega, ⟨⟨_, _, _, rfl⟩, Gr.refl _, rfl⟩, fun i σ h _ => congrArg some (tupY i), ?_, ?_⟩
        · rintro i y hy σ hh ⟨⟨o2, o3, o4, rfl⟩, g, ha⟩
          rw [List.getElem?_map, Option.map_eq_some_iff] at hy
          obtain ⟨u, hu, rfl⟩ := hy
          have hm := List.mem_of_getElem? hu
          have hru : rowB u = true := by
            have := hrs
            simp only [rowsB, Bool.and_eq_true] at this
            exact List.all_eq_true.mp this.1 u hm
          obtain ⟨z, c, rfl, hz, hcn⟩ := rowB_str hru
          cases c with
          | tup us =>
            obtain ⟨vs, rfl, _, _⟩ := namesU_strs (us := us) hcn
            have lv : vs.length ≤ 60 := by
              have x1 := (gd_tup ((gd_tup (xs (.tup rs) (by simp))).2 _ hm)).2 (.tup (vs.map T.str)) (by simp)
              have := (gd_tup x1).1
              rw [List.length_map] at this; omega
            have bad2 : ∀ {h2}, Gr (h3 ++ [TO.dic D]) h2 → rowIn (zs.map T.str) (.tup [.str z, .tup (vs.map T.str)]) = false → (T.bl false = .bl (thingsB (.tup [a, .tup rs, .tup (zs.map T.str)])) ∧ Gr h h2) := fun g2' e => by
              have : rs.all (rowIn (zs.map T.str)) = false := List.all_eq_false.mpr ⟨_, hm, by simp [e]⟩
              exact ⟨by rw [fin, this], ((g1.trans g2).trans (g3.trans (Gr.app h3 [TO.dic D]))).trans g2'⟩
            walk_at "TL on"
            refine w_inDD (hd g) (k := .inr z) rfl ?_
            walk_at "TL on"
            refine ⟨fun hc => ?_, fun hc => ?_⟩
            · walk_at "TL on"
              rw [mem] at hc
              exact bad2 g (by simp [rowIn, hc])
            rw [mem] at hc
            walk_at "TL on"
            refine ws_for (w_seqT ?_)
            walk_at "TL on"
            refine ⟨(vs.map T.str).map Yv.val, fun j σ hh => (∃ o4, σ = [some (.tup [a, .tup rs, .tup (zs.map T.str)]), some (.ref h3.length), some (.str z), some (.tup (vs.map T.str)), o4]) ∧ Gr (h3 ++ [TO.dic D]) hh ∧ ((vs.map T.str).take j).all (memS (zs.map T.str)) = true, by simp; omega, ⟨⟨_, rfl⟩, g, rfl⟩, fun i σ h _ => congrArg some (tupY i), ?_, ?_⟩
            · rintro j y hy σ hh ⟨⟨o4, rfl⟩, g, ha2⟩
              rw [List.getElem?_map, Option.map_eq_some_iff] at hy
              obtain ⟨v, hv, rfl⟩ := hy
              obtain ⟨q, hq, rfl⟩ := List.mem_map.mp (List.mem_of_getElem? hv)
              walk_at "TL on"
              refine w_notInDD (hd g) (k := .inr q) rfl ?_
              rw [mem]
              walk_at "TL on"
              refine ⟨fun hc2 => ?_, fun hc2 => ?_⟩
              · walk_at "TL on"
                refine bad2 g ?_
                have : (vs.map T.str).all (memS (zs.map T.str)) = false := List.all_eq_false.mpr ⟨_, List.mem_map_of_mem hq, by simpa using hc2⟩
                simp only [rowIn, this, Bool.and_false]
              · walk_at "TL on"
                refine ⟨⟨_, rfl⟩, g, ?_⟩
                rw [List.take_add_one, List.all_append, ha2, hv]
                simpa using hc2
            · rintro σ hh ⟨⟨o4, rfl⟩, g, ha2⟩
              rw [List.length_map, List.take_length] at ha2
              refine ⟨⟨_, _, _, rfl⟩, g, ?_⟩
              rw [List.take_add_one, List.all_append, ha, hu]
              simp only [Option.toList_some, List.all_cons, List.all_nil, Bool.and_true, Bool.true_and, rowIn, hc, ha2, Bool.not_false]
          | _ => simp [tupB] at hcn
        · rintro σ hh ⟨⟨o2, o3, o4, rfl⟩, g, ha⟩
          rw [List.length_map, List.take_length] at ha
          walk_at "TL on"
          exact ⟨by rw [fin, ha], G4.trans g⟩
    | _ => simp [tupB] at hc2
  | _ => simp [tupB] at hr
end
end K39

namespace K39
open PySem PySem.Spec PyProof.Rows L2 TL
def row1 : T → Bool
  | .tup [a, .tup _] => isNm a
  | _ => false
theorem row1_str {u : T} (h : row1 u = true) : ∃ z us, u = .tup [.str z, .tup us] ∧ nameB z = true := by
  match u, h with
  | .tup [a, .tup us], h =>
    cases a with
    | str z => exact ⟨z, us, rfl, h⟩
    | _ => exact absurd h (by simp [row1, isNm])
theorem row1_len {us : List T} (h : us.length ≠ 2) : row1 (.tup us) = false := by
  match us, h with
  | [], _ => rfl
  | [_], _ => rfl
  | [_, _], h => exact absurd rfl h
  | _ :: _ :: _ :: _, _ => simp [row1]
theorem rowB_row1 {u : T} (h : row1 u = false) : rowB u = false := by
  match u, h with
  | .tup [a, .tup us], h => simp only [row1] at h; simp [rowB, h]
  | .tup [a, .str _], _ => simp [rowB, tupB]
  | .tup [a, .non], _ => simp [rowB, tupB]
  | .tup [a, .bl _], _ => simp [rowB, tupB]
  | .tup [a, .int _], _ => simp [rowB, tupB]
  | .tup [a, .ref _], _ => simp [rowB, tupB]
  | .tup [a, .scr _], _ => simp [rowB, tupB]
  | .tup [], _ => rfl
  | .tup [_], _ => simp [rowB]
  | .tup (_ :: _ :: _ :: _), _ => simp [rowB]
  | .str _, _ => rfl
  | .non, _ => rfl
  | .bl _, _ => rfl
  | .int _, _ => rfl
  | .ref _, _ => rfl
  | .scr _, _ => rfl
section
variable {b L n : Nat} {t : T} {h : TH}
theorem like_eq {z : Str} (x : Gd b L h n t) : ∃ h', Gr h h' ∧ F__law_like [t, .str z] h = .ok (.bl (eqS z t)) h' := by
  obtain ⟨r, e⟩ := like_str 39 x z
  exact ⟨_, Gr.app h r, e⟩
theorem all_map {α β : Type} (f : α → β) (p : β → Bool) (l : List α) : (l.map f).all p = l.all fun a => p (f a) := by rw [List.all_map]; rfl
/-- what the rows are for the law -/
theorem nameds_eq {ts : List T} (xs : ∀ t ∈ ts, Gd b L h n t) : True := trivial
def up' {h h2 : TH} {u : T} {m : Nat} (g : Gr h h2) (x : Gd b L h m u) : Gd b L h2 m u := x.mono (Nat.le_refl _) (g.gw b) (Nat.le_refl _)
theorem two40 (i : Nat) : (decide ((i : Int) > 40)) = !decide (i ≤ 40) := by
  by_cases hi : i ≤ 40
  · have : ¬ (i : Int) > 40 := by omega
    simp [hi]; omega
  · have : (i : Int) > 40 := by omega
    simp [hi]; omega
abbrev S39 (t : T) (o1 o2 o3 o4 : Option T) : Sl := [some t, o1, o2, o3, o4]
/-- the rows' shape -/
def lcRow : ME := eBin fNe (eLc (iSeq (eBin fIx (eVar 0) (eC (.int 1)))) (TL.gName 3) (mOr (mNot (mB (eUn (fIsInst .tup) (eVar 3)))) (mOr (mB (eBin fNe (eCall fLen (aCons (eVar 3) (aNil))) (eC (.int 2)))) (mOr (mNot (mB (eCallF 1 F__law_named (aCons (eBin fIx (eVar 3) (eC (.int 0))) (aNil))))) (mNot (mB (eUn (fIsInst .tup) (eBin fIx (eVar 3) (eC (.int 1))))))))) (eC (.int 1)) [3]) (eLst (aNil))
theorem lcRow_eq {a w : T} {rs : List T} (lr : rs.length ≤ L) (hL : L ≤ 60) (xr : ∀ u ∈ rs, Gd b L h n u) : ∃ h', Gr h h' ∧ lcRow (S39 (.tup [a, .tup rs, w]) none none none none) h = .ok (.bl (!rs.all row1)) h' := by
  suffices hw : W (lcRow (S39 (.tup [a, .tup rs, w]) none none none none) h) fun a h' => a = .bl (!rs.all row1) ∧ Gr h h' by
    obtain ⟨v, h', e, rfl, g⟩ := hw
    exact ⟨h', g, e⟩
  unfold lcRow
  walk_at "TL go"
  refine w_neA (fun y => match y with
    | .val u => !row1 u
    | _ => false) (fun _ => .int 1) (w_seqT ?_)
  walk_at "TL go"
  refine ⟨rs.map Yv.val, by simp; omega, Gr.refl _, fun i h' _ => congrArg some (tupY i), fun _ _ _ _ _ => dat_int _ _, ?_, ?_⟩
  · rintro y hy h' g'
    obtain ⟨u, hu, rfl⟩ := List.mem_map.mp hy
    have xu := up' g' (xr u hu)
    walk_at "TL go"
    refine w_gdTup xu ?_
    walk_at "TL go"
    refine ⟨fun hc => ?_, fun hc => ?_⟩
    · have : row1 u = false := by cases u <;> simp_all [isT, row1]
      exact ⟨by simp [this], fun _ => g', fun _ => by walk_at "TL go"; exact ⟨rfl, g'⟩⟩
    obtain ⟨us, rfl⟩ := isT_tup (t := u) (by simpa using hc)
    walk_at "TL go"
    refine ⟨fun hc => ?_, fun hc => ?_⟩
    · exact ⟨by simp [row1_len (nat_not hc)], fun _ => g', fun _ => by walk_at "TL go"; exact ⟨rfl, g'⟩⟩
    obtain ⟨p, q, rfl⟩ := two_of (nat_of hc)
    walk_at "TL go"
    refine W.use (named_eq ((gd_tup xu).2 p (by simp))) fun h2 g2 => ?_
    walk_at "TL go"
    refine ⟨fun hc => ?_, fun hc => ?_⟩
    · have hp : isNm p = false := by simpa using hc
      have : row1 (.tup [p, q]) = false := by cases q <;> simp [row1, hp]
      exact ⟨by simp [this], fun _ => g'.trans g2, fun _ => by walk_at "TL go"; exact ⟨rfl, g'.trans g2⟩⟩
    have hp : isNm p = true := by simpa using hc
    walk_at "TL go"
    refine w_gdTup (((gd_tup xu).2 q (by simp)).mono (Nat.le_refl _) (g2.gw b) (Nat.le_refl _)) ?_
    have : row1 (.tup [p, q]) = isT q := by cases q <;> simp [row1, hp, isT]
    walk_at "TL go"
    exact ⟨by simp [this], fun _ => g'.trans g2, fun _ => by walk_at "TL go"; exact ⟨rfl, g'.trans g2⟩⟩
  · intro h2 g2
    refine ⟨?_, g2⟩
    rw [all_map]
    simp
/-- the things are names -/
def lcNam : ME := eBin fNe (eLc (iSeq (eBin fIx (eVar 0) (eC (.int 2)))) (TL.gName 2) (mNot (mB (eCallF 1 F__law_named (aCons (eVar 2) (aNil))))) (eC (.int 1)) [2]) (eLst (aNil))
theorem lcNam_eq {a r : T} {ws : List T} (lw : ws.length ≤ L) (hL : L ≤ 60) (xw : ∀ u ∈ ws, Gd b L h n u) : ∃ h', Gr h h' ∧ lcNam (S39 (.tup [a, r, .tup ws]) none none none none) h = .ok (.bl (!ws.all isNm)) h' := by
  suffices hw : W (lcNam (S39 (.tup [a, r, .tup ws]) none none none none) h) fun a h' => a = .bl (!ws.all isNm) ∧ Gr h h' by
    obtain ⟨v, h', e, rfl, g⟩ := hw
    exact ⟨h', g, e⟩
  unfold lcNam
  walk_at "TL go"
  refine w_neA (fun y => match y with
    | .val u => !isNm u
    | _ => false) (fun _ => .int 1) (w_seqT ?_)
  walk_at "TL go"
  refine ⟨ws.map Yv.val, by simp; omega, Gr.refl _, fun i h' _ => congrArg some (tupY i), fun _ _ _ _ _ => dat_int _ _, ?_, ?_⟩
  · rintro y hy h' g'
    obtain ⟨u, hu, rfl⟩ := List.mem_map.mp hy
    walk_at "TL go"
    refine W.use (named_eq (up' g' (xw u hu))) fun h4 g4 => ?_
    walk_at "TL go"
    exact ⟨rfl, fun _ => g'.trans g4, fun _ => by walk_at "TL go"; exact ⟨rfl, g'.trans g4⟩⟩
  · intro h2 g2
    refine ⟨?_, g2⟩
    rw [all_map]
    simp
/-- names that are things -/
def lcBoth : ME := eBin fNe (eLc (iSeq (eVar 1)) (TL.gName 2) (mB (eBin fIn (eVar 2) (eBin fIx (eVar 0) (eC (.int 2))))) (eVar 2) [2]) (eLst (aNil))
theorem lcBoth_eq {a r : T} {zs ns : List Str} {N : Nat} (hN : h[N]? = some (.lst (ns.map T.str))) (ln : ns.length ≤ 60) (okz : ∀ z ∈ zs, okS z) (okn : ∀ z ∈ ns, okS z) :
    ∃ h', Gr h h' ∧ lcBoth (S39 (.tup [a, r, .tup (zs.map T.str)]) (some (.ref N)) none none none) h = .ok (.bl (!ns.all fun z => !decide (z ∈ zs))) h' := by
  suffices hw : W (lcBoth (S39 (.tup [a, r, .tup (zs.map T.str)]) (some (.ref N)) none none none) h) fun a h' => a = .bl (!ns.all fun z => !decide (z ∈ zs)) ∧ Gr h h' by
    obtain ⟨v, h', e, rfl, g⟩ := hw
    exact ⟨h', g, e⟩
  unfold lcBoth
  walk_at "TL go"
  refine w_neA (fun y => match y with
    | .val (.str z) => decide (z ∈ zs)
    | _ => false) (fun y => match y with
    | .val u => u
    | _ => .non) (w_seqL ?_)
  walk_at "TL go"
  refine ⟨N, ns.map T.str, rfl, hN, (ns.map T.str).map Yv.val, by simp; omega, Gr.refl _, fun i h' g' => lstJ_at (g'.get hN), ?_, ?_, ?_⟩
  · rintro y hy _ h' _
    obtain ⟨u, hu, rfl⟩ := List.mem_map.mp hy
    obtain ⟨z, hz, rfl⟩ := List.mem_map.mp hu
    exact dat_strs (okn z hz)
  · rintro y hy h' g'
    obtain ⟨u, hu, rfl⟩ := List.mem_map.mp hy
    obtain ⟨z, hz, rfl⟩ := List.mem_map.mp hu
    walk_at "TL go"
    refine w_inT (okn z hz) okz ?_
    walk_at "TL go"
    exact ⟨rfl, fun _ => g', fun _ => by walk_at "TL go"; exact ⟨rfl, g'⟩⟩
  · intro h2 g2
    refine ⟨?_, g2⟩
    rw [all_map, all_map]
/-- a list's things -/
def lcOth : ME := eBin fNe (eLc (iSeq (eVar 3)) (TL.gName 4) (mOr (mNot (mB (eUn (fIsInst .str) (eVar 4)))) (mB (eBin fNotIn (eVar 4) (eBin fIx (eVar 0) (eC (.int 2)))))) (eC (.int 1)) [4]) (eLst (aNil))
theorem lcOth_eq {a r : T} {o1 o2 o4 : Option T} {zs : List Str} {us : List T} (lu : us.length ≤ L) (hL : L ≤ 60) (xu : ∀ u ∈ us, Gd b L h n u) (okz : ∀ z ∈ zs, okS z) :
    ∃ h', Gr h h' ∧ lcOth (S39 (.tup [a, r, .tup (zs.map T.str)]) o1 o2 (some (.tup us)) o4) h = .ok (.bl (!us.all (memS (zs.map T.str)))) h' := by
  suffices hw : W (lcOth (S39 (.tup [a, r, .tup (zs.map T.str)]) o1 o2 (some (.tup us)) o4) h) fun a h' => a = .bl (!us.all (memS (zs.map T.str))) ∧ Gr h h' by
    obtain ⟨v, h', e, rfl, g⟩ := hw
    exact ⟨h', g, e⟩
  unfold lcOth
  walk_at "TL go"
  refine w_neA (fun y => match y with
    | .val u => !memS (zs.map T.str) u
    | _ => false) (fun _ => .int 1) (w_seqT ?_)
  walk_at "TL go"
  refine ⟨us.map Yv.val, by simp; omega, Gr.refl _, fun i h' _ => congrArg some (tupY i), fun _ _ _ _ _ => dat_int _ _, ?_, ?_⟩
  · rintro y hy h' g'
    obtain ⟨u, hu, rfl⟩ := List.mem_map.mp hy
    have x := up' g' (xu u hu)
    walk_at "TL go"
    refine w_gdStr x ?_
    walk_at "TL go"
    refine ⟨fun hc => ?_, fun hc => ?_⟩
    · have : memS (zs.map T.str) u = false := by cases u <;> simp_all [isS, memS]
      exact ⟨by simp [this], fun _ => g', fun _ => by walk_at "TL go"; exact ⟨rfl, g'⟩⟩
    obtain ⟨z, rfl⟩ := isS_str (t := u) (by simpa using hc)
    walk_at "TL go"
    refine w_notInT (gd_str x).2 okz ?_
    walk_at "TL go"
    exact ⟨by simp [memS_mem], fun _ => g', fun _ => by walk_at "TL go"; exact ⟨rfl, g'⟩⟩
  · intro h2 g2
    refine ⟨?_, g2⟩
    rw [all_map]
    simp
end
end K39

namespace K39
open PySem PySem.Spec PyProof.Rows L2 TL
theorem uniq_le : ∀ l : List Str, (uniq l).length ≤ l.length
  | [] => Nat.le_refl _
  | x :: l => by
    have := uniq_le l
    have := List.length_filter_le (fun y => decide (y ≠ x)) (uniq l)
    show ((uniq l).filter fun y => decide (y ≠ x)).length + 1 ≤ l.length + 1
    omega
section
variable {b L n : Nat} {t : T} {h : TH}
def mShape : MB := mOr (mNot (mB (eUn (fIsInst .tup) (eVar 0)))) (mOr (mB (eBin fNe (eCall fLen (aCons (eVar 0) (aNil))) (eC (.int 3)))) (mOr (mNot (mB (eCallF 2 F__law_like (aCons (eBin fIx (eVar 0) (eC (.int 0))) (aCons (eC (.str "things")) (aNil)))))) (mOr (mNot (mB (eUn (fIsInst .tup) (eBin fIx (eVar 0) (eC (.int 1)))))) (mNot (mB (eUn (fIsInst .tup) (eBin fIx (eVar 0) (eC (.int 2)))))))))
theorem right_parts : b__law_things_right = sSeq (sIf mShape (sRet (eC (.bl false))) (sNil)) (sSeq (sIf (mB lcRow) (sRet (eC (.bl false))) (sNil)) (sSeq (sIf (mOr (mB lcNam) (mOr (mB (eBin fGt (eCall fLen (aCons (eBin fIx (eVar 0) (eC (.int 1))) (aNil))) (eC (.int 40)))) (mB (eBin fGt (eCall fLen (aCons (eBin fIx (eVar 0) (eC (.int 2))) (aNil))) (eC (.int 40)))))) (sRet (eC (.bl false))) (sNil))
  (sSeq (sSet 1 (eLc (iSeq (eBin fIx (eVar 0) (eC (.int 1)))) (TL.gName 3) (mYes) (eBin fIx (eVar 3) (eC (.int 0))) [3])) (sSeq (sIf (mOr (mB (eBin fNe (eVar 1) (eUn fSortSet (eVar 1)))) (mOr (mB (eBin fNe (eCall fList (aCons (eBin fIx (eVar 0) (eC (.int 2))) (aNil))) (eUn fSortSet (eBin fIx (eVar 0) (eC (.int 2)))))) (mB lcBoth))) (sRet (eC (.bl false))) (sNil))
  (sSeq (sFor (iSeq (eBin fIx (eVar 0) (eC (.int 1)))) (TL.gTup (gsCons (TL.gName 2) (gsCons (TL.gName 3) (gsNil)))) (sIf (mOr (mB lcOth) (mB (eBin fLt (eUn fLenSet (eVar 3)) (eCall fLen (aCons (eVar 3) (aNil)))))) (sRet (eC (.bl false))) (sNil))) (sRet (eC (.bl true)))))))) := rfl
theorem things_right_eq (x : Gd b L h n t) (hn : n ≤ 60) (hL : L ≤ 60) : ∃ h', Gr h h' ∧ F__law_things_right [t] h = .ok (.bl (thingsB t)) h' := by
  refine W.pu (w_run ?_)
  rw [right_parts]
  unfold mShape
  walk_at "TL go"
  refine w_gdTup x ?_
  walk_at "TL go"
  refine ⟨fun hc => ?_, fun hc => ?_⟩
  · walk_at "TL go"
    refine ⟨fun _ => ?_, fun hf => by cases hf⟩
    walk_at "TL go"
    exact ⟨by cases t <;> simp_all [isT, thingsB], Gr.refl h⟩
  obtain ⟨ts, rfl⟩ := isT_tup (t := t) (by simpa using hc)
  obtain ⟨hl, xs⟩ := gd_tup x
  walk_at "TL go"
  refine ⟨fun hc => ?_, fun hc => ?_⟩
  · walk_at "TL go"
    refine ⟨fun _ => ?_, fun hf => by cases hf⟩
    walk_at "TL go"
    refine ⟨by rw [thingsB_not]; have := nat_not hc; simp [madeB, this], Gr.refl h⟩
  obtain ⟨a, r, w, rfl⟩ := three_of (nat_of hc)
  have bad : ∀ {h2}, Gr h h2 → thingsB (.tup [a, r, w]) = false → (T.bl false = .bl (thingsB (.tup [a, r, w])) ∧ Gr h h2) := fun g2 e => ⟨by rw [e], g2⟩
  walk_at "TL go"
  refine W.use (like_eq (xs a (by simp))) fun h1 g1 => ?_
  walk_at "TL go"
  refine ⟨fun hc => ?_, fun hc => ?_⟩
  · walk_at "TL go"
    refine ⟨fun _ => ?_, fun hf => by cases hf⟩
    walk_at "TL go"
    exact bad g1 (thingsB_not (by simpa [madeB] using hc))
  have ea : eqS "things" a = true := by simpa using hc
  have up : ∀ {h2 : TH} {u : T} {m : Nat}, Gr h h2 → Gd b L h m u → Gd b L h2 m u := fun g x => x.mono (Nat.le_refl _) (g.gw b) (Nat.le_refl _)
  walk_at "TL go"
  refine w_gdTup (up g1 (xs r (by simp))) ?_
  walk_at "TL go"
  refine ⟨fun hr => ?_, fun hr => ?_⟩
  · walk_at "TL go"
    refine ⟨fun _ => ?_, fun hf => by cases hf⟩
    walk_at "TL go"
    refine bad g1 ?_
    unfold thingsB
    split
    · rename_i e; cases e; simp [isT] at hr
    · rfl
  obtain ⟨rs, rfl⟩ := isT_tup (t := r) (by simpa using hr)
  walk_at "TL go"
  refine w_gdTup (up g1 (xs w (by simp))) ?_
  walk_at "TL go"
  refine ⟨fun hw => ?_, fun hw => ?_⟩
  · walk_at "TL go"
    refine bad g1 ?_
    unfold thingsB
    split
    · rename_i e; cases e; simp [isT] at hw
    · rfl
  obtain ⟨ws, rfl⟩ := isT_tup (t := w) (by simpa using hw)
  obtain ⟨lr, xr⟩ := gd_tup (xs (.tup rs) (by simp))
  obtain ⟨lw, xw⟩ := gd_tup (xs (.tup ws) (by simp))
  walk_at "TL go"
  refine W.use (lcRow_eq lr hL (fun u hu => up g1 (xr u hu))) fun h3 g3 => ?_
  have G2 := g1.trans g3
  walk_at "TL go"
  refine ⟨fun hc => ?_, fun hc => ?_⟩
  · walk_at "TL go"
    refine bad G2 ?_
    have h1 : rs.all row1 = false := by simpa using hc
    obtain ⟨u, hu, hq⟩ := List.all_eq_false.mp h1
    have := rows_not hu (rowB_row1 (by simpa using hq))
    simp [thingsB, this]
  have hrow : rs.all row1 = true := by simpa using hc
  walk_at "TL go"
  refine W.use (lcNam_eq lw hL (fun u hu => up G2 (xw u hu))) fun h4 g4 => ?_
  have G4 := G2.trans g4
  walk_at "TL go"
  refine ⟨fun hc => ?_, fun hc => ?_⟩
  · walk_at "TL go"
    refine ⟨fun _ => ?_, fun hf => by cases hf⟩
    walk_at "TL go"
    refine bad G4 ?_
    have h1 : ws.all isNm = false := by simpa using hc
    have : namesA ws = false := by
      cases e : namesA ws with
      | false => rfl
      | true =>
        simp only [namesA, Bool.and_eq_true] at e
        obtain ⟨zs, rfl, q, _⟩ := namesU_strs e.1
        rw [all_map] at h1
        rw [show (zs.all fun a => isNm (T.str a)) = zs.all nameB from rfl, q] at h1
        cases h1
    simp [thingsB, this]
  have hnm : ws.all isNm = true := by simpa using hc
  obtain ⟨zs, s1, s2, s3⟩ := isNm_strs hnm
  subst s2
  rw [List.length_map] at lw
  have okz : ∀ z ∈ zs, okS z := fun z hz => (gd_str (xw (.str z) (List.mem_map_of_mem hz))).2
  walk_at "TL go"
  refine ⟨fun hc => ?_, fun hc => ?_⟩
  · walk_at "TL go"
    refine ⟨fun _ => ?_, fun hf => by cases hf⟩
    walk_at "TL go"
    refine bad G4 ?_
    rw [two40] at hc
    have : decide (rs.length ≤ 40) = false := by simpa using hc
    simp only [thingsB, this, Bool.and_false, Bool.false_and]
  rw [two40] at hc
  have l1 : decide (rs.length ≤ 40) = true := by simpa using hc
  walk_at "TL go"
  refine ⟨fun hc => ?_, fun hc => ?_⟩
  · walk_at "TL go"
    refine bad G4 ?_
    rw [two40] at hc
    have : decide ((zs.map T.str).length ≤ 40) = false := by simpa using hc
    simp only [thingsB, this, Bool.and_false, Bool.false_and]
  rw [two40] at hc
  have l2 : decide ((zs.map T.str).length ≤ 40) = true := by simpa using hc
  have frow : ∀ u ∈ rs, ∃ z us, u = .tup [.str z, .tup us] ∧ nameB z = true := fun u hu => row1_str (List.all_eq_true.mp hrow u hu)
  walk_at "TL go"
  refine w_lcM (fun y => match y with
    | .val u => .str (fstS u)
    | _ => .non) (w_seqT ?_)
  walk_at "TL go"
  refine ⟨rs.map Yv.val, by simp; omega, Gr.refl _, fun i h' _ => congrArg some (tupY i), ?_, ?_⟩
  · rintro y hy h' g'
    obtain ⟨u, hu, rfl⟩ := List.mem_map.mp hy
    obtain ⟨z, us, rfl, _⟩ := frow u hu
    walk_at "TL go"
    exact ⟨rfl, g'⟩
  intro h7 N g7 _ N6
  have enm : ((rs.map Yv.val).map fun y => match y with
    | .val u => T.str (fstS u)
    | _ => .non) = (rs.map fstS).map T.str := by rw [List.map_map, List.map_map]; rfl
  rw [enm] at N6
  have okn : ∀ z ∈ rs.map fstS, okS z := fun z hz => by
    obtain ⟨u, hu, rfl⟩ := List.mem_map.mp hz
    obtain ⟨z, us, rfl, _⟩ := frow u hu
    exact (gd_str ((gd_tup (xr _ hu)).2 (.str z) (by simp))).2
  have G6 := G4.trans g7
  walk_at "TL go"
  refine w_sortA (items_lst N6) (by simp; omega) fun h8 M g8 _ hM => ?_
  refine w_neSort (g8.get N6) hM okn ?_
  have N8 := g8.get N6
  have G8 := G6.trans g8
  walk_at "TL go"
  refine ⟨fun hc => ?_, fun hc => ?_⟩
  · walk_at "TL go"
    refine ⟨fun _ => ?_, fun hf => by cases hf⟩
    walk_at "TL go"
    refine bad G8 ?_
    have : ascB ltS (rs.map fstS) = false := by simpa using hc
    simp [thingsB, rowsB, this]
  have asr : ascB ltS (rs.map fstS) = true := by simpa using hc
  walk_at "TL go"
  have g9 := Gr.app h8 [TO.lst (zs.map T.str)]
  have hM2 := get_last h8 (TO.lst (zs.map T.str))
  refine w_sortA (q := .tup (zs.map T.str)) rfl (by omega) fun h10 M3 g10 _ hM3 => ?_
  refine w_neSort (g10.get hM2) hM3 okz ?_
  have N10 := (g9.trans g10).get N8
  have G10 := G8.trans (g9.trans g10)
  have szs : (zs.map T.str).map strOf = zs := by rw [List.map_map]; exact List.map_id _
  walk_at "TL go"
  refine ⟨fun hc => ?_, fun hc => ?_⟩
  · walk_at "TL go"
    refine ⟨fun _ => ?_, fun hf => by cases hf⟩
    walk_at "TL go"
    refine bad G10 ?_
    have : ascB ltS zs = false := by simpa using hc
    simp [thingsB, namesA, szs, this]
  have asw : ascB ltS zs = true := by simpa using hc
  have hun : unS zs = true := by
    have := asw
    rw [asc_dec, decide_eq_true_eq] at this
    have nd : zs.Nodup := by
      rw [this]
      exact (List.mergeSort_perm _ _).nodup_iff.mpr (nodup_uniq zs)
    simp [unS, uniq_self nd]
  have hwsA : namesA (zs.map T.str) = true := by simp [namesA, namesU, strsT_map, s3, hun, szs, asw]
  walk_at "TL go"
  refine W.use (lcBoth_eq N10 (by simp; omega) okz okn) fun h11 g11 => ?_
  have GA := G10.trans g11
  walk_at "TL go"
  refine ⟨fun hc => ?_, fun hc => ?_⟩
  · walk_at "TL go"
    refine bad GA ?_
    have h1 : ((rs.map fstS).all fun z => !decide (z ∈ zs)) = false := by simpa using hc
    obtain ⟨z, hz, hq⟩ := List.all_eq_false.mp h1
    obtain ⟨u, hu, rfl⟩ := List.mem_map.mp hz
    obtain ⟨z, us, rfl, _⟩ := frow u hu
    have hz : z ∈ zs := by
      by_cases q : z ∈ zs
      · exact q
      · exact (hq (by show (!decide (z ∈ zs)) = true; simp [q])).elim
    have : rs.all (rowIn (zs.map T.str)) = false := List.all_eq_false.mpr ⟨_, hu, by simp [rowIn, memS_mem, hz]⟩
    simp [thingsB, this]
  have hno : ∀ z us, T.tup [.str z, .tup us] ∈ rs → z ∉ zs := fun z us hm => by
    have h1 : ((rs.map fstS).all fun z => !decide (z ∈ zs)) = true := by simpa using hc
    have := List.all_eq_true.mp h1 z (List.mem_map.mpr ⟨_, hm, rfl⟩)
    simpa using this
  have fin : thingsB (.tup [a, .tup rs, .tup (zs.map T.str)]) = rs.all fun u => rowB u && rowIn (zs.map T.str) u := by
    simp only [thingsB, ea, rowsB, asr, hwsA, l1, l2, Bool.true_and, Bool.and_true]
    rw [Bool.eq_iff_iff]
    simp only [Bool.and_eq_true, List.all_eq_true]
    exact ⟨fun ⟨p, q⟩ u hu => ⟨p u hu, q u hu⟩, fun p => ⟨fun u hu => (p u hu).1, fun u hu => (p u hu).2⟩⟩
  walk_at "TL go"
  refine ws_for (w_seqT ?_)
  walk_at "TL go"
  refine ⟨rs.map Yv.val, fun i σ hh => (∃ o2 o3 o4, σ = S39 (.tup [a, .tup rs, .tup (zs.map T.str)]) (some (.ref N)) o2 o3 o4) ∧ Gr h11 hh ∧ (rs.take i).all (fun u => rowB u && rowIn (zs.map T.str) u) = true, by simp; omega, ⟨⟨_, _, _, rfl⟩, Gr.refl _, rfl⟩, fun i σ h _ => congrArg some (tupY i), ?_, ?_⟩
  · rintro i y hy σ hh ⟨⟨o2, o3, o4, rfl⟩, g, ha⟩
    rw [List.getElem?_map, Option.map_eq_some_iff] at hy
    obtain ⟨u, hu, rfl⟩ := hy
    have hm := List.mem_of_getElem? hu
    obtain ⟨z, us, rfl, hz⟩ := frow u hm
    have xu := up (GA.trans g) ((gd_tup (xr _ hm)).2 (.tup us) (by simp))
    have bad2 : ∀ {h2}, Gr h11 h2 → (rowB (.tup [.str z, .tup us]) && rowIn (zs.map T.str) (.tup [.str z, .tup us])) = false → (T.bl false = .bl (thingsB (.tup [a, .tup rs, .tup (zs.map T.str)])) ∧ Gr h h2) := fun g2' e => by
      have : (rs.all fun u => rowB u && rowIn (zs.map T.str) u) = false := List.all_eq_false.mpr ⟨_, hm, by simp [e]⟩
      exact ⟨by rw [fin, this], GA.trans g2'⟩
    have e1 : memS (zs.map T.str) (.str z) = false := by rw [memS_mem]; simpa using hno z us hm
    walk_at "TL go"
    refine W.use (lcOth_eq (gd_tup xu).1 hL (gd_tup xu).2 okz) fun h12 g12 => ?_
    walk_at "TL go"
    refine ⟨fun hc => ?_, fun hc => ?_⟩
    · walk_at "TL go"
      refine ⟨fun _ => ?_, fun hf => by cases hf⟩
      walk_at "TL go"
      refine bad2 (g.trans g12) ?_
      have : us.all (memS (zs.map T.str)) = false := by simpa using hc
      simp [rowIn, this]
    have hus : us.all (memS (zs.map T.str)) = true := by simpa using hc
    have hvs : ∃ vs : List Str, us = vs.map T.str ∧ vs.all nameB = true := by
      have : us.all isNm = true := List.all_eq_true.mpr fun v hv => by
        have q := List.all_eq_true.mp hus v hv
        cases v with
        | str s =>
          rw [memS_mem, decide_eq_true_eq] at q
          exact List.all_eq_true.mp s3 s q
        | _ => simp [memS] at q
      obtain ⟨vs, _, q2, q3⟩ := isNm_strs this
      exact ⟨vs, q2, q3⟩
    obtain ⟨vs, rfl, hv⟩ := hvs
    have lv : vs.length ≤ 60 := by have := (gd_tup xu).1; rw [List.length_map] at this; omega
    have hrow2 : (rowB (.tup [.str z, .tup (vs.map T.str)]) && rowIn (zs.map T.str) (.tup [.str z, .tup (vs.map T.str)])) = unS vs := by
      simp only [rowB, isNm, hz, tupB, namesU, strsT_map, hv, rowIn, e1, hus, Bool.true_and, Bool.not_false, Bool.and_true]
    walk_at "TL go"
    refine W.eq (lenset_items (q := .tup (vs.map T.str)) rfl (by omega)) ?_
    walk_at "TL go"
    have hle : (uniq vs).length ≤ vs.length := uniq_le vs
    refine ⟨fun hc => ?_, fun hc => ?_⟩
    · walk_at "TL go"
      refine bad2 (g.trans g12) ?_
      rw [hrow2]
      have : (uniq vs).length ≠ vs.length := by simp at hc; omega
      simp [unS, this]
    · walk_at "TL go"
      refine ⟨⟨_, _, _, rfl⟩, g.trans g12, ?_⟩
      rw [List.take_add_one, List.all_append, ha, hu]
      have : (uniq vs).length = vs.length := by simp at hc; omega
      simp only [Option.toList_some, List.all_cons, List.all_nil, Bool.and_true, Bool.true_and, hrow2]
      simp [unS, this]
  · rintro σ hh ⟨⟨o2, o3, o4, rfl⟩, g, hall⟩
    rw [List.length_map, List.take_length] at hall
    walk_at "TL go"
    exact ⟨by rw [fin, hall], GA.trans g⟩
end
end K39

namespace K39
open PySem PySem.Spec PyProof.Rows L2 TL
section
variable {b d : Nat} {h : TH} {Q : T → TH → Prop}
theorem w_draw {many : Int} (hm : 0 < many) (B : Bx h b d) (k : ∀ r h', 0 ≤ r → r < many → Bx h' b d → Gw b h h' → h'.length = h.length → Q (.int r) h') : W (F__law_draw [.ref b, .int many] h) Q := by
  obtain ⟨r, h', e, r0, r1, B', G, l⟩ := draw_eq' B hm
  exact W.eq e (k r h' r0 r1 B' G l)
theorem bx_d {h : TH} {b d : Nat} (x : Bx h b d) : d < h.length := let ⟨_, _, _, _, e, _⟩ := x; (List.getElem?_eq_some_iff.mp e).1
theorem bx_set {l : Nat} {o : TL.TO} (x : Bx h b d) (h1 : l ≠ b) (h2 : l ≠ d) : Bx (h.set l o) b d := by
  obtain ⟨a, ds, e1, e2, e3, e4, e5⟩ := x
  exact ⟨a, ds, by rw [List.getElem?_set_ne h1]; exact e1, e2, by rw [List.getElem?_set_ne h2]; exact e3, e4, e5⟩
theorem gw_set {h0 : TH} {l : Nat} {o : TL.TO} (x : Gw b h0 h) (hl : h0.length ≤ l) : Gw b h0 (h.set l o) :=
  ⟨by rw [List.length_set]; exact x.len, fun k u hk e => by
    have : k < h0.length := (List.getElem?_eq_some_iff.mp e).1
    rw [List.getElem?_set_ne (by omega)]
    exact x.at_ k u hk e⟩
theorem w_listI {q : T} {ts : List T} (e : itemsOf h q = some ts) (k : Q (.ref h.length) (h ++ [.lst ts])) : W (fList [q] h) Q := ⟨_, _, by simp only [fList, e], k⟩
theorem w_popAt {l i : Nat} {ts : List T} {x : T} (e : h[l]? = some (.lst ts)) (hx : ts[i]? = some x) (hl : ts.length ≤ 1000000) (k : Q x (h.set l (.lst (ts.eraseIdx i)))) : W (fPopL (.ref l) [.int (i : Int)] h) Q := by
  have hi : i < ts.length := (List.getElem?_eq_some_iff.mp hx).1
  have s : seqIndex? (i : Int) ts.length = some i := by rw [seqIndex_of (by omega) (by omega)]; rfl
  refine ⟨x, _, ?_, k⟩
  unfold fPopL
  simp only [e]
  rw [if_pos (by omega)]
  simp only [s, hx]
theorem lst_nil {α β : Type} {f : α → β} {l : List α} : decide (l.map f = []) = decide (l = []) := by cases l <;> simp
theorem era_map {α β : Type} (f : α → β) : ∀ (l : List α) (i : Nat), (l.map f).eraseIdx i = (l.eraseIdx i).map f
  | [], _ => rfl
  | _ :: _, 0 => rfl
  | a :: l, i + 1 => by simp [era_map f l i]
theorem era_perm {α : Type} : ∀ (l : List α) (i : Nat) (h : i < l.length), List.Perm ([l[i]] ++ l.eraseIdx i) l
  | [], _, h => absurd h (by simp)
  | a :: l, 0, _ => List.Perm.refl _
  | a :: l, i + 1, h => by
    have ih := era_perm l i (by simpa using h)
    show List.Perm (l[i]'(by simpa using h) :: a :: l.eraseIdx i) (a :: l)
    exact (List.Perm.swap _ _ _).trans (List.Perm.cons a ih)
theorem shuffled_eq {q : T} {xs : List Str} (B : Bx h b d) (e : itemsOf h q = some (xs.map T.str)) (hl : xs.length ≤ 100) (ok : ∀ x ∈ xs, okS x) (k : ∀ ys h', List.Perm ys xs → Bx h' b d → Gw b h h' → Q (.tup (ys.map T.str)) h') : W (F__law_shuffled [.ref b, q] h) Q := by
  have hb := bx_lt B
  have hd := bx_d B
  refine w_run ?_
  unfold b__law_shuffled
  walk_at "TL go"
  refine w_listI e ?_
  walk_at "TL go"
  have ll : (h ++ [TO.lst (xs.map T.str)]).length = h.length + 1 := by simp
  refine ws_while xs.length (fun m σ hh => ∃ ls fs : List Str, σ = [some (.ref b), some q, some (.ref h.length), some (.ref (h.length + 1))] ∧ m = ls.length ∧ hh[h.length]? = some (.lst (ls.map T.str)) ∧ hh[h.length + 1]? = some (.lst (fs.map T.str)) ∧ List.Perm (fs ++ ls) xs ∧ Bx hh b d ∧ Gw b h hh) (by omega)
    ⟨xs, [], by rw [ll]; rfl, rfl, get_at2 _ _ _, by rw [← ll]; exact get_last _ _, List.Perm.refl _, (B.app _).app _, ((Gr.app h _).trans (Gr.app _ _)).gw b⟩ ?_
  rintro m σ hh ⟨ls, fs, rfl, rfl, h1, h2, hp, B1, G1⟩
  have lls : ls.length ≤ 100 := by have := hp.length_eq; simp at this; omega
  have lfs : fs.length ≤ 100 := by have := hp.length_eq; simp at this; omega
  have okl : ∀ z ∈ ls, okS z := fun z hz => ok z (hp.mem_iff.mp (List.mem_append_right _ hz))
  walk_at "TL go"
  refine w_neNil (app_get _ h1) (get_last _ _) (fun v hv => ?_) ?_
  · obtain ⟨z, hz, rfl⟩ := List.mem_map.mp hv
    exact dat_strs (okl z hz)
  rw [lst_nil]
  walk_at "TL go"
  refine ⟨fun hc => ?_, fun hc => ?_⟩
  · have : ls = [] := by simpa using hc
    subst this
    walk_at "TL go"
    refine w_tupL (app_get _ h2) ?_
    rw [List.append_nil] at hp
    exact k fs _ hp (B1.app _) (G1.trans ((Gr.app hh _).gw b))
  · have hne : ls ≠ [] := by simpa using hc
    have hpos : 0 < ls.length := List.length_pos_iff.mpr hne
    have B2 := B1.app [TO.lst []]
    have G2 := G1.trans ((Gr.app hh [TO.lst []]).gw b)
    have h3 := app_get [TO.lst []] h1
    have h4 := app_get [TO.lst []] h2
    generalize hh ++ [TO.lst []] = hk at B2 G2 h3 h4 ⊢
    walk_at "TL go"
    refine w_mth ?_
    walk_at "TL go"
    refine ⟨fAppend, by rw [rcv_lst h4]; rfl, ?_⟩
    walk_at "TL go"
    refine w_mth ?_
    walk_at "TL go"
    refine ⟨fPopL, by rw [rcv_lst h3]; rfl, ?_⟩
    walk_at "TL go"
    refine w_draw (by decide) B2 fun r h5 r0 r1 B5 G5 _ => ?_
    have h6 := G5.at_ _ _ (by omega) h3
    have h7 := G5.at_ _ _ (by omega) h4
    walk_at "TL go"
    refine w_lenL h6 ?_
    refine w_modI (by rw [List.length_map]; omega) ?_
    rw [List.length_map]
    have a0 : 0 ≤ r % (ls.length : Int) := Int.emod_nonneg _ (by omega)
    have a1 : r % (ls.length : Int) < ls.length := Int.emod_lt_of_pos _ (by omega)
    obtain ⟨i, hi⟩ : ∃ i : Nat, r % (ls.length : Int) = i := ⟨(r % (ls.length : Int)).toNat, by omega⟩
    rw [hi]
    have hil : i < ls.length := by omega
    walk_at "TL go"
    refine w_popAt (x := .str ls[i]) h6 (by simp [hil]) (by simp; omega) ?_
    walk_at "TL go"
    refine w_appL (by rw [List.getElem?_set_ne (by omega)]; exact h7) (by simp; omega) ?_
    refine ⟨ls.length - 1, by omega, ls.eraseIdx i, fs ++ [ls[i]], rfl, by rw [List.length_eraseIdx]; simp [hil], ?_, ?_, ?_, bx_set (l := h.length + 1) (bx_set (l := h.length) B5 (by omega) (by omega)) (by omega) (by omega), gw_set (l := h.length + 1) (gw_set (l := h.length) (G2.trans G5) (by omega)) (by omega)⟩
    · rw [List.getElem?_set_ne (by omega), List.getElem?_set_self (List.getElem?_eq_some_iff.mp h6).1]
      congr 2
      exact era_map _ _ _
    · rw [List.getElem?_set_self (by rw [List.length_set]; exact (List.getElem?_eq_some_iff.mp h7).1)]
      simp
    · refine List.Perm.trans ?_ hp
      rw [List.append_assoc]
      exact List.Perm.append_left fs (era_perm ls i hil)
theorem list_eq {q : T} {xs : List Str} (B : Bx h b d) (e : itemsOf h q = some (xs.map T.str)) (hl : xs.length ≤ 100) (ok : ∀ x ∈ xs, okS x) (k : ∀ ys zs h', List.Perm ys xs → zs <+: ys → Bx h' b d → Gw b h h' → Q (.tup (zs.map T.str)) h') : W (F__law_list [.ref b, q] h) Q := by
  refine w_run ?_
  unfold b__law_list
  walk_at "TL go"
  refine shuffled_eq B e hl ok fun ys h1 hp B1 G1 => ?_
  have ly := hp.length_eq
  walk_at "TL go"
  refine w_draw (by decide) B1 fun r h2 r0 r1 B2 G2 _ => ?_
  walk_at "TL go"
  refine ⟨fun hc => ?_, fun hc => ?_⟩
  · walk_at "TL go"
    exact k ys ys _ hp (List.prefix_refl _) B2 (G1.trans G2)
  · walk_at "TL go"
    refine w_draw (by simp only [List.length_map]; omega) B2 fun r2 h3 r0 r1 B3 G3 _ => ?_
    walk_at "TL go"
    obtain ⟨i, rfl⟩ : ∃ i : Nat, r2 = i := ⟨r2.toNat, by omega⟩
    have hi : i ≤ (ys.map T.str).length := by simp at r1; simp; omega
    refine ⟨.tup ((ys.take i).map T.str), h3, ?_, k ys (ys.take i) _ hp (List.take_prefix _ _) B3 ((G1.trans G2).trans G3)⟩
    show Res.ok (T.tup (cutL _ none (some (i : Int)))) h3 = _
    rw [cut_take _ i hi, List.map_take]
end
end K39

namespace K39
open PySem PySem.Spec PyProof.Rows L2 TL
def okN (x : Str) : Prop := x.length ≤ 100 ∧ okS x
def nm (p : Str) (k : Nat) : Str := p ++ (toString (k : Int) : String)
theorem lt6 {k : Nat} (h : k < 6) : k = 0 ∨ k = 1 ∨ k = 2 ∨ k = 3 ∨ k = 4 ∨ k = 5 := by omega
theorem nm_okp {k : Nat} (hk : k < 6) : okN (nm "p" k) := by
  rcases lt6 hk with rfl | rfl | rfl | rfl | rfl | rfl
  all_goals exact ⟨by decide +kernel, by show PyData.canLay0 (.str _) = true; decide +kernel⟩
theorem nm_okt {k : Nat} (hk : k < 6) : okN (nm "t" k) := by
  rcases lt6 hk with rfl | rfl | rfl | rfl | rfl | rfl
  all_goals exact ⟨by decide +kernel, by show PyData.canLay0 (.str _) = true; decide +kernel⟩
theorem nd_p {m : Nat} (h : m < 6) : ((List.range m).map (nm "p")).Nodup := by
  rcases lt6 h with rfl | rfl | rfl | rfl | rfl | rfl
  all_goals decide +kernel
theorem nd_t {m : Nat} (h : m < 6) : ((List.range m).map (nm "t")).Nodup := by
  rcases lt6 h with rfl | rfl | rfl | rfl | rfl | rfl
  all_goals decide +kernel
/-- a row: unlike things of these -/
structure RowOk (ns : List Str) (l : List Str) : Prop where
  nd : l.Nodup
  sub : ∀ x ∈ l, x ∈ ns
  len : l.length ≤ 6
structure Dr (rows : List (Str × List Str)) (ns : List Str) : Prop where
  ln : ns.length ≤ 6
  okn : ∀ x ∈ ns, okN x
  lr : rows.length ≤ 6
  okp : ∀ r ∈ rows, okN r.1
  ndp : (rows.map Prod.fst).Nodup
  row : ∀ r ∈ rows, RowOk ns r.2
def rowT (r : Str × List Str) : T := .tup [.str r.1, .tup (r.2.map T.str)]
def ofThings (rows : List (Str × List Str)) (ns : List Str) : T := .tup [.str "things", .tup (rows.map rowT), .tup (ns.map T.str)]
section
variable {b d : Nat} {h : TH} {Q : T → TH → Prop}
theorem w_strI {k : Nat} (hk : k < 6) (q : Q (.str (toString (k : Int))) h) : W (fStr [.int (0 + (k : Nat))] h) Q := by
  refine ⟨_, h, ?_, q⟩
  have z : (0 : Int) + (k : Nat) = (k : Int) := by omega
  rw [z]
  unfold fStr
  refine if_pos ?_
  rcases lt6 hk with rfl | rfl | rfl | rfl | rfl | rfl
  all_goals decide +kernel
theorem w_addS {p q : Str} (hl : p.length + q.length ≤ 1000000) (k : Q (.str (p ++ q)) h) : W (fAdd (.str p) (.str q) h) Q := ⟨_, _, if_pos (by rw [sizeLine_eq]; omega), k⟩
theorem len_str {k : Nat} (hk : k < 6) : ((toString (k : Int) : String) : Str).length = 1 := by
  rcases lt6 hk with rfl | rfl | rfl | rfl | rfl | rfl
  all_goals decide +kernel
theorem things_eq {many other : Nat} (hm : many < 6) (ho : other < 6) (B : Bx h b d) (k : ∀ rows ns h', Dr rows ns → Bx h' b d → Gw b h h' → Q (ofThings rows ns) h') : W (F__law_things [.ref b, .int (many : Int), .int (other : Int)] h) Q := by
  have hb := bx_lt B
  have hd := bx_d B
  have lp : ("p" : Str).length = 1 := by decide
  have lt : ("t" : Str).length = 1 := by decide
  refine w_run ?_
  unfold b__law_things
  walk_at "TL go"
  refine w_lcM (fun y => match y with
    | .val (.int k) => .str (nm "t" k.toNat)
    | _ => .non) (w_rng1 (n := other) ?_)
  walk_at "TL go"
  refine ⟨rfl, by omega, rngY 0 other, by rw [rngY_len]; omega, Gr.refl _, fun i h' _ => rng_fix i h', ?_, ?_⟩
  · rintro y hy h' g'
    obtain ⟨i, hi, ei⟩ := List.getElem_of_mem hy
    obtain ⟨q1, rfl⟩ := rngY_at (by rw [List.getElem?_eq_getElem hi, ei])
    walk_at "TL go"
    refine w_strI (by omega) ?_
    refine w_addS (by rw [lt, len_str (by omega)]; omega) ⟨?_, g'⟩
    have : (0 + (i : Int)).toNat = i := by omega
    simp only [this, nm]
  intro h1 N g1 hN e1
  have en : ((rngY 0 other).map fun y => match y with
    | .val (.int k) => T.str (nm "t" k.toNat)
    | _ => .non) = ((List.range other).map (nm "t")).map T.str := by
    unfold rngY
    rw [List.map_map, List.map_map]
    refine List.map_congr_left fun i _ => ?_
    show T.str (nm "t" (0 + (i : Int)).toNat) = _
    have : (0 + (i : Int)).toNat = i := by omega
    rw [this]; rfl
  rw [en] at e1
  generalize hns : (List.range other).map (nm "t") = ns at e1
  have ln : ns.length ≤ 6 := by rw [← hns]; simp; omega
  have okn : ∀ x ∈ ns, okN x := fun x hx => by
    rw [← hns] at hx
    obtain ⟨j, hj, rfl⟩ := List.mem_map.mp hx
    exact nm_okt (by have := List.mem_range.mp hj; omega)
  have ndn : ns.Nodup := by rw [← hns]; exact nd_t ho
  walk_at "TL go"
  refine w_lc (w_rng1 (n := many) ?_)
  walk_at "TL go"
  refine ⟨rfl, by omega, rngY 0 many, fun i acc hh => ∃ rs : List (Str × List Str), acc = rs.map rowT ∧ rs.map Prod.fst = (List.range i).map (nm "p") ∧ (∀ r ∈ rs, RowOk ns r.2) ∧ Bx hh b d ∧ Gw b h1 hh, by rw [rngY_len]; omega, ⟨[], rfl, rfl, fun r hr => (by cases hr), g1.bx B, Gw.refl b h1⟩, fun i acc hh _ => rng_fix i hh, ?_, ?_, ?_⟩
  · rintro i acc hh ⟨rs, rfl, e2, _⟩
    have := congrArg List.length e2
    simp at this
    simp; omega
  · rintro i y hy acc hh ⟨rs, rfl, e2, hr, B2, G2⟩
    obtain ⟨hi, rfl⟩ := rngY_at hy
    walk_at "TL go"
    refine ⟨fun _ => ?_, fun hf => by cases hf⟩
    walk_at "TL go"
    refine w_strI (by omega) ?_
    refine w_addS (by rw [lp, len_str (by omega)]; omega) ?_
    walk_at "TL go"
    have e3 := G2.at_ _ _ (by omega) e1
    refine list_eq B2 (items_lst e3) (by omega) (fun x hx => (okn x hx).2) fun ys zs h3 hp hz B3 G3 => ?_
    walk_at "TL go"
    refine ⟨rs ++ [(nm "p" i, zs)], by simp [rowT, nm], ?_, fun r hr' => ?_, B3, G2.trans G3⟩
    · rw [List.map_append, e2, List.range_succ, List.map_append]; rfl
    · rcases List.mem_append.mp hr' with z | z
      · exact hr r z
      · rw [List.mem_singleton.mp z]
        have sl := hz.sublist
        exact ⟨sl.nodup (hp.nodup_iff.mpr ndn), fun x hx => hp.mem_iff.mp (sl.subset hx), (by show zs.length ≤ 6; have := sl.length_le; have := hp.length_eq; omega)⟩
  · rintro acc hh ⟨rs, rfl, e2, hr, B2, G2⟩
    rw [rngY_len] at e2
    walk_at "TL go"
    refine w_tupL (get_last hh _) ?_
    walk_at "TL go"
    refine w_tupL (app_get _ (G2.at_ _ _ (by omega) e1)) ?_
    walk_at "TL go"
    have lr := congrArg List.length e2
    simp at lr
    refine k rs ns _ ⟨ln, okn, by omega, fun r hr' => ?_, by rw [e2]; exact nd_p hm, hr⟩ (B2.app _) ((g1.gw b).trans (G2.trans ((Gr.app hh _).gw b)))
    have : r.1 ∈ rs.map Prod.fst := List.mem_map_of_mem hr'
    rw [e2] at this
    obtain ⟨j, hj, e4⟩ := List.mem_map.mp this
    rw [← e4]
    exact nm_okp (by have := List.mem_range.mp hj; omega)
theorem things_ts {rows : List (Str × List Str)} {ns : List Str} (D : Dr rows ns) : Ts 45 5 (ofThings rows ns) := by
  refine ⟨by simp, fun t ht => ?_⟩
  simp only [List.mem_cons, List.not_mem_nil, or_false] at ht
  rcases ht with rfl | rfl | rfl
  · exact ⟨by decide +kernel, by decide +kernel⟩
  · refine ⟨by have := D.lr; simp; omega, fun t ht => ?_⟩
    obtain ⟨r, hr, rfl⟩ := List.mem_map.mp ht
    refine ⟨by simp, fun t ht => ?_⟩
    simp only [List.mem_cons, List.not_mem_nil, or_false] at ht
    rcases ht with rfl | rfl
    · exact D.okp r hr
    · refine ⟨by have := (D.row r hr).len; simp; omega, fun t ht => ?_⟩
      obtain ⟨x, hx, rfl⟩ := List.mem_map.mp ht
      exact D.okn x ((D.row r hr).sub x hx)
  · refine ⟨by have := D.ln; simp; omega, fun t ht => ?_⟩
    obtain ⟨x, hx, rfl⟩ := List.mem_map.mp ht
    exact D.okn x hx
end
end K39

namespace K39
open PySem PySem.Spec PyProof.Rows L2 TL
/-! ### plain words about rows of pairs -/
theorem unS_iff : ∀ xs : List Str, unS xs = true ↔ xs.Nodup
  | [] => by simp [unS, uniq]
  | x :: l => by
    have ih := unS_iff l
    have l1 := uniq_le l
    have l2 := List.length_filter_le (fun y => decide (y ≠ x)) (uniq l)
    simp only [unS, decide_eq_true_eq] at ih ⊢
    rw [List.nodup_cons]
    show ((uniq l).filter fun y => decide (y ≠ x)).length + 1 = l.length + 1 ↔ _
    constructor
    · intro h
      have e1 : (uniq l).length = l.length := by omega
      refine ⟨fun hx => ?_, ih.mp e1⟩
      have e2 : ((uniq l).filter fun y => decide (y ≠ x)).length = (uniq l).length := by omega
      have := List.length_filter_eq_length_iff.mp e2 x (mem_uniq.mpr hx)
      simp at this
    · rintro ⟨hx, nd⟩
      have e1 := ih.mpr nd
      have e2 : (uniq l).filter (fun y => decide (y ≠ x)) = uniq l := List.filter_eq_self.mpr fun y hy => by
        have : y ≠ x := fun e => hx (e ▸ mem_uniq.mp hy)
        simp [this]
      rw [e2]; omega
theorem enc_pair (h : TH) (p : Str × Str) : encT h (ofPair p) = .tuple [.str p.1, .str p.2] := rfl
theorem sort_pairsT (h : TH) (qs : List (Str × Str)) : sortT h (qs.map ofPair) = some ((qs.mergeSort leP).map ofPair) := by
  have c1 : ((qs.map ofPair).all fun t => (dat 66 h t).isSome) = true := by
    rw [List.all_map]; exact List.all_eq_true.mpr fun p _ => rfl
  have e : (qs.map ofPair).map (encT h) = qs.map fun p => PyData.tuple [.str p.1, .str p.2] := by rw [List.map_map]; rfl
  have c2 : allAlike ((qs.map ofPair).map (encT h)) = true := by
    rw [e]
    refine List.all_eq_true.mpr fun x hx => List.all_eq_true.mpr fun y hy => ?_
    obtain ⟨p, _, rfl⟩ := List.mem_map.mp hx
    obtain ⟨q, _, rfl⟩ := List.mem_map.mp hy
    rfl
  have c3 : sortable ((qs.map ofPair).map (encT h)) = true := by
    rw [e]
    unfold sortable
    rw [Bool.or_eq_true]
    refine .inl (List.all_eq_true.mpr fun x hx => ?_)
    obtain ⟨p, _, rfl⟩ := List.mem_map.mp hx
    rfl
  have c4 : ((qs.map ofPair).all fun t => decide ((encT h t).depth ≤ 60)) = true := by
    rw [List.all_map]
    refine List.all_eq_true.mpr fun p _ => ?_
    show decide ((PyData.tuple [.str p.1, .str p.2]).depth ≤ 60) = true
    simp [PyData.depth, PyData.depthAll]
  unfold sortT
  rw [if_pos ⟨c1, c2, c3, c4⟩, List.map_mergeSort fun a _ b _ => ?_]
  rw [le_encP]
  rfl
/-- sorted, and no first part twice: ascending by them -/
theorem firsts_asc (qs : List (Str × Str)) : (decide (qs = qs.mergeSort leP) && unS (qs.map Prod.fst)) = ascB ltS (qs.map Prod.fst) := by
  have tr : ∀ a b c : Str, ltS a b = true → ltS b c = true → ltS a c = true := fun a b c h1 h2 => by
    rw [ltS_not] at *
    exact lin_S.lt_tr a b c h1 h2
  rw [Bool.eq_iff_iff, Bool.and_eq_true, decide_eq_true_eq, unS_iff, asc_pair tr, List.pairwise_map]
  constructor
  · rintro ⟨e, nd⟩
    have p : qs.Pairwise fun a b => leP a b = true := by
      rw [e]
      exact List.pairwise_mergeSort lin_P.trans lin_P.total qs
    have nd' : qs.Pairwise fun a b => a.1 ≠ b.1 := by
      have := List.pairwise_map.mp nd
      exact this
    refine List.Pairwise.imp (fun {a b} hab => ?_) (List.Pairwise.and p nd')
    have h1 := hab.1
    unfold leP at h1
    rw [if_neg hab.2] at h1
    rw [ltS_not]
    cases e2 : leS b.1 a.1 with
    | false => rfl
    | true => exact absurd (lin_S.anti _ _ h1 e2) hab.2
  · intro p
    have ne : ∀ {a b : Str × Str}, ltS a.1 b.1 = true → a.1 ≠ b.1 := fun {a b} h1 e => by
      rw [e, ltS_not, lin_S.refl] at h1; cases h1
    refine ⟨(List.mergeSort_of_pairwise (p.imp fun {a b} hab => ?_)).symm, List.pairwise_map.mpr (p.imp fun {a b} hab => ne hab)⟩
    unfold leP
    rw [if_neg (ne hab)]
    rw [ltS_not] at hab
    have := lin_S.total a.1 b.1
    have e2 : leS b.1 a.1 = false := by simpa using hab
    rw [e2, Bool.or_false] at this
    exact this
def pairB2 : T → Bool
  | .tup [a, b] => isS a && isS b
  | _ => false
theorem pairB2_len {us : List T} (h : us.length ≠ 2) : pairB2 (.tup us) = false := by
  match us, h with
  | [], _ => rfl
  | [_], _ => rfl
  | [_, _], h => exact absurd rfl h
  | _ :: _ :: _ :: _, _ => simp [pairB2]
theorem pairs_all : ∀ {ps : List T}, ps.all pairB2 = true → ∃ qs : List (Str × Str), ps = qs.map ofPair
  | [], _ => ⟨[], rfl⟩
  | t :: ps, h => by
    rw [List.all_cons, Bool.and_eq_true] at h
    obtain ⟨qs, rfl⟩ := pairs_all h.2
    match t, h.1 with
    | .tup [a, b], h1 =>
      simp only [pairB2, Bool.and_eq_true] at h1
      obtain ⟨x, rfl⟩ := isS_str h1.1
      obtain ⟨y, rfl⟩ := isS_str h1.2
      exact ⟨(x, y) :: qs, rfl⟩
theorem pairT_of (p : Str × Str) : pairT (ofPair p) = some p := rfl
theorem pairsT_map : ∀ qs : List (Str × Str), pairsT (qs.map ofPair) = some qs
  | [] => rfl
  | q :: qs => by
    show (match pairT (ofPair q), pairsT (qs.map ofPair) with
      | some p, some ps => some (p :: ps)
      | _, _ => none) = _
    rw [pairT_of, pairsT_map qs]
theorem pairs_not {ps : List T} {u : T} (hu : u ∈ ps) (h : pairB2 u = false) : pairsT ps = none := by
  cases e : pairsT ps with
  | none => rfl
  | some qs =>
    rw [pairsT_of e] at hu
    obtain ⟨q, _, rfl⟩ := List.mem_map.mp hu
    simp [pairB2, isS] at h
/-- is this pair of a person and a thing of its list -/
def inL (rows : List (Str × List Str)) (q : Str × Str) : Bool := rows.any fun r => decide (r.1 = q.1) && decide (q.2 ∈ r.2)
def shareB (rows : List (Str × List Str)) : T → Bool
  | .tup ps => match pairsT ps with
    | some qs => ascB ltS (qs.map Prod.fst) && unS (qs.map Prod.snd) && qs.all (inL rows)
    | none => false
  | _ => false
def lstD (rows : List (Str × List Str)) : List (T × T) := dMrg [] (rows.map fun r => (Sum.inr r.1, T.tup (r.2.map T.str)))
theorem lstD_get {rows : List (Str × List Str)} {ns : List Str} (D : Dr rows ns) {r : Str × List Str} (hr : r ∈ rows) : dAt (lstD rows) (.inr r.1) = some (.tup (r.2.map T.str)) := by
  refine dMrg_get _ _ ?_ (List.mem_map.mpr ⟨r, hr, rfl⟩)
  rw [List.map_map]
  have : (Prod.fst ∘ fun r : Str × List Str => ((Sum.inr r.1 : Key), T.tup (r.2.map T.str))) = Sum.inr ∘ Prod.fst := rfl
  rw [this, ← List.map_map]
  exact List.pairwise_map.mpr (D.ndp.imp fun {a b} hab e => hab (Sum.inr.inj e))
theorem lstD_is {rows : List (Str × List Str)} (p : Str) : (dAt (lstD rows) (.inr p)).isSome = decide (∃ r ∈ rows, r.1 = p) := by
  rw [Bool.eq_iff_iff, lstD, dMrg_is, decide_eq_true_eq]
  simp [dAt]
theorem inL_row {rows : List (Str × List Str)} {ns : List Str} (D : Dr rows ns) {r : Str × List Str} (hr : r ∈ rows) (w : Str) : inL rows (r.1, w) = decide (w ∈ r.2) := by
  rw [Bool.eq_iff_iff]
  simp only [inL, List.any_eq_true, Bool.and_eq_true, decide_eq_true_eq]
  constructor
  · rintro ⟨s, hs, e, hw⟩
    have : s = r := by
      have nd := D.ndp
      obtain ⟨i, hi, ei⟩ := List.getElem_of_mem hs
      obtain ⟨j, hj, ej⟩ := List.getElem_of_mem hr
      have e1 : (rows.map Prod.fst)[i]? = some r.1 := by rw [List.getElem?_map, List.getElem?_eq_getElem hi, ei]; simp [e]
      have e2 : (rows.map Prod.fst)[j]? = some r.1 := by rw [List.getElem?_map, List.getElem?_eq_getElem hj, ej]; rfl
      have := nodup_at nd e1 e2
      subst this
      rw [← ei, ej]
    rw [← this]; exact hw
  · intro hw
    exact ⟨r, hr, rfl, hw⟩
end K39

namespace K39
open PySem PySem.Spec PyProof.Rows L2 TL
section
variable {b L n : Nat} {t : T} {h : TH} {rows : List (Str × List Str)} {ns : List Str} {Q : T → TH → Prop}
/-- lists_of of the drawn rows -/
theorem lists_of_eq (D : Dr rows ns) (k : ∀ h' j, Gr h h' → h.length ≤ j → h'[j]? = some (.dic (lstD rows)) → Q (.ref j) h') : W (F_lists_of [.tup (rows.map rowT)] h) Q := by
  refine w_run ?_
  unfold b_lists_of
  walk_at "TL go"
  refine w_dcA (fun y => match y with
    | .val (.tup [.str p, l]) => (Sum.inr p, l)
    | _ => (Sum.inl 0, .non)) (w_seqT ?_)
  walk_at "TL go"
  refine ⟨(rows.map rowT).map Yv.val, by have := D.lr; simp; omega, Gr.refl _, fun i h' _ => congrArg some (tupY i), ?_, ?_⟩
  · rintro y hy h' g'
    obtain ⟨u, hu, rfl⟩ := List.mem_map.mp hy
    obtain ⟨r, hr, rfl⟩ := List.mem_map.mp hu
    unfold rowT
    walk_at "TL go"
    exact ⟨rfl, rfl, g'⟩
  · intro h' j g' hj e
    refine k h' j g' hj ?_
    rw [e, List.map_map, List.map_map]
    rfl
theorem kpairs_rows : ∀ rows : List (Str × List Str), kpairs (rows.map rowT) = some (rows.map fun r => (Sum.inr r.1, T.tup (r.2.map T.str)))
  | [] => rfl
  | r :: rows => by
    rw [List.map_cons, rowT, kpairs, kpairs_rows rows]
    rfl
theorem w_dictRows (k : ∀ h' j, Gr h h' → h.length ≤ j → h'[j]? = some (.dic (lstD rows)) → Q (.ref j) h') : W (fDictA [.tup (rows.map rowT)] h) Q :=
  ⟨_, _, by simp only [fDictA, kpairs_rows]; rfl, k _ _ (Gr.app h _) (Nat.le_refl _) (get_last h _)⟩
theorem w_notInDT {a : Str} {xs : List Str} (ha : okS a) (hx : ∀ x ∈ xs, okS x) (q : Q (.bl (!decide (a ∈ xs))) h) : W (fNotInD (.str a) (.tup (xs.map T.str)) h) Q := w_notInT ha hx q
def isShare1 (rows : List (Str × List Str)) (q : Str × Str) : Bool := inL rows q
theorem are_pairs_eq (x : Gd b L h n t) (hL : L ≤ 60) : ∃ h', Gr h h' ∧ F_are_pairs [t] h = .ok (.bl (tupB (fun ps => match pairsT ps with
    | some qs => ascB ltS (qs.map Prod.fst) && unS (qs.map Prod.snd)
    | none => false) t)) h' := by
  refine W.pu (w_run ?_)
  unfold b_are_pairs
  walk_at "TL go"
  refine w_gdTup x ?_
  walk_at "TL go"
  refine ⟨fun hc => ?_, fun hc => ?_⟩
  · walk_at "TL go"
    refine ⟨?_, Gr.refl h⟩
    cases t <;> simp_all [isT, tupB]
  obtain ⟨ts, rfl⟩ := isT_tup (t := t) (by simpa using hc)
  obtain ⟨hl, xs⟩ := gd_tup x
  walk_at "TL go"
  refine ws_for (w_seqT ?_)
  walk_at "TL go"
  refine ⟨ts.map Yv.val, fun i σ hh => (∃ o, σ = [some (.tup ts), o, none]) ∧ Gr h hh ∧ (ts.take i).all pairB2 = true, by simp; omega, ⟨⟨none, rfl⟩, Gr.refl h, rfl⟩, fun i σ h _ => congrArg some (tupY i), ?_, ?_⟩
  · rintro i y hy σ hh ⟨⟨o, rfl⟩, g, ha⟩
    rw [List.getElem?_map, Option.map_eq_some_iff] at hy
    obtain ⟨u, hu, rfl⟩ := hy
    have hm := List.mem_of_getElem? hu
    have xu := (xs u hm).mono (Nat.le_refl _) (g.gw b) (Nat.le_refl _)
    have bad : pairB2 u = false → (T.bl false = .bl (tupB (fun ps => match pairsT ps with
      | some qs => ascB ltS (qs.map Prod.fst) && unS (qs.map Prod.snd)
      | none => false) (.tup ts)) ∧ Gr h hh) := fun e => ⟨by simp [tupB, pairs_not hm e], g⟩
    walk_at "TL go"
    refine w_gdTup xu ?_
    walk_at "TL go"
    refine ⟨fun hc => ?_, fun hc => ?_⟩
    · walk_at "TL go"
      refine ⟨fun _ => ?_, fun hf => by cases hf⟩
      walk_at "TL go"
      exact bad (by cases u <;> simp_all [isT, pairB2])
    obtain ⟨us, rfl⟩ := isT_tup (t := u) (by simpa using hc)
    walk_at "TL go"
    refine ⟨fun hc => ?_, fun hc => ?_⟩
    · walk_at "TL go"
      exact bad (pairB2_len (nat_not hc))
    obtain ⟨p, q, rfl⟩ := two_of (nat_of hc)
    obtain ⟨_, x2⟩ := gd_tup xu
    walk_at "TL go"
    refine w_gdStr (x2 p (by simp)) ?_
    walk_at "TL go"
    refine ⟨fun hc => ?_, fun hc => ?_⟩
    · walk_at "TL go"
      refine ⟨fun _ => ?_, fun hf => by cases hf⟩
      walk_at "TL go"
      exact bad (by simp at hc; simp [pairB2, hc])
    have hp : isS p = true := by simpa using hc
    walk_at "TL go"
    refine w_gdStr (x2 q (by simp)) ?_
    walk_at "TL go"
    refine ⟨fun hc => ?_, fun hc => ?_⟩
    · walk_at "TL go"
      exact bad (by simp at hc; simp [pairB2, hc])
    · walk_at "TL go"
      refine ⟨⟨_, rfl⟩, g, ?_⟩
      rw [List.take_add_one, List.all_append, ha, hu]
      simp at hc
      simp [pairB2, hp, hc]
  · rintro σ hh ⟨⟨o, rfl⟩, g, ha⟩
    rw [List.length_map, List.take_length] at ha
    obtain ⟨qs, rfl⟩ := pairs_all ha
    rw [List.length_map] at hl
    have parts : ∀ (f : Str × Str → Str) (k : Nat), (qs.map ofPair).map Yv.val = qs.map fun q => Yv.val (ofPair q) := fun f k => by rw [List.map_map]; rfl
    walk_at "TL go"
    refine w_lcM (fun y => match y with
      | .val (.tup [_, z]) => z
      | _ => .non) (w_seqT ?_)
    walk_at "TL go"
    refine ⟨(qs.map ofPair).map Yv.val, by simp; omega, Gr.refl _, fun i h' _ => congrArg some (tupY i), ?_, ?_⟩
    · rintro y hy h' g'
      obtain ⟨u, hu, rfl⟩ := List.mem_map.mp hy
      obtain ⟨q, hq, rfl⟩ := List.mem_map.mp hu
      walk_at "TL go"
      exact ⟨rfl, g'⟩
    intro h1 N g1 _ e1
    have e1' : h1[N]? = some (.lst ((qs.map Prod.snd).map T.str)) := by
      rw [e1, List.map_map, List.map_map, List.map_map]; rfl
    walk_at "TL go"
    refine w_lcM (fun y => match y with
      | .val (.tup [z, _]) => z
      | _ => .non) (w_seqT ?_)
    walk_at "TL go"
    refine ⟨(qs.map ofPair).map Yv.val, by simp; omega, Gr.refl _, fun i h' _ => congrArg some (tupY i), ?_, ?_⟩
    · rintro y hy h' g'
      obtain ⟨u, hu, rfl⟩ := List.mem_map.mp hy
      obtain ⟨q, hq, rfl⟩ := List.mem_map.mp hu
      walk_at "TL go"
      exact ⟨rfl, g'⟩
    intro h2 M g2 _ e2
    have e2' : h2[M]? = some (.lst ((qs.map Prod.fst).map T.str)) := by
      rw [e2, List.map_map, List.map_map, List.map_map]; rfl
    walk_at "TL go"
    refine W.eq (ascending_eq (items_lst e2') (by simp; omega)) ?_
    walk_at "TL go"
    have fin : tupB (fun ps => match pairsT ps with
      | some qs => ascB ltS (qs.map Prod.fst) && unS (qs.map Prod.snd)
      | none => false) (.tup (qs.map ofPair)) = (ascB ltS (qs.map Prod.fst) && unS (qs.map Prod.snd)) := by
      simp only [tupB, pairsT_map]
    rw [fin]
    have gg := (g.trans g1).trans g2
    refine ⟨fun hc => ⟨by rw [hc]; rfl, gg⟩, fun hc => ?_⟩
    walk_at "TL go"
    refine W.eq (lenset_items (items_lst (g2.get e1')) (by simp; omega)) ?_
    walk_at "TL go"
    refine w_lenL (g2.get e1') ?_
    walk_at "TL go"
    refine ⟨?_, gg⟩
    rw [hc]
    simp [unS]
    omega
theorem is_share_eq (D : Dr rows ns) (x : Gd b L h n t) (hL : L ≤ 60) : ∃ h', Gr h h' ∧ F_is_share [ofThings rows ns, t] h = .ok (.bl (shareB rows t)) h' := by
  refine W.pu (w_run ?_)
  unfold b_is_share ofThings
  walk_at "TL go"
  refine W.use (are_pairs_eq x hL) fun h1 g1 => ?_
  walk_at "TL go"
  refine ⟨fun hc => ?_, fun hc => ?_⟩
  · walk_at "TL go"
    refine ⟨?_, g1⟩
    cases t with
    | tup ps =>
      simp only [tupB] at hc
      simp only [shareB]
      cases e : pairsT ps with
      | none => rfl
      | some qs =>
        rw [e] at hc
        have hc' : (ascB ltS (qs.map Prod.fst) && unS (qs.map Prod.snd)) = false := by
          have q : (!(ascB ltS (qs.map Prod.fst) && unS (qs.map Prod.snd))) = true := hc
          rwa [Bool.not_eq_true'] at q
        simp only [hc', Bool.false_and]
    | _ => rfl
  cases t with
  | tup ps =>
    simp only [tupB] at hc
    cases e : pairsT ps with
    | none => rw [e] at hc; cases hc
    | some qs =>
      rw [e] at hc
      have hc' : (ascB ltS (qs.map Prod.fst) && unS (qs.map Prod.snd)) = true := by simpa using hc
      have ep := pairsT_of e
      subst ep
      have hl := (gd_tup x).1
      rw [List.length_map] at hl
      have fin : shareB rows (.tup (qs.map ofPair)) = qs.all (inL rows) := by simp only [shareB, pairsT_map, hc', Bool.true_and]
      walk_at "TL go"
      refine lists_of_eq D fun h2 N g2 _ hd => ?_
      walk_at "TL go"
      refine ws_for (w_seqT ?_)
      walk_at "TL go"
      refine ⟨(qs.map ofPair).map Yv.val, fun i σ hh => (∃ o3 o4, σ = [some (.tup [.str "things", .tup (rows.map rowT), .tup (ns.map T.str)]), some (.tup (qs.map ofPair)), some (.ref N), o3, o4]) ∧ Gr h2 hh ∧ (qs.take i).all (inL rows) = true, by simp; omega, ⟨⟨_, _, rfl⟩, Gr.refl _, rfl⟩, fun i σ h _ => congrArg some (tupY i), ?_, ?_⟩
      · rintro i y hy σ hh ⟨⟨o3, o4, rfl⟩, g, ha⟩
        rw [List.getElem?_map, Option.map_eq_some_iff] at hy
        obtain ⟨u, hu, rfl⟩ := hy
        rw [List.getElem?_map, Option.map_eq_some_iff] at hu
        obtain ⟨q, hq, rfl⟩ := hu
        have hm := List.mem_of_getElem? hq
        have okq : okS q.2 := (gd_str ((gd_tup ((gd_tup x).2 (ofPair q) (List.mem_map_of_mem hm))).2 (.str q.2) (by simp))).2
        have bad : inL rows q = false → (T.bl false = .bl (shareB rows (.tup (qs.map ofPair))) ∧ Gr h hh) := fun e => by
          have : qs.all (inL rows) = false := List.all_eq_false.mpr ⟨q, hm, by simp [e]⟩
          exact ⟨by rw [fin, this], (g1.trans g2).trans g⟩
        walk_at "TL go"
        refine w_notInDD (g.get hd) (k := .inr q.1) rfl ?_
        rw [lstD_is]
        walk_at "TL go"
        refine ⟨fun hc => ?_, fun hc => ?_⟩
        · walk_at "TL go"
          refine ⟨fun _ => ?_, fun hf => by cases hf⟩
          walk_at "TL go"
          refine bad ?_
          have hno : ¬ ∃ r ∈ rows, r.1 = q.1 := by simpa using hc
          rw [inL, List.any_eq_false]
          intro r hr hq
          simp only [Bool.and_eq_true, decide_eq_true_eq] at hq
          exact hno ⟨r, hr, hq.1⟩
        · have hyes : ∃ r ∈ rows, r.1 = q.1 := by simpa using hc
          obtain ⟨r, hr, er⟩ := hyes
          have eq1 : inL rows q = decide (q.2 ∈ r.2) := by
            have := inL_row D hr q.2
            rw [er] at this
            exact this
          walk_at "TL go"
          refine w_ixDD (g.get hd) (k := .inr q.1) rfl (by rw [← er]; exact lstD_get D hr) ?_
          refine w_notInDT okq (fun z hz => (D.okn z ((D.row r hr).sub z hz)).2) ?_
          walk_at "TL go"
          refine ⟨fun hc => ?_, fun hc => ?_⟩
          · walk_at "TL go"
            exact bad (by rw [eq1]; simpa using hc)
          · walk_at "TL go"
            refine ⟨⟨_, _, rfl⟩, g, ?_⟩
            rw [List.take_add_one, List.all_append, ha, hq]
            have : inL rows q = true := by rw [eq1]; simpa using hc
            simp [this]
      · rintro σ hh ⟨⟨o3, o4, rfl⟩, g, ha⟩
        rw [List.length_map, List.length_map, List.take_length] at ha
        walk_at "TL go"
        exact ⟨by rw [fin, ha], (g1.trans g2).trans g⟩
  | _ => simp [tupB] at hc
end
end K39

namespace K39
open PySem PySem.Spec PyProof.Rows L2 TL
section
variable {b L n : Nat} {t : T} {h : TH} {rows : List (Str × List Str)} {ns : List Str} {Q : T → TH → Prop}
theorem w_sortP {qs : List (Str × Str)} (k : ∀ h' j, Gr h h' → h.length ≤ j → h'[j]? = some (.lst ((qs.mergeSort leP).map ofPair)) → Q (.ref j) h') : W (fSortedT [.tup (qs.map ofPair)] h) Q :=
  ⟨_, _, by simp only [fSortedT, sort_pairsT], k _ _ (Gr.app h _) (Nat.le_refl _) (get_last h _)⟩
theorem w_sortPL {qs : List (Str × Str)} {i : Nat} (e : h[i]? = some (.lst (qs.map ofPair))) (k : ∀ h' j, Gr h h' → h.length ≤ j → h'[j]? = some (.lst ((qs.mergeSort leP).map ofPair)) → Q (.ref j) h') : W (fSortedT [.ref i] h) Q :=
  ⟨_, _, by simp only [fSortedT, fSorted, e, sort_pairsT], k _ _ (Gr.app h _) (Nat.le_refl _) (get_last h _)⟩
abbrev S6 (a t : T) (o2 o3 o4 o5 : Option T) : Sl := [some a, some t, o2, o3, o4, o5]
def lcP : ME := eBin fNe (eLc (iSeq (eVar 1)) (TL.gName 3) (mOr (mNot (mB (eUn (fIsInst .tup) (eVar 3)))) (mOr (mB (eBin fNe (eCall fLen (aCons (eVar 3) (aNil))) (eC (.int 2)))) (mOr (mNot (mB (eUn (fIsInst .str) (eBin fIxD (eVar 3) (eC (.int 0)))))) (mNot (mB (eUn (fIsInst .str) (eBin fIxD (eVar 3) (eC (.int 1))))))))) (eC (.int 1)) [3]) (eLst (aNil))
theorem lcP_eq {a : T} {ps : List T} (lp : ps.length ≤ L) (hL : L ≤ 60) (xp : ∀ u ∈ ps, Gd b L h n u) : ∃ h', Gr h h' ∧ lcP (S6 a (.tup ps) none none none none) h = .ok (.bl (!ps.all pairB2)) h' := by
  suffices hw : W (lcP (S6 a (.tup ps) none none none none) h) fun a h' => a = .bl (!ps.all pairB2) ∧ Gr h h' by
    obtain ⟨v, h', e, rfl, g⟩ := hw
    exact ⟨h', g, e⟩
  unfold lcP
  walk_at "TL go"
  refine w_neA (fun y => match y with
    | .val u => !pairB2 u
    | _ => false) (fun _ => .int 1) (w_seqT ?_)
  walk_at "TL go"
  refine ⟨ps.map Yv.val, by simp; omega, Gr.refl _, fun i h' _ => congrArg some (tupY i), fun _ _ _ _ _ => dat_int _ _, ?_, ?_⟩
  · rintro y hy h' g'
    obtain ⟨u, hu, rfl⟩ := List.mem_map.mp hy
    have xu := up' g' (xp u hu)
    have no : pairB2 u = false → ((true : Bool) = (!pairB2 u)) := fun e => by simp [e]
    walk_at "TL go"
    refine w_gdTup xu ?_
    walk_at "TL go"
    refine ⟨fun hc => ?_, fun hc => ?_⟩
    · exact ⟨no (by cases u <;> simp_all [isT, pairB2]), fun _ => g', fun _ => by walk_at "TL go"; exact ⟨rfl, g'⟩⟩
    obtain ⟨us, rfl⟩ := isT_tup (t := u) (by simpa using hc)
    walk_at "TL go"
    refine ⟨fun hc => ?_, fun hc => ?_⟩
    · exact ⟨no (pairB2_len (nat_not hc)), fun _ => g', fun _ => by walk_at "TL go"; exact ⟨rfl, g'⟩⟩
    obtain ⟨p, q, rfl⟩ := two_of (nat_of hc)
    obtain ⟨_, x2⟩ := gd_tup xu
    walk_at "TL go"
    refine w_gdStr (x2 p (by simp)) ?_
    walk_at "TL go"
    refine ⟨fun hc => ?_, fun hc => ?_⟩
    · exact ⟨no (by simp at hc; simp [pairB2, hc]), fun _ => g', fun _ => by walk_at "TL go"; exact ⟨rfl, g'⟩⟩
    have hp : isS p = true := by simpa using hc
    walk_at "TL go"
    refine w_gdStr (x2 q (by simp)) ?_
    walk_at "TL go"
    exact ⟨by simp [pairB2, hp], fun _ => g', fun _ => by walk_at "TL go"; exact ⟨rfl, g'⟩⟩
  · intro h2 g2
    refine ⟨?_, g2⟩
    rw [all_map]
    simp
def lcL : ME := eBin fNe (eLc (iSeq (eVar 1)) (TL.gTup (gsCons (TL.gName 4) (gsCons (TL.gName 5) (gsNil)))) (mOr (mB (eBin fNotInD (eVar 4) (eVar 2))) (mB (eBin fNotInD (eVar 5) (eBin fIxD (eVar 2) (eVar 4))))) (eC (.int 1)) [4, 5]) (eLst (aNil))
theorem lcL_eq {a : T} {qs : List (Str × Str)} {N : Nat} (D : Dr rows ns) (hN : h[N]? = some (.dic (lstD rows))) (lq : qs.length ≤ 60) (okq : ∀ q ∈ qs, okS q.2) : ∃ h', Gr h h' ∧ lcL (S6 a (.tup (qs.map ofPair)) (some (.ref N)) none none none) h = .ok (.bl (!qs.all (inL rows))) h' := by
  suffices hw : W (lcL (S6 a (.tup (qs.map ofPair)) (some (.ref N)) none none none) h) fun a h' => a = .bl (!qs.all (inL rows)) ∧ Gr h h' by
    obtain ⟨v, h', e, rfl, g⟩ := hw
    exact ⟨h', g, e⟩
  unfold lcL
  walk_at "TL go"
  refine w_neA (fun y => match y with
    | .val (.tup [.str p, .str q]) => !inL rows (p, q)
    | _ => false) (fun _ => .int 1) (w_seqT ?_)
  walk_at "TL go"
  refine ⟨(qs.map ofPair).map Yv.val, by simp; omega, Gr.refl _, fun i h' _ => congrArg some (tupY i), fun _ _ _ _ _ => dat_int _ _, ?_, ?_⟩
  · rintro y hy h' g'
    obtain ⟨u, hu, rfl⟩ := List.mem_map.mp hy
    obtain ⟨q, hq, rfl⟩ := List.mem_map.mp hu
    walk_at "TL go"
    refine w_notInDD (g'.get hN) (k := .inr q.1) rfl ?_
    rw [lstD_is]
    walk_at "TL go"
    refine ⟨fun hc => ?_, fun hc => ?_⟩
    · have hno : ¬ ∃ r ∈ rows, r.1 = q.1 := by simpa using hc
      have : inL rows q = false := by
        rw [inL, List.any_eq_false]
        intro r hr hq
        simp only [Bool.and_eq_true, decide_eq_true_eq] at hq
        exact hno ⟨r, hr, hq.1⟩
      exact ⟨by show true = (!inL rows q); rw [this]; rfl, fun _ => g', fun _ => by walk_at "TL go"; exact ⟨rfl, g'⟩⟩
    · have hyes : ∃ r ∈ rows, r.1 = q.1 := by simpa using hc
      obtain ⟨r, hr, er⟩ := hyes
      have eq1 : inL rows q = decide (q.2 ∈ r.2) := by
        have := inL_row D hr q.2
        rw [er] at this
        exact this
      walk_at "TL go"
      refine w_ixDD (g'.get hN) (k := .inr q.1) rfl (by rw [← er]; exact lstD_get D hr) ?_
      refine w_notInDT (okq q hq) (fun z hz => (D.okn z ((D.row r hr).sub z hz)).2) ?_
      walk_at "TL go"
      exact ⟨by show _ = (!inL rows q); rw [eq1], fun _ => g', fun _ => by walk_at "TL go"; exact ⟨rfl, g'⟩⟩
  · intro h2 g2
    refine ⟨?_, g2⟩
    rw [all_map, all_map]
    simp only [Bool.not_not]
theorem share_parts : b__law_share_right = sSeq (sIf (mOr (mNot (mB (eUn (fIsInst .tup) (eVar 1)))) (mB lcP)) (sRet (eC (.bl false))) (sNil)) (sSeq (sSet 2 (eCall fDictA (aCons (eBin fIxD (eVar 0) (eC (.int 1))) (aNil)))) (sSeq (sIf (mOr (mB lcL) (mB (eBin fNe (eCall fList (aCons (eVar 1) (aNil))) (eCall fSortedT (aCons (eVar 1) (aNil)))))) (sRet (eC (.bl false))) (sNil)) (sRet (eAnd (eBin fEq (eUn fLenSet (eLc (iSeq (eVar 1)) (TL.gName 3) (mYes) (eBin fIxD (eVar 3) (eC (.int 0))) [3])) (eCall fLen (aCons (eVar 1) (aNil)))) (eBin fEq (eUn fLenSet (eLc (iSeq (eVar 1)) (TL.gName 3) (mYes) (eBin fIxD (eVar 3) (eC (.int 1))) [3])) (eCall fLen (aCons (eVar 1) (aNil)))))))) := rfl
theorem share_right_eq (D : Dr rows ns) (x : Gd b L h n t) (hL : L ≤ 60) : ∃ h', Gr h h' ∧ F__law_share_right [ofThings rows ns, t] h = .ok (.bl (shareB rows t)) h' := by
  refine W.pu (w_run ?_)
  rw [share_parts]
  unfold ofThings
  walk_at "TL go"
  refine w_gdTup x ?_
  walk_at "TL go"
  refine ⟨fun hc => ?_, fun hc => ?_⟩
  · walk_at "TL go"
    refine ⟨fun _ => ?_, fun hf => by cases hf⟩
    walk_at "TL go"
    exact ⟨by cases t <;> simp_all [isT, shareB], Gr.refl h⟩
  obtain ⟨ps, rfl⟩ := isT_tup (t := t) (by simpa using hc)
  obtain ⟨lp, xp⟩ := gd_tup x
  walk_at "TL go"
  refine W.use (lcP_eq lp hL xp) fun h1 g1 => ?_
  walk_at "TL go"
  refine ⟨fun hc => ?_, fun hc => ?_⟩
  · walk_at "TL go"
    refine ⟨?_, g1⟩
    have h1 : ps.all pairB2 = false := by simpa using hc
    obtain ⟨u, hu, hq⟩ := List.all_eq_false.mp h1
    simp [shareB, pairs_not hu (by simpa using hq)]
  obtain ⟨qs, rfl⟩ := pairs_all (ps := ps) (by simpa using hc)
  rw [List.length_map] at lp
  have okp : ∀ q ∈ qs, okS q.1 ∧ okS q.2 := fun q hq => by
    have x1 := (gd_tup (xp (ofPair q) (List.mem_map_of_mem hq))).2
    exact ⟨(gd_str (x1 (.str q.1) (by simp))).2, (gd_str (x1 (.str q.2) (by simp))).2⟩
  have fin : shareB rows (.tup (qs.map ofPair)) = (ascB ltS (qs.map Prod.fst) && unS (qs.map Prod.snd) && qs.all (inL rows)) := by simp only [shareB, pairsT_map]
  walk_at "TL go"
  refine w_dictRows fun h2 N g2 _ hN => ?_
  walk_at "TL go"
  refine W.use (lcL_eq D hN (by omega) (fun q hq => (okp q hq).2)) fun h3 g3 => ?_
  have G3 := (g1.trans g2).trans g3
  walk_at "TL go"
  refine ⟨fun hc => ?_, fun hc => ?_⟩
  · walk_at "TL go"
    refine ⟨fun _ => ?_, fun hf => by cases hf⟩
    walk_at "TL go"
    have : qs.all (inL rows) = false := by simpa using hc
    exact ⟨by rw [fin, this, Bool.and_false], G3⟩
  have hin : qs.all (inL rows) = true := by simpa using hc
  walk_at "TL go"
  have gl := Gr.app h3 [TO.lst (qs.map ofPair)]
  have hl := get_last h3 (TO.lst (qs.map ofPair))
  refine w_sortP fun h4 M g4 _ hM => ?_
  refine w_ne (eq_pairs (g4.get hl) hM okp (fun z hz => okp z ((List.mergeSort_perm _ _).mem_iff.mp hz))) ?_
  have G4 := G3.trans (gl.trans g4)
  have fa := firsts_asc qs
  walk_at "TL go"
  refine ⟨fun hc => ?_, fun hc => ?_⟩
  · walk_at "TL go"
    have : decide (qs = qs.mergeSort leP) = false := by simpa using hc
    rw [this, Bool.false_and] at fa
    exact ⟨by rw [fin, ← fa]; rfl, G4⟩
  have hso : decide (qs = qs.mergeSort leP) = true := by simpa using hc
  rw [hso, Bool.true_and] at fa
  walk_at "TL go"
  refine w_lcM (fun y => match y with
    | .val (.tup [z, _]) => z
    | _ => .non) (w_seqT ?_)
  walk_at "TL go"
  refine ⟨(qs.map ofPair).map Yv.val, by simp; omega, Gr.refl _, fun i h' _ => congrArg some (tupY i), ?_, ?_⟩
  · rintro y hy h' g'
    obtain ⟨u, hu, rfl⟩ := List.mem_map.mp hy
    obtain ⟨q, hq, rfl⟩ := List.mem_map.mp hu
    walk_at "TL go"
    exact ⟨rfl, g'⟩
  intro h5 K1 g5 _ e5
  have e5' : h5[K1]? = some (.lst ((qs.map Prod.fst).map T.str)) := by
    rw [e5, List.map_map, List.map_map, List.map_map]; rfl
  have u1 := uniq_le (qs.map Prod.fst)
  have u2 := uniq_le (qs.map Prod.snd)
  have lenI : ∀ {xs : List Str}, xs.length = qs.length → decide (((uniq xs).length : Int) = ((qs.map ofPair).length : Int)) = unS xs := fun {xs} e => by
    rw [List.length_map]
    unfold unS
    rw [e]
    by_cases q : (uniq xs).length = qs.length
    · simp [q]
    · have : ¬ ((uniq xs).length : Int) = (qs.length : Int) := by omega
      simp [q, this]
  walk_at "TL go"
  refine W.eq (lenset_items (items_lst e5') (by simp; omega)) ?_
  walk_at "TL go"
  rw [lenI (by simp)]
  refine ⟨fun hc => ?_, fun hc => ?_⟩
  · exact ⟨by rw [fin, ← fa, hc]; rfl, G4.trans g5⟩
  walk_at "TL go"
  refine w_lcM (fun y => match y with
    | .val (.tup [_, z]) => z
    | _ => .non) (w_seqT ?_)
  walk_at "TL go"
  refine ⟨(qs.map ofPair).map Yv.val, by simp; omega, Gr.refl _, fun i h' _ => congrArg some (tupY i), ?_, ?_⟩
  · rintro y hy h' g'
    obtain ⟨u, hu, rfl⟩ := List.mem_map.mp hy
    obtain ⟨q, hq, rfl⟩ := List.mem_map.mp hu
    walk_at "TL go"
    exact ⟨rfl, g'⟩
  intro h6 K2 g6 _ e6
  have e6' : h6[K2]? = some (.lst ((qs.map Prod.snd).map T.str)) := by
    rw [e6, List.map_map, List.map_map, List.map_map]; rfl
  walk_at "TL go"
  refine W.eq (lenset_items (items_lst e6') (by simp; omega)) ?_
  walk_at "TL go"
  rw [lenI (by simp)]
  exact ⟨by rw [fin, ← fa, hc, hin, Bool.true_and, Bool.and_true], (G4.trans g5).trans g6⟩
end
end K39

namespace K39
open PySem PySem.Spec PyProof.Rows L2 TL
/-- one takes the first thing that is left -/
def stepR (s : List Str × List (Str × Str)) (r : Str × List Str) : List Str × List (Str × Str) := match r.2.find? (fun w => decide (w ∉ s.1)) with
  | none => s
  | some w => (s.1 ++ [w], s.2 ++ [(r.1, w)])
def runR (os : List (Str × List Str)) : List Str × List (Str × Str) := os.foldl stepR ([], [])
theorem runR_snoc (os : List (Str × List Str)) (r : Str × List Str) : runR (os ++ [r]) = stepR (runR os) r := by
  unfold runR; rw [List.foldl_append]; rfl
theorem runR_len : ∀ os : List (Str × List Str), (runR os).1.length ≤ os.length ∧ (runR os).2.length ≤ os.length := by
  intro os
  unfold runR
  have key : ∀ (l : List (Str × List Str)) (s : List Str × List (Str × Str)), (l.foldl stepR s).1.length ≤ s.1.length + l.length ∧ (l.foldl stepR s).2.length ≤ s.2.length + l.length := by
    intro l
    induction l with
    | nil => intro s; exact ⟨Nat.le_refl _, Nat.le_refl _⟩
    | cons r l ih =>
      intro s
      have := ih (stepR s r)
      have h1 : (stepR s r).1.length ≤ s.1.length + 1 ∧ (stepR s r).2.length ≤ s.2.length + 1 := by
        unfold stepR; split <;> simp
      simp only [List.foldl_cons, List.length_cons]
      omega
  have := key os ([], [])
  simpa using this
/-- what was there stays -/
theorem gr_of {h hh : TH} (k : ∀ (i : Nat) (o : TL.TO), h[i]? = some o → hh[i]? = some o) : Gr h hh := by
  refine ⟨hh.drop h.length, ?_⟩
  have t : hh.take h.length = h := by
    refine List.ext_getElem? fun j => ?_
    rw [List.getElem?_take]
    by_cases hj : j < h.length
    · rw [if_pos hj, List.getElem?_eq_getElem hj]
      exact k j _ (List.getElem?_eq_getElem hj)
    · rw [if_neg hj, List.getElem?_eq_none (by omega)]
  have e := (List.take_append_drop h.length hh).symm
  rw [t] at e
  exact e
section
variable {b L n : Nat} {t : T} {h : TH} {rows : List (Str × List Str)} {ns : List Str} {Q : T → TH → Prop}
theorem run_mem {os : List (Str × List Str)} (hs : ∀ r ∈ os, RowOk ns r.2) : ∀ w ∈ (runR os).1, w ∈ ns := by
  unfold runR
  have key : ∀ (l : List (Str × List Str)) (s : List Str × List (Str × Str)), (∀ r ∈ l, RowOk ns r.2) → (∀ w ∈ s.1, w ∈ ns) → ∀ w ∈ (l.foldl stepR s).1, w ∈ ns := by
    intro l
    induction l with
    | nil => intro s _ hs; exact hs
    | cons r l ih =>
      intro s hl hs
      refine ih _ (fun r' hr' => hl r' (List.mem_cons_of_mem _ hr')) fun w hw => ?_
      unfold stepR at hw
      split at hw
      · exact hs w hw
      · rename_i v e
        rcases List.mem_append.mp hw with z | z
        · exact hs w z
        · rw [List.mem_singleton.mp z]
          exact (hl r List.mem_cons_self).sub _ (List.mem_of_find?_eq_some e)
  exact key os _ hs (fun w hw => by cases hw)
theorem in_row_eq (D : Dr rows ns) {os : List (Str × List Str)} (hos : ∀ r ∈ os, r ∈ rows) (lo : os.length ≤ 6) :
    ∃ h', Gr h h' ∧ F_in_row [ofThings rows ns, .tup ((os.map Prod.fst).map T.str)] h = .ok (.tup (((runR os).2.mergeSort leP).map ofPair)) h' := by
  refine W.pu (w_run ?_)
  unfold b_in_row ofThings
  walk_at "TL go"
  refine lists_of_eq D fun h1 N g1 hN1 hN => ?_
  walk_at "TL go"
  refine w_run ?_
  unfold b_row_pairs
  walk_at "TL go"
  have ll : (h1 ++ [TO.dic []]).length = h1.length + 1 := by simp
  have lN : N < h1.length := (List.getElem?_eq_some_iff.mp hN).1
  refine ws_for (w_seqT ?_)
  walk_at "TL go"
  refine ⟨((os.map Prod.fst).map T.str).map Yv.val, fun i σ hh => (∃ o4 o5, σ = [some (.ref N), some (.tup ((os.map Prod.fst).map T.str)), some (.ref h1.length), some (.ref (h1.length + 1)), o4, o5]) ∧ h.length ≤ hh.length ∧ (∃ Dk, hh[h1.length]? = some (.dic Dk) ∧ Dk.length ≤ i ∧ ∀ w, (dAt Dk (.inr w)).isSome = decide (w ∈ (runR (os.take i)).1)) ∧ hh[h1.length + 1]? = some (.lst ((runR (os.take i)).2.map ofPair)) ∧ (∃ hx, Gr h hx ∧ hx.length = h1.length ∧ ∀ k o, hx[k]? = some o → hh[k]? = some o) ∧ hh[N]? = some (.dic (lstD rows)), by simp; omega,
    ⟨⟨_, _, by rw [ll]; rfl⟩, by have := (g1.gw 0).len; simp; omega, ⟨[], get_at2 _ _ _, Nat.le_refl _, fun w => rfl⟩, by rw [← ll]; exact get_last _ _, ⟨h1, g1, rfl, fun k o e => app_get _ (app_get _ e)⟩, app_get _ (app_get _ hN)⟩, fun i σ h _ => congrArg some (tupY i), ?_, ?_⟩
  · rintro i y hy σ hh ⟨⟨o4, o5, rfl⟩, l0, ⟨Dk, e1, lD, mem⟩, e2, ⟨hx, gx, lx, kx⟩, e3⟩
    rw [List.getElem?_map, Option.map_eq_some_iff] at hy
    obtain ⟨u, hu, rfl⟩ := hy
    rw [List.getElem?_map, Option.map_eq_some_iff] at hu
    obtain ⟨p, hp, rfl⟩ := hu
    rw [List.getElem?_map, Option.map_eq_some_iff] at hp
    obtain ⟨r, hr, rfl⟩ := hp
    have hi : i < os.length := (List.getElem?_eq_some_iff.mp hr).1
    have hm := hos r (List.mem_of_getElem? hr)
    have et : os.take (i + 1) = os.take i ++ [r] := by rw [List.take_add_one, hr]; rfl
    walk_at "TL go"
    refine ws_for (w_seqT ?_)
    walk_at "TL go"
    refine w_ixDD e3 (k := .inr r.1) rfl (lstD_get D hm) ?_
    walk_at "TL go"
    refine ⟨(r.2.map T.str).map Yv.val, fun j σ h2 => (∃ o5, σ = [some (.ref N), some (.tup ((os.map Prod.fst).map T.str)), some (.ref h1.length), some (.ref (h1.length + 1)), some (.str r.1), o5]) ∧ h2 = hh ∧ ∀ w ∈ r.2.take j, w ∈ (runR (os.take i)).1, by have := (D.row r hm).len; simp; omega, ⟨⟨_, rfl⟩, rfl, fun w hw => by simp at hw⟩, fun i σ h _ => congrArg some (tupY i), ?_, ?_⟩
    · rintro j y hy σ h2 ⟨⟨o5, rfl⟩, rfl, hno⟩
      rw [List.getElem?_map, Option.map_eq_some_iff] at hy
      obtain ⟨u, hu, rfl⟩ := hy
      rw [List.getElem?_map, Option.map_eq_some_iff] at hu
      obtain ⟨w, hw, rfl⟩ := hu
      walk_at "TL go"
      refine w_notInDD e1 (k := .inr w) rfl ?_
      rw [mem]
      walk_at "TL go"
      refine ⟨fun hc => ?_, fun hc => ?_⟩
      · have hfree : w ∉ (runR (os.take i)).1 := by simpa using hc
        have hf : r.2.find? (fun w => decide (w ∉ (runR (os.take i)).1)) = some w := by
          rw [List.find?_eq_some_iff_getElem]
          obtain ⟨hj, ej⟩ := List.getElem?_eq_some_iff.mp hw
          refine ⟨by simpa using hfree, j, hj, ej, fun k hk => ?_⟩
          have : r.2[k] ∈ r.2.take j := List.mem_take_iff_getElem.mpr ⟨k, by omega, rfl⟩
          simpa using hno _ this
        have es : runR (os.take (i + 1)) = ((runR (os.take i)).1 ++ [w], (runR (os.take i)).2 ++ [(r.1, w)]) := by
          rw [et, runR_snoc]; unfold stepR; rw [hf]
        walk_at "TL go"
        refine w_setDD e1 (k := .inr w) rfl (by omega) ?_
        walk_at "TL go"
        refine w_mth ?_
        walk_at "TL go"
        have e4 : (h2.set h1.length (.dic (dPut Dk (.inr w) (.bl true))))[h1.length + 1]? = some (.lst ((runR (os.take i)).2.map ofPair)) := by rw [List.getElem?_set_ne (by omega)]; exact e2
        refine ⟨fAppend, by rw [rcv_lst e4]; rfl, ?_⟩
        walk_at "TL go"
        have lr := (runR_len (os.take i)).2
        rw [List.length_take] at lr
        refine w_appL e4 (by simp; omega) ?_
        walk_at "TL go"
        refine ⟨⟨_, _, rfl⟩, by simpa using l0, ⟨dPut Dk (.inr w) (.bl true), ?_, ?_, fun v => ?_⟩, ?_, ⟨hx, gx, lx, fun k o e => ?_⟩, ?_⟩
        · rw [List.getElem?_set_ne (by omega), List.getElem?_set_self (List.getElem?_eq_some_iff.mp e1).1]
        · have := len_dPut Dk (.inr w) (.bl true); omega
        · rw [dAt_put, es]
          by_cases q : w = v
          · subst q; simp
          · have q2 : ¬ v = w := fun z => q z.symm
            rw [if_neg (by simpa using q), mem]
            simp [q2]
        · rw [List.getElem?_set_self (by rw [List.length_set]; exact (List.getElem?_eq_some_iff.mp e2).1), es]
          simp
        · have hk : k < h1.length := by rw [← lx]; exact (List.getElem?_eq_some_iff.mp e).1
          rw [List.getElem?_set_ne (by omega), List.getElem?_set_ne (by omega)]
          exact kx k o e
        · rw [List.getElem?_set_ne (by omega), List.getElem?_set_ne (by omega)]
          exact e3
      · have hin : w ∈ (runR (os.take i)).1 := by simpa using hc
        walk_at "TL go"
        refine ⟨⟨_, rfl⟩, rfl, fun v hv => ?_⟩
        rw [List.take_add_one, hw, List.mem_append] at hv
        rcases hv with z | z
        · exact hno v z
        · have : v = w := by simpa using z
          rw [this]; exact hin
    · rintro σ h2 ⟨⟨o5, rfl⟩, rfl, hno⟩
      rw [List.length_map, List.length_map, List.take_length] at hno
      have hf : r.2.find? (fun w => decide (w ∉ (runR (os.take i)).1)) = none := by
        rw [List.find?_eq_none]
        intro w hw
        simpa using hno w hw
      have es : runR (os.take (i + 1)) = runR (os.take i) := by
        rw [et, runR_snoc]; unfold stepR; rw [hf]
      exact ⟨⟨_, _, rfl⟩, l0, ⟨Dk, e1, by omega, fun w => by rw [es]; exact mem w⟩, by rw [es]; exact e2, ⟨hx, gx, lx, kx⟩, e3⟩
  · rintro σ hh ⟨⟨o4, o5, rfl⟩, l0, ⟨Dk, e1, lD, mem⟩, e2, ⟨hx, gx, lx, kx⟩, e3⟩
    have lf : (((os.map Prod.fst).map T.str).map Yv.val).length = os.length := by simp
    rw [lf, List.take_length] at e2
    walk_at "TL go"
    refine w_sortPL e2 fun h3 M g3 _ hM => ?_
    walk_at "TL go"
    refine w_tupL hM ⟨rfl, ?_⟩
    have gh : Gr h hh := by
      obtain ⟨r, rfl⟩ := gx
      exact gr_of fun k o e => kx k o (app_get r e)
    exact gh.trans g3
/-- the law's own -/
theorem law_in_row_eq (D : Dr rows ns) {os : List (Str × List Str)} (hos : ∀ r ∈ os, r ∈ rows) (lo : os.length ≤ 6) :
    ∃ h', Gr h h' ∧ F__law_in_row [ofThings rows ns, .tup ((os.map Prod.fst).map T.str)] h = .ok (.tup (((runR os).2.mergeSort leP).map ofPair)) h' := by
  refine W.pu (w_run ?_)
  unfold b__law_in_row ofThings
  walk_at "TL go"
  refine w_dictRows fun h1 N g1 hN1 hN => ?_
  walk_at "TL go"
  have ll : (h1 ++ [TO.lst []]).length = h1.length + 1 := by simp
  have lN : N < h1.length := (List.getElem?_eq_some_iff.mp hN).1
  refine ws_for (w_seqT ?_)
  walk_at "TL go"
  refine ⟨((os.map Prod.fst).map T.str).map Yv.val, fun i σ hh => (∃ o5 o6, σ = [some (.tup [.str "things", .tup (rows.map rowT), .tup (ns.map T.str)]), some (.tup ((os.map Prod.fst).map T.str)), some (.ref N), some (.ref h1.length), some (.ref (h1.length + 1)), o5, o6, none]) ∧ hh[h1.length]? = some (.lst ((runR (os.take i)).1.map T.str)) ∧ hh[h1.length + 1]? = some (.lst ((runR (os.take i)).2.map ofPair)) ∧ (∀ k o, h1[k]? = some o → hh[k]? = some o), by simp; omega,
    ⟨⟨_, _, by rw [ll]; rfl⟩, get_at2 _ _ _, by rw [← ll]; exact get_last _ _, fun k o e => app_get _ (app_get _ e)⟩, fun i σ h _ => congrArg some (tupY i), ?_, ?_⟩
  · rintro i y hy σ hh ⟨⟨o5, o6, rfl⟩, e1, e2, kx⟩
    rw [List.getElem?_map, Option.map_eq_some_iff] at hy
    obtain ⟨u, hu, rfl⟩ := hy
    rw [List.getElem?_map, Option.map_eq_some_iff] at hu
    obtain ⟨p, hp, rfl⟩ := hu
    rw [List.getElem?_map, Option.map_eq_some_iff] at hp
    obtain ⟨r, hr, rfl⟩ := hp
    have hi : i < os.length := (List.getElem?_eq_some_iff.mp hr).1
    have hm := hos r (List.mem_of_getElem? hr)
    have et : os.take (i + 1) = os.take i ++ [r] := by rw [List.take_add_one, hr]; rfl
    have lr := runR_len (os.take i)
    rw [List.length_take] at lr
    have okr : ∀ z ∈ r.2, okS z := fun z hz => (D.okn z ((D.row r hm).sub z hz)).2
    have okt : ∀ z ∈ (runR (os.take i)).1, okS z := fun z hz => (D.okn z (run_mem (ns := ns) (fun r' hr' => D.row r' (hos r' (List.mem_of_mem_take hr'))) z hz)).2
    walk_at "TL go"
    refine w_lcA (fun y => match y with
      | .val (.str w) => decide (w ∉ (runR (os.take i)).1)
      | _ => false) (fun y => match y with
      | .val u => u
      | _ => .non) (w_seqT ?_)
    walk_at "TL go"
    refine w_ixDD (kx _ _ hN) (k := .inr r.1) rfl (lstD_get D hm) ?_
    walk_at "TL go"
    refine ⟨(r.2.map T.str).map Yv.val, by have := (D.row r hm).len; simp; omega, Gr.refl _, fun i h' _ => congrArg some (tupY i), ?_, ?_⟩
    · rintro y hy h' g'
      obtain ⟨u, hu, rfl⟩ := List.mem_map.mp hy
      obtain ⟨w, hw, rfl⟩ := List.mem_map.mp hu
      walk_at "TL go"
      have e1' := g'.get e1
      refine ⟨.bl (!decide (w ∈ (runR (os.take i)).1)), h', ?_, ?_⟩
      · unfold fNotInD
        simp only [e1']
        unfold fNotIn
        rw [in_items (items_lst e1') (okr w hw) okt]
        rfl
      walk_at "TL go"
      exact ⟨by simp, fun _ => g', fun _ => by walk_at "TL go"; exact ⟨rfl, g'⟩⟩
    intro h3 M g3 hM0 hM
    have efr : ((((r.2.map T.str).map Yv.val).filter fun y => match y with
      | .val (.str w) => decide (w ∉ (runR (os.take i)).1)
      | _ => false).map fun y => match y with
      | .val u => u
      | _ => T.non) = (r.2.filter fun w => decide (w ∉ (runR (os.take i)).1)).map T.str := by
      rw [List.map_map, List.filter_map, List.map_map]
      rfl
    rw [efr] at hM
    have hh3 : hh.length ≤ h3.length := (g3.gw 0).len
    walk_at "TL go"
    refine w_neNil (app_get _ hM) (get_last _ _) (fun v hv => ?_) ?_
    · obtain ⟨z, hz, rfl⟩ := List.mem_map.mp hv
      exact dat_strs (okr z (List.mem_filter.mp hz).1)
    have g4 := g3.trans (Gr.app h3 [TO.lst []])
    have hM4 := app_get [TO.lst []] hM
    have e14 := g4.get e1
    have e24 := g4.get e2
    have k4 : ∀ k o, h1[k]? = some o → (h3 ++ [TO.lst []])[k]? = some o := fun k o e => g4.get (kx k o e)
    generalize hk : h3 ++ [TO.lst []] = h4 at hM4 e14 e24 k4 g4 ⊢
    rw [lst_nil]
    walk_at "TL go"
    refine ⟨fun hc => ?_, fun hc => ?_⟩
    · have hne : (r.2.filter fun w => decide (w ∉ (runR (os.take i)).1)) ≠ [] := by simpa using hc
      obtain ⟨w, ws, ew⟩ := List.exists_cons_of_ne_nil hne
      have hf : r.2.find? (fun w => decide (w ∉ (runR (os.take i)).1)) = some w := by
        rw [← List.head?_filter, ew]; rfl
      have es : runR (os.take (i + 1)) = ((runR (os.take i)).1 ++ [w], (runR (os.take i)).2 ++ [(r.1, w)]) := by
        rw [et, runR_snoc]; unfold stepR; rw [hf]
      rw [ew] at hM4
      have lM : h1.length + 1 < hh.length := (List.getElem?_eq_some_iff.mp e2).1
      walk_at "TL go"
      refine w_mth ?_
      walk_at "TL go"
      refine ⟨fAppend, by rw [rcv_lst e14]; rfl, ?_⟩
      walk_at "TL go"
      refine w_ixDL hM4 (atI0 _ _) ?_
      walk_at "TL go"
      refine w_appL e14 (by simp; omega) ?_
      walk_at "TL go"
      refine w_mth ?_
      walk_at "TL go"
      have e25 : (h4.set h1.length (.lst ((runR (os.take i)).1.map T.str ++ [.str w])))[h1.length + 1]? = some (.lst ((runR (os.take i)).2.map ofPair)) := by rw [List.getElem?_set_ne (by omega)]; exact e24
      have hM5 : (h4.set h1.length (.lst ((runR (os.take i)).1.map T.str ++ [.str w])))[M]? = some (.lst ((w :: ws).map T.str)) := by rw [List.getElem?_set_ne (by omega)]; exact hM4
      refine ⟨fAppend, by rw [rcv_lst e25]; rfl, ?_⟩
      walk_at "TL go"
      refine w_ixDL hM5 (atI0 _ _) ?_
      walk_at "TL go"
      refine w_appL e25 (by simp; omega) ?_
      refine ⟨⟨_, _, rfl⟩, ?_, ?_, fun k o e => ?_⟩
      · rw [List.getElem?_set_ne (by omega), List.getElem?_set_self (List.getElem?_eq_some_iff.mp e14).1, es]
        simp
      · rw [List.getElem?_set_self (by rw [List.length_set]; exact (List.getElem?_eq_some_iff.mp e24).1), es]
        simp
      · have hk2 : k < h1.length := (List.getElem?_eq_some_iff.mp e).1
        rw [List.getElem?_set_ne (by omega), List.getElem?_set_ne (by omega)]
        exact k4 k o e
    · have hnil : (r.2.filter fun w => decide (w ∉ (runR (os.take i)).1)) = [] := by simpa using hc
      have hf : r.2.find? (fun w => decide (w ∉ (runR (os.take i)).1)) = none := by
        rw [← List.head?_filter, hnil]; rfl
      have es : runR (os.take (i + 1)) = runR (os.take i) := by
        rw [et, runR_snoc]; unfold stepR; rw [hf]
      walk_at "TL go"
      exact ⟨⟨_, _, rfl⟩, by rw [es]; exact e14, by rw [es]; exact e24, k4⟩
  · rintro σ hh ⟨⟨o5, o6, rfl⟩, e1, e2, kx⟩
    have lf : (((os.map Prod.fst).map T.str).map Yv.val).length = os.length := by simp
    rw [lf, List.take_length] at e2
    walk_at "TL go"
    refine w_sortPL e2 fun h3 M g3 _ hM => ?_
    walk_at "TL go"
    refine w_tupL hM ⟨rfl, ?_⟩
    exact (gr_of fun k o e => kx k o (g1.get e)).trans g3
end
end K39

namespace K39
open PySem PySem.Spec PyProof.Rows L2 TL
/-- what each person has, by the rows -/
structure Sh (rows : List (Str × List Str)) (cs : List (Option Str)) : Prop where
  len : cs.length = rows.length
  mem : ∀ (i : Nat) (r : Str × List Str) (w : Str), rows[i]? = some r → cs[i]? = some (some w) → w ∈ r.2
def shOf (rows : List (Str × List Str)) (cs : List (Option Str)) : List (Str × Str) := (rows.zip cs).filterMap fun p => p.2.map fun w => (p.1.1, w)
def shT (rows : List (Str × List Str)) (cs : List (Option Str)) : T := .tup ((shOf rows cs).map ofPair)
theorem zip_snoc {α β : Type} (l : List α) (m : List β) (a : α) (b : β) (h : l.length = m.length) : (l ++ [a]).zip (m ++ [b]) = l.zip m ++ [(a, b)] := by
  rw [List.zip_append h]; rfl
theorem shOf_snoc (rows : List (Str × List Str)) (cs : List (Option Str)) (r : Str × List Str) (c : Option Str) (h : rows.length = cs.length) : shOf (rows ++ [r]) (cs ++ [c]) = shOf rows cs ++ (c.map fun w => (r.1, w)).toList := by
  unfold shOf
  rw [zip_snoc _ _ _ _ h, List.filterMap_append]
  cases c <;> rfl
theorem shOf_len (rows : List (Str × List Str)) (cs : List (Option Str)) : (shOf rows cs).length ≤ rows.length := by
  unfold shOf
  refine Nat.le_trans (List.length_filterMap_le _ _) ?_
  rw [List.length_zip]; omega
theorem shOf_keys (rows : List (Str × List Str)) (cs : List (Option Str)) : ((shOf rows cs).map Prod.fst).Sublist (rows.map Prod.fst) := by
  unfold shOf
  induction rows generalizing cs with
  | nil => simp
  | cons r rows ih =>
    cases cs with
    | nil => simp
    | cons c cs =>
      rw [List.zip_cons_cons, List.filterMap_cons]
      cases c with
      | none => exact (ih cs).cons _
      | some w => exact (ih cs).cons₂ _
theorem shOf_mem {rows : List (Str × List Str)} {cs : List (Option Str)} {q : Str × Str} (h : q ∈ shOf rows cs) : ∃ (i : Nat) (r : Str × List Str), rows[i]? = some r ∧ cs[i]? = some (some q.2) ∧ r.1 = q.1 := by
  unfold shOf at h
  obtain ⟨p, hp, e⟩ := List.mem_filterMap.mp h
  obtain ⟨i, hi, ei⟩ := List.getElem_of_mem hp
  have e2 := List.getElem?_eq_getElem hi
  rw [ei] at e2
  rw [List.getElem?_zip_eq_some] at e2
  cases hc : p.2 with
  | none => rw [hc] at e; cases e
  | some w =>
    rw [hc] at e
    simp only [Option.map_some, Option.some.injEq] at e
    subst e
    exact ⟨i, p.1, e2.1, by rw [e2.2, hc], rfl⟩
theorem shOf_at {rows : List (Str × List Str)} {cs : List (Option Str)} {i : Nat} {r : Str × List Str} {w : Str} (h1 : rows[i]? = some r) (h2 : cs[i]? = some (some w)) : (r.1, w) ∈ shOf rows cs := by
  unfold shOf
  refine List.mem_filterMap.mpr ⟨(r, some w), ?_, rfl⟩
  exact List.mem_of_getElem? (i := i) (by rw [List.getElem?_zip_eq_some]; exact ⟨h1, h2⟩)
def sD (rows : List (Str × List Str)) (cs : List (Option Str)) : List (T × T) := dMrg [] ((shOf rows cs).map fun q => (Sum.inr q.1, T.str q.2))
theorem sD_keys (rows : List (Str × List Str)) (cs : List (Option Str)) : ((shOf rows cs).map fun q => ((Sum.inr q.1 : Key), T.str q.2)).map Prod.fst = ((shOf rows cs).map Prod.fst).map Sum.inr := by
  rw [List.map_map, List.map_map]; rfl
theorem sD_get {rows : List (Str × List Str)} {ns : List Str} {cs : List (Option Str)} (D : Dr rows ns) {i : Nat} {r : Str × List Str} {c : Option Str} (h1 : rows[i]? = some r) (h2 : cs[i]? = some c) : dAt (sD rows cs) (.inr r.1) = c.map T.str := by
  have nd : (((shOf rows cs).map fun q => ((Sum.inr q.1 : Key), T.str q.2)).map Prod.fst).Nodup := by
    rw [sD_keys]
    exact List.pairwise_map.mpr (((shOf_keys rows cs).nodup D.ndp).imp fun {a b} hab e => hab (Sum.inr.inj e))
  cases c with
  | some w => exact dMrg_get _ _ nd (List.mem_map.mpr ⟨(r.1, w), shOf_at h1 h2, rfl⟩)
  | none =>
    have : ¬ (dAt (sD rows cs) (.inr r.1)).isSome = true := by
      rw [sD, dMrg_is, sD_keys]
      simp only [dAt, Option.isSome_none, Bool.false_eq_true, false_or, List.mem_map]
      rintro ⟨p, ⟨q, hq, rfl⟩, e⟩
      obtain ⟨j, s, e1, e2, e3⟩ := shOf_mem hq
      have e4 : s.1 = r.1 := e3.trans (Sum.inr.inj e)
      have : j = i := nodup_at D.ndp (x := r.1) (by rw [List.getElem?_map, e1]; simp [e4]) (by rw [List.getElem?_map, h1]; rfl)
      subst this
      rw [h2] at e2; cases e2
    cases e : dAt (sD rows cs) (.inr r.1) with
    | none => rfl
    | some t => rw [e] at this; exact absurd rfl this
theorem kpairs_pairs : ∀ qs : List (Str × Str), kpairs (qs.map ofPair) = some (qs.map fun q => (Sum.inr q.1, T.str q.2))
  | [] => rfl
  | q :: qs => by
    show kpairs (.tup [.str q.1, .str q.2] :: qs.map ofPair) = _
    rw [kpairs, kpairs_pairs qs]
    rfl
section
variable {b d n : Nat} {h : TH} {rows : List (Str × List Str)} {ns : List Str} {cs cs2 : List (Option Str)} {Q : T → TH → Prop}
theorem w_dictSh (k : ∀ h' j, Gr h h' → h.length ≤ j → h'[j]? = some (.dic (sD rows cs)) → Q (.ref j) h') : W (fDictA [shT rows cs] h) Q :=
  ⟨_, _, by simp only [fDictA, shT, kpairs_pairs]; rfl, k _ _ (Gr.app h _) (Nat.le_refl _) (get_last h _)⟩
/-- {person: ware for person, ware in share} -/
theorem w_dcSh {σ : Sl} {i x y : Nat} (hxy : x ≠ y) (hσ : σ[i]? = some (some (shT rows cs))) (lx : x < σ.length) (ly : y < σ.length) (lr : rows.length ≤ 60) (k : ∀ h' j, Gr h h' → h.length ≤ j → h'[j]? = some (.dic (sD rows cs)) → Q (.ref j) h') :
    W (eDc (iSeq (eVar i)) (TL.gTup (gsCons (TL.gName x) (gsCons (TL.gName y) gsNil))) mYes (eVar x) (eVar y) [x, y] σ h) Q := by
  refine w_dcA (fun y => match y with
    | .val (.tup [.str p, .str q]) => (Sum.inr p, .str q)
    | _ => (Sum.inl 0, .non)) (w_seqT (w_var hσ ?_))
  unfold shT
  refine ⟨_, rfl, ((shOf rows cs).map ofPair).map Yv.val, by have := shOf_len rows cs; simp; omega, Gr.refl _, fun i h' _ => congrArg some (tupY i), ?_, ?_⟩
  · rintro z hz h' g'
    obtain ⟨u, hu, rfl⟩ := List.mem_map.mp hz
    obtain ⟨q, hq, rfl⟩ := List.mem_map.mp hu
    refine w_gTup (w_gsCons (w_gName (w_gsCons (w_gName (w_gsNil ?_)))))
    have lw : (wipeT σ [x, y]).length = σ.length := by simp [wipeT]
    refine w_var (x := .str q.1) ?_ (w_var (x := .str q.2) ?_ ⟨rfl, rfl, g'⟩)
    · rw [List.getElem?_set_ne (Ne.symm hxy), List.getElem?_set_self (by rw [lw]; exact lx)]
    · rw [List.getElem?_set_self (by rw [List.length_set, lw]; exact ly)]
  · intro h' j g' hj e
    refine k h' j g' hj ?_
    rw [e, List.map_map, List.map_map]
    rfl
theorem w_get1 {j : Nat} {kvs : List (T × T)} {p : Str} (e : h[j]? = some (.dic kvs)) (q : Q ((dAt kvs (.inr p)).getD .non) h) : W (fGet (.ref j) [.str p] h) Q := ⟨_, _, by simp only [fGet, dicOf, e]; rfl, q⟩
theorem get_dict {j : Nat} {kvs : List (T × T)} (e : h[j]? = some (.dic kvs)) : msGet (rcv (.ref j) h) = some fGet := by rw [rcv_dic e]; rfl
def opT : Option Str → T
  | none => .non
  | some w => .str w
theorem opT_get (c : Option Str) : (c.map T.str).getD .non = opT c := by cases c <;> rfl
/-- the place of what one has -/
def pl (l : List Str) : Option Str → Nat
  | none => l.length
  | some w => (idxS w l).getD 0
theorem idx_mem {w : Str} : ∀ {l : List Str}, w ∈ l → ∃ j, idxS w l = some j ∧ j < l.length
  | [], h => by cases h
  | y :: l, h => by
    unfold idxS
    by_cases e : y = w
    · exact ⟨0, by rw [if_pos e], by simp⟩
    · have hm : w ∈ l := by
        rcases List.mem_cons.mp h with z | z
        · exact absurd z.symm e
        · exact z
      obtain ⟨j, e1, e2⟩ := idx_mem hm
      exact ⟨j + 1, by rw [if_neg e, e1]; rfl, by simp; omega⟩
theorem idx_inj {w v : Str} {l : List Str} {j : Nat} (h1 : idxS w l = some j) (h2 : idxS v l = some j) : w = v := by
  have a := (idxS_ok h1).1
  rw [(idxS_ok h2).1] at a
  exact (Option.some.inj a).symm
theorem w_idx {l : List Str} {w : Str} {j : Nat} (e : idxS w l = some j) (q : Q (.int (j : Nat)) h) : W (fIndexT (.tup (l.map T.str)) [.str w] h) Q := ⟨_, _, by simp only [fIndexT, strsT_map, e], q⟩
theorem w_isB {x y : T} {k : Bool} (e : fIsB x y = some k) (q : Q (.bl k) h) : W (fIs x y h) Q := ⟨_, _, by unfold fIs; rw [e], q⟩
theorem w_isNotB {x y : T} {k : Bool} (e : fIsB x y = some k) (q : Q (.bl (!k)) h) : W (fIsNot x y h) Q := ⟨_, _, by unfold fIsNot; rw [e], q⟩
theorem ware_place_eq {l : List Str} {c : Option Str} (hc : ∀ w, c = some w → w ∈ l) : F_ware_place [.tup (l.map T.str), opT c] h = .ok (.int (pl l c : Nat)) h := by
  suffices hw : W (F_ware_place [.tup (l.map T.str), opT c] h) fun a h' => a = .int (pl l c : Nat) ∧ h' = h by
    obtain ⟨v, h', e, rfl, rfl⟩ := hw
    exact e
  refine w_run ?_
  unfold b_ware_place
  walk_at "TL go"
  cases c with
  | none =>
    refine w_isB (k := true) rfl ?_
    walk_at "TL go"
    refine ⟨fun _ => ?_, fun hf => by cases hf⟩
    walk_at "TL go"
    exact ⟨by simp [pl], rfl⟩
  | some w =>
    refine w_isB (k := false) rfl ?_
    walk_at "TL go"
    refine ⟨fun hf => (by cases hf), fun _ => ?_⟩
    obtain ⟨j, e1, e2⟩ := idx_mem (hc w rfl)
    walk_at "TL go"
    refine w_mth ?_
    walk_at "TL go"
    refine w_idx e1 ⟨?_, rfl⟩
    simp [pl, e1]
end
end K39

namespace K39
open PySem PySem.Spec PyProof.Rows L2 TL
section
variable {b d n : Nat} {h : TH} {rows : List (Str × List Str)} {ns : List Str} {cs cs2 : List (Option Str)} {Q : T → TH → Prop}
/-- who votes for the first -/
def better (l : List Str) (c c2 : Option Str) : Bool := decide (pl l c < pl l c2)
def cnt (rows : List (Str × List Str)) (cs cs2 : List (Option Str)) (i : Nat) : Nat := ((List.range i).filter fun j => match rows[j]?, cs[j]?, cs2[j]? with
  | some r, some c, some c2 => better r.2 c c2
  | _, _, _ => false).length
theorem cnt_succ {i : Nat} {r : Str × List Str} {c c2 : Option Str} (h1 : rows[i]? = some r) (h2 : cs[i]? = some c) (h3 : cs2[i]? = some c2) : cnt rows cs cs2 (i + 1) = cnt rows cs cs2 i + (if better r.2 c c2 = true then 1 else 0) := by
  unfold cnt
  rw [List.range_succ, List.filter_append, List.length_append]
  congr 1
  rw [List.filter_cons, List.filter_nil]
  simp only [h1, h2, h3]
  split <;> rfl
theorem get_of {α : Type} {l : List α} {i : Nat} (h : i < l.length) : ∃ a, l[i]? = some a := ⟨l[i], List.getElem?_eq_getElem h⟩
theorem votes_eq (D : Dr rows ns) (S : Sh rows cs) (S2 : Sh rows cs2) :
    ∃ h', Gr h h' ∧ F_votes [ofThings rows ns, shT rows cs, shT rows cs2] h = .ok (.tup [.int (cnt rows cs cs2 rows.length : Nat), .int (cnt rows cs2 cs rows.length : Nat)]) h' := by
  refine W.pu (w_run ?_)
  unfold b_votes
  have lr := D.lr
  refine ws_seq (ws_set (w_dcSh (rows := rows) (cs := cs) (by decide) rfl (by simp) (by simp) (by omega) fun h1 N g1 _ hN => ?_))
  refine ws_seq (ws_set (w_dcSh (rows := rows) (cs := cs2) (by decide) rfl (by simp) (by simp) (by omega) fun h2 M g2 _ hM => ?_))
  have hN2 := g2.get hN
  unfold ofThings
  walk_at "TL go"
  refine ws_for (w_seqT ?_)
  walk_at "TL go"
  refine ⟨(rows.map rowT).map Yv.val, fun i σ hh => (∃ o7 o8 o9 o10, σ = [some (.tup [.str "things", .tup (rows.map rowT), .tup (ns.map T.str)]), some (shT rows cs), some (shT rows cs2), some (.ref N), some (.ref M), some (.int (cnt rows cs cs2 i : Nat)), some (.int (cnt rows cs2 cs i : Nat)), o7, o8, o9, o10, none]) ∧ hh = h2, by simp; omega, ⟨⟨_, _, _, _, rfl⟩, rfl⟩, fun i σ h _ => congrArg some (tupY i), ?_, ?_⟩
  · rintro i y hy σ hh ⟨⟨o7, o8, o9, o10, rfl⟩, rfl⟩
    rw [List.getElem?_map, Option.map_eq_some_iff] at hy
    obtain ⟨u, hu, rfl⟩ := hy
    rw [List.getElem?_map, Option.map_eq_some_iff] at hu
    obtain ⟨r, hr, rfl⟩ := hu
    have hi : i < rows.length := (List.getElem?_eq_some_iff.mp hr).1
    obtain ⟨c, hc⟩ := get_of (l := cs) (i := i) (by rw [S.len]; exact hi)
    obtain ⟨c2, hc2⟩ := get_of (l := cs2) (i := i) (by rw [S2.len]; exact hi)
    have k1 := cnt_succ hr hc hc2
    have k2 := cnt_succ hr hc2 hc
    unfold rowT
    walk_at "TL go"
    refine w_mth ?_
    walk_at "TL go"
    refine ⟨fGet, get_dict hN2, ?_⟩
    walk_at "TL go"
    refine w_get1 hN2 ?_
    rw [sD_get D hr hc, opT_get]
    walk_at "TL go"
    refine W.eq (ware_place_eq (fun w e => S.mem i r w hr (by rw [hc, e]))) ?_
    walk_at "TL go"
    refine w_mth ?_
    walk_at "TL go"
    refine ⟨fGet, get_dict hM, ?_⟩
    walk_at "TL go"
    refine w_get1 hM ?_
    rw [sD_get D hr hc2, opT_get]
    walk_at "TL go"
    refine W.eq (ware_place_eq (fun w e => S2.mem i r w hr (by rw [hc2, e]))) ?_
    have cst : ∀ p q : Nat, decide ((p : Int) < (q : Int)) = decide (p < q) := fun p q => by
      by_cases z : p < q
      · have : (p : Int) < q := by omega
        simp [z]
      · have : ¬ (p : Int) < q := by omega
        simp [z]
    walk_at "TL go"
    rw [cst]
    refine ⟨fun e1 => ?_, fun e1 => ?_⟩
    · walk_at "TL go"
      rw [cst]
      refine ⟨fun e2 => ?_, fun e2 => ?_⟩
      · simp at e1 e2; omega
      · walk_at "TL go"
        refine ⟨⟨some (.str r.1), some (.tup (r.2.map T.str)), some (.int (pl r.2 c : Nat)), some (.int (pl r.2 c2 : Nat)), ?_⟩, rfl⟩
        have b1 : better r.2 c c2 = true := e1
        have b2 : better r.2 c2 c = false := e2
        rw [k1, k2, b1, b2]
        rfl
    · walk_at "TL go"
      rw [cst]
      refine ⟨fun e2 => ?_, fun e2 => ?_⟩
      · walk_at "TL go"
        refine ⟨⟨some (.str r.1), some (.tup (r.2.map T.str)), some (.int (pl r.2 c : Nat)), some (.int (pl r.2 c2 : Nat)), ?_⟩, rfl⟩
        have b1 : better r.2 c c2 = false := e1
        have b2 : better r.2 c2 c = true := e2
        rw [k1, k2, b1, b2]
        rfl
      · walk_at "TL go"
        refine ⟨⟨some (.str r.1), some (.tup (r.2.map T.str)), some (.int (pl r.2 c : Nat)), some (.int (pl r.2 c2 : Nat)), ?_⟩, rfl⟩
        have b1 : better r.2 c c2 = false := e1
        have b2 : better r.2 c2 c = false := e2
        rw [k1, k2, b1, b2]
        rfl
  · rintro σ hh ⟨⟨o7, o8, o9, o10, rfl⟩, rfl⟩
    rw [List.length_map, List.length_map]
    walk_at "TL go"
    exact ⟨rfl, g1.trans g2⟩
/-! ### the law's votes -/
def vt (l : List Str) (c c2 : Option Str) : Int := if c = c2 then 0 else if better l c c2 = true then 1 else -1
theorem vt_pos {l : List Str} {c c2 : Option Str} : decide (vt l c c2 > 0) = better l c c2 := by
  unfold vt
  by_cases e : c = c2
  · subst e; simp [better]
  · rw [if_neg e]
    cases better l c c2 <;> simp
theorem vt_neg {l : List Str} {c c2 : Option Str} (h1 : ∀ w, c = some w → w ∈ l) (h2 : ∀ w, c2 = some w → w ∈ l) : decide (vt l c c2 < 0) = better l c2 c := by
  unfold vt
  by_cases e : c = c2
  · subst e; simp [better]
  · rw [if_neg e]
    have ne : pl l c ≠ pl l c2 := by
      intro q
      cases c with
      | none => cases c2 with
        | none => exact e rfl
        | some w =>
          obtain ⟨j, e1, e2⟩ := idx_mem (h2 w rfl)
          simp [pl, e1] at q; omega
      | some v => cases c2 with
        | none =>
          obtain ⟨j, e1, e2⟩ := idx_mem (h1 v rfl)
          simp [pl, e1] at q; omega
        | some w =>
          obtain ⟨j, e1, e2⟩ := idx_mem (h1 v rfl)
          obtain ⟨j2, e3, e4⟩ := idx_mem (h2 w rfl)
          simp [pl, e1, e3] at q
          subst q
          exact e (by rw [idx_inj e1 e3])
    cases hb : better l c c2 with
    | true =>
      have : better l c2 c = false := by simp [better] at hb ⊢; omega
      simp [this]
    | false =>
      have : better l c2 c = true := by simp [better] at hb ⊢; omega
      simp [this]
theorem eq_opT {c c2 : Option Str} (o1 : ∀ w, c = some w → okS w) (o2 : ∀ w, c2 = some w → okS w) : fEqB (opT c) (opT c2) h = .ok (decide (c = c2)) h := by
  have sn : SeqAt.shaped .none = true := by decide
  cases c with
  | none => cases c2 with
    | none =>
      simp only [opT, fEqB, dat, sn, and_self, if_true]
      rfl
    | some w =>
      have s1 : SeqAt.shaped (.str w) = true := by
        unfold SeqAt.shaped
        rw [show PyData.canLay0 (.str w) = true from o2 w rfl]; rfl
      simp only [opT, fEqB, dat, sn, s1, and_self, if_true]
      rfl
  | some v => cases c2 with
    | none =>
      have s1 : SeqAt.shaped (.str v) = true := by
        unfold SeqAt.shaped
        rw [show PyData.canLay0 (.str v) = true from o1 v rfl]; rfl
      simp only [opT, fEqB, dat, sn, s1, and_self, if_true]
      rfl
    | some w =>
      show Res.ok (decide (v = w)) h = _
      congr 1
      simp
end
end K39

namespace K39
open PySem PySem.Spec PyProof.Rows L2 TL
section
variable {b d n : Nat} {h : TH} {rows : List (Str × List Str)} {ns : List Str} {cs cs2 : List (Option Str)} {Q : T → TH → Prop}
theorem law_vote_eq (D : Dr rows ns) {r : Str × List Str} (hr : r ∈ rows) {c c2 : Option Str} (h1 : ∀ w, c = some w → w ∈ r.2) (h2 : ∀ w, c2 = some w → w ∈ r.2) :
    ∃ h', Gr h h' ∧ F__law_vote [ofThings rows ns, .str r.1, opT c, opT c2] h = .ok (.int (vt r.2 c c2)) h' := by
  have ok : ∀ w, w ∈ r.2 → okS w := fun w hw => (D.okn w ((D.row r hr).sub w hw)).2
  refine W.pu (w_run ?_)
  unfold b__law_vote ofThings
  walk_at "TL go"
  refine w_eq (eq_opT (fun w e => ok w (h1 w e)) (fun w e => ok w (h2 w e))) ?_
  walk_at "TL go"
  refine ⟨fun e => ?_, fun e => ?_⟩
  · walk_at "TL go"
    have : c = c2 := by simpa using e
    exact ⟨by simp [vt, this], Gr.refl h⟩
  have ne : c ≠ c2 := by simpa using e
  walk_at "TL go"
  refine w_dictRows fun h3 N g1 _ hN => ?_
  walk_at "TL go"
  refine w_ixDD hN (k := .inr r.1) rfl (lstD_get D hr) ?_
  walk_at "TL go"
  cases c2 with
  | none =>
    refine w_isB (k := true) rfl ?_
    walk_at "TL go"
    refine ⟨fun _ => ?_, fun hf => (by cases hf)⟩
    refine ⟨fun _ => ?_, fun hf => (by cases hf)⟩
    walk_at "TL go"
    refine ⟨?_, g1⟩
    cases c with
    | none => exact absurd rfl ne
    | some v =>
      obtain ⟨j, e1, e2⟩ := idx_mem (h1 v rfl)
      simp [vt, better, pl, e1, e2]
  | some w =>
    refine w_isB (k := false) rfl ?_
    walk_at "TL go"
    refine ⟨fun hf => (by cases hf), fun _ => ?_⟩
    cases c with
    | none =>
      walk_at "TL go"
      refine w_isNotB (k := true) rfl ?_
      walk_at "TL go"
      refine ⟨fun _ => ⟨fun hf => (by cases hf), fun _ => ?_⟩, fun hf => (by cases hf)⟩
      walk_at "TL go"
      refine ⟨_, _, rfl, ?_⟩
      refine ⟨?_, g1⟩
      obtain ⟨j, e1, e2⟩ := idx_mem (h2 w rfl)
      have : ¬ r.2.length < j := by omega
      simp [vt, better, pl, e1, this]
    | some v =>
      obtain ⟨j, e1, e2⟩ := idx_mem (h1 v rfl)
      obtain ⟨j2, e3, e4⟩ := idx_mem (h2 w rfl)
      walk_at "TL go"
      refine w_isNotB (k := false) rfl ?_
      walk_at "TL go"
      refine ⟨fun hf => (by cases hf), fun _ => ?_⟩
      walk_at "TL go"
      refine w_mth ?_
      walk_at "TL go"
      refine w_idx e1 ?_
      walk_at "TL go"
      refine w_mth ?_
      walk_at "TL go"
      refine w_idx e3 ?_
      walk_at "TL go"
      have cst : decide ((j : Int) < (j2 : Int)) = decide (j < j2) := by
        by_cases z : j < j2
        · have : (j : Int) < j2 := by omega
          simp [z]
        · have : ¬ (j : Int) < j2 := by omega
          simp [z]
      rw [cst]
      have ev : vt r.2 (some v) (some w) = if decide (j < j2) = true then 1 else -1 := by
        unfold vt
        rw [if_neg ne]
        simp only [better, pl, e1, e3, Option.getD_some]
      rw [ev]
      refine ⟨fun hc => ?_, fun hc => ?_⟩
      · walk_at "TL go"
        exact ⟨by rw [hc]; rfl, g1⟩
      · walk_at "TL go"
        refine ⟨_, _, rfl, ?_⟩
        exact ⟨by rw [hc]; rfl, g1⟩
/-- the votes of all -/
def vts (rows : List (Str × List Str)) (cs cs2 : List (Option Str)) (i : Nat) : List Int := (List.range i).map fun j => match rows[j]?, cs[j]?, cs2[j]? with
  | some r, some c, some c2 => vt r.2 c c2
  | _, _, _ => 0
theorem vts_cnt (S : Sh rows cs) (S2 : Sh rows cs2) (i : Nat) (hi : i ≤ rows.length) : ((vts rows cs cs2 i).filter fun v => decide (v > 0)).length = cnt rows cs cs2 i ∧ ((vts rows cs cs2 i).filter fun v => decide (v < 0)).length = cnt rows cs2 cs i := by
  unfold vts cnt
  rw [List.filter_map, List.filter_map, List.length_map, List.length_map]
  constructor
  · congr 1
    refine List.filter_congr fun j hj => ?_
    have hj2 := List.mem_range.mp hj
    obtain ⟨r, hr⟩ := get_of (l := rows) (i := j) (by omega)
    obtain ⟨c, hc⟩ := get_of (l := cs) (i := j) (by rw [S.len]; omega)
    obtain ⟨c2, hc2⟩ := get_of (l := cs2) (i := j) (by rw [S2.len]; omega)
    simp only [Function.comp, hr, hc, hc2]
    exact vt_pos
  · congr 1
    refine List.filter_congr fun j hj => ?_
    have hj2 := List.mem_range.mp hj
    obtain ⟨r, hr⟩ := get_of (l := rows) (i := j) (by omega)
    obtain ⟨c, hc⟩ := get_of (l := cs) (i := j) (by rw [S.len]; omega)
    obtain ⟨c2, hc2⟩ := get_of (l := cs2) (i := j) (by rw [S2.len]; omega)
    simp only [Function.comp, hr, hc, hc2]
    exact vt_neg (fun w e => S.mem j r w hr (by rw [hc, e])) (fun w e => S2.mem j r w hr (by rw [hc2, e]))
theorem law_votes_eq (D : Dr rows ns) (S : Sh rows cs) (S2 : Sh rows cs2) :
    ∃ h', Gr h h' ∧ F__law_votes [ofThings rows ns, shT rows cs, shT rows cs2] h = .ok (.tup [.int (cnt rows cs cs2 rows.length : Nat), .int (cnt rows cs2 cs rows.length : Nat)]) h' := by
  refine W.pu (w_run ?_)
  unfold b__law_votes
  have lr := D.lr
  have eT : ofThings rows ns = .tup [.str "things", .tup (rows.map rowT), .tup (ns.map T.str)] := rfl
  walk_at "TL go"
  refine w_lc (w_seqT ?_)
  walk_at "TL go"
  rw [eT]
  walk_at "TL go"
  refine ⟨(rows.map rowT).map Yv.val, fun i acc hh => acc = (vts rows cs cs2 i).map T.int ∧ Gr h hh, by simp; omega, ⟨rfl, Gr.refl h⟩, fun i acc h _ => congrArg some (tupY i), ?_, ?_, ?_⟩
  · rintro i acc hh ⟨rfl, _⟩
    simp [vts]
  · rintro i y hy acc hh ⟨rfl, g⟩
    rw [List.getElem?_map, Option.map_eq_some_iff] at hy
    obtain ⟨u, hu, rfl⟩ := hy
    rw [List.getElem?_map, Option.map_eq_some_iff] at hu
    obtain ⟨r, hr, rfl⟩ := hu
    have hi : i < rows.length := (List.getElem?_eq_some_iff.mp hr).1
    obtain ⟨c, hc⟩ := get_of (l := cs) (i := i) (by rw [S.len]; exact hi)
    obtain ⟨c2, hc2⟩ := get_of (l := cs2) (i := i) (by rw [S2.len]; exact hi)
    unfold rowT
    walk_at "TL go"
    refine ⟨fun _ => ?_, fun hf => (by cases hf)⟩
    walk_at "TL go"
    refine w_mth ?_
    walk_at "TL go"
    refine w_dictSh fun h3 N g3 _ hN => ?_
    refine ⟨fGet, get_dict hN, ?_⟩
    walk_at "TL go"
    refine w_get1 hN ?_
    rw [sD_get D hr hc, opT_get]
    walk_at "TL go"
    refine w_mth ?_
    walk_at "TL go"
    refine w_dictSh fun h4 M g4 _ hM => ?_
    refine ⟨fGet, get_dict hM, ?_⟩
    walk_at "TL go"
    refine w_get1 hM ?_
    rw [sD_get D hr hc2, opT_get]
    walk_at "TL go"
    refine W.use (law_vote_eq D (List.mem_of_getElem? hr) (fun w e => S.mem i r w hr (by rw [hc, e])) (fun w e => S2.mem i r w hr (by rw [hc2, e]))) fun h5 g5 => ?_
    refine ⟨?_, ((g.trans g3).trans g4).trans g5⟩
    unfold vts
    rw [List.range_succ, List.map_append, List.map_append]
    simp only [List.map_cons, List.map_nil, hr, hc, hc2]
  · rintro acc hh ⟨rfl, g⟩
    rw [List.length_map, List.length_map]
    have lv : (vts rows cs cs2 rows.length).length = rows.length := by simp [vts]
    have hA := get_last hh (TO.lst ((vts rows cs cs2 rows.length).map T.int))
    have gA := g.trans (Gr.app hh [TO.lst ((vts rows cs cs2 rows.length).map T.int)])
    generalize hNN : hh.length = N at hA ⊢
    generalize hh ++ [TO.lst ((vts rows cs cs2 rows.length).map T.int)] = h2 at hA gA ⊢
    obtain ⟨q1, q2⟩ := vts_cnt S S2 rows.length (Nat.le_refl _)
    walk_at "TL go"
    refine w_lcA (fun y => match y with
      | .val (.int v) => decide (v > 0)
      | _ => false) (fun _ => .int 1) (w_seqL ?_)
    walk_at "TL go"
    refine ⟨N, (vts rows cs cs2 rows.length).map T.int, rfl, hA, ((vts rows cs cs2 rows.length).map T.int).map Yv.val, by simp; omega, Gr.refl _, fun i h' g' => lstJ_at (g'.get hA), ?_, ?_⟩
    · rintro y hy h' g'
      obtain ⟨u, hu, rfl⟩ := List.mem_map.mp hy
      obtain ⟨v, hv, rfl⟩ := List.mem_map.mp hu
      walk_at "TL go"
      exact ⟨rfl, fun _ => g', fun _ => by walk_at "TL go"; exact ⟨rfl, g'⟩⟩
    intro h3 K1 g3 _ hK1
    walk_at "TL go"
    refine w_lenL hK1 ?_
    walk_at "TL go"
    refine w_lcA (fun y => match y with
      | .val (.int v) => decide (v < 0)
      | _ => false) (fun _ => .int 1) (w_seqL ?_)
    walk_at "TL go"
    refine ⟨N, (vts rows cs cs2 rows.length).map T.int, rfl, g3.get hA, ((vts rows cs cs2 rows.length).map T.int).map Yv.val, by simp; omega, Gr.refl _, fun i h' g' => lstJ_at (g'.get (g3.get hA)), ?_, ?_⟩
    · rintro y hy h' g'
      obtain ⟨u, hu, rfl⟩ := List.mem_map.mp hy
      obtain ⟨v, hv, rfl⟩ := List.mem_map.mp hu
      walk_at "TL go"
      exact ⟨rfl, fun _ => g', fun _ => by walk_at "TL go"; exact ⟨rfl, g'⟩⟩
    intro h4 K2 g4 _ hK2
    walk_at "TL go"
    refine w_lenL hK2 ?_
    walk_at "TL go"
    refine ⟨?_, (gA.trans g3).trans g4⟩
    rw [List.length_map, List.length_map, List.filter_map, List.filter_map, List.filter_map, List.filter_map, List.length_map, List.length_map, List.length_map, List.length_map]
    have e1 : ((fun y => match y with
      | Yv.val (T.int v) => decide (v > 0)
      | _ => false) ∘ Yv.val) ∘ T.int = fun v => decide (v > 0) := rfl
    have e2 : ((fun y => match y with
      | Yv.val (T.int v) => decide (v < 0)
      | _ => false) ∘ Yv.val) ∘ T.int = fun v => decide (v < 0) := rfl
    rw [e1, e2, q1, q2]
end
end K39

namespace K39
open PySem PySem.Spec PyProof.Rows L2 TL
def inc (l : List Int) (j : Nat) : List Int := l.set j ((l[j]?).getD 0 + 1)
theorem inc_len (l : List Int) (j : Nat) : (inc l j).length = l.length := by simp [inc]
theorem incs_len : ∀ (js : List Nat) (l : List Int), (js.foldl inc l).length = l.length
  | [], _ => rfl
  | j :: js, l => by rw [List.foldl_cons, incs_len js, inc_len]
def jx (rows : List (Str × List Str)) (q : Str × Str) : Nat := match dAt (lstD rows) (.inr q.1) with
  | some (.tup l) => (match strsT l with
    | some ys => (idxS q.2 ys).getD 0
    | none => 0)
  | _ => 0
theorem jx_row {rows : List (Str × List Str)} {ns : List Str} (D : Dr rows ns) {r : Str × List Str} (hr : r ∈ rows) (w : Str) : jx rows (r.1, w) = (idxS w r.2).getD 0 := by
  unfold jx
  rw [lstD_get D hr]
  simp only [strsT_map]
def lens (rows : List (Str × List Str)) : List Int := rows.map fun r => ((r.2.length : Nat) : Int)
def lng (rows : List (Str × List Str)) : Int := (lens rows).foldl max 0
theorem lng_ok {rows : List (Str × List Str)} {ns : List Str} (D : Dr rows ns) : 0 ≤ lng rows ∧ lng rows ≤ 6 ∧ ∀ r ∈ rows, (r.2.length : Int) ≤ lng rows := by
  obtain ⟨m1, m2⟩ := foldl_max_mem (lens rows) 0
  refine ⟨m2 0 List.mem_cons_self, ?_, fun r hr => m2 _ (List.mem_cons_of_mem _ (List.mem_map.mpr ⟨r, hr, rfl⟩))⟩
  rcases List.mem_cons.mp m1 with e | hm
  · unfold lng; omega
  · obtain ⟨r, hr, e⟩ := List.mem_map.mp hm
    have := (D.row r hr).len
    unfold lng; omega
theorem maxI_lens (rows : List (Str × List Str)) : (match maxI (lens rows) with | some m => m | none => 0) = lng rows := by
  unfold lng lens
  cases rows with
  | nil => rfl
  | cons r rows =>
    rw [List.map_cons]
    show (rows.map fun r => ((r.2.length : Nat) : Int)).foldl max ((r.2.length : Nat) : Int) = _
    rw [List.foldl_cons]
    congr 1
def sig (rows : List (Str × List Str)) (cs : List (Option Str)) (i : Nat) : List Int := ((shOf (rows.take i) (cs.take i)).map (jx rows)).foldl inc (List.replicate (lng rows).toNat 0)
theorem intsOf_map : ∀ ns : List Int, intsOf (ns.map T.int) = some ns
  | [] => rfl
  | n :: ns => by simp [intsOf, intsOf_map ns]
section
variable {b d n : Nat} {h : TH} {rows : List (Str × List Str)} {ns : List Str} {cs cs2 : List (Option Str)} {Q : T → TH → Prop} {i j : Nat}
theorem w_getS {ts : List T} {x : T} (e : h[i]? = some (.lst ts)) (hx : ts[j]? = some x) (hj : j ≤ 1000000) (q : Q x h) : W (fGetS (.ref i) (.int (j : Int)) h) Q := by
  refine ⟨x, h, ?_, q⟩
  simp only [fGetS, e]
  rw [if_pos (by omega)]
  simp [hx]
theorem ixN_nat {n j : Nat} (hj : j < n) : ixN n (j : Int) = some j := by
  unfold ixN
  rw [if_pos (by omega), if_pos (by omega)]
  simp
theorem w_setDL {ts : List T} {x : T} {Qu : Unit → TH → Prop} (e : h[i]? = some (.lst ts)) (hj : j < ts.length) (q : Qu () (h.set i (.lst (ts.set j x)))) : W (fSetD (.ref i) (.int (j : Int)) x h) Qu :=
  ⟨_, _, by simp only [fSetD, e, fSetL, ixN_nat hj], q⟩
theorem w_mul0 {m : Int} (e : h[i]? = some (.lst [.int 0])) (h0 : 0 ≤ m) (h1 : m ≤ 1000000) (q : ∀ h' k, Gr h h' → h.length ≤ k → h'[k]? = some (.lst ((List.replicate m.toNat (0 : Int)).map T.int)) → Q (.ref k) h') : W (fMulL (.ref i) (.int m) h) Q := by
  have e2 : (List.replicate m.toNat [T.int 0]).flatten = (List.replicate m.toNat (0 : Int)).map T.int := by
    generalize m.toNat = k
    induction k with
    | zero => rfl
    | succ k ih => rw [List.replicate_succ, List.flatten_cons, ih, List.replicate_succ, List.map_cons]; rfl
  refine ⟨_, _, ?_, q _ _ (Gr.app h _) (Nat.le_refl _) (get_last h _)⟩
  simp only [fMulL, e]
  rw [if_pos ⟨by omega, by rw [sizeLine_eq]; simp; omega⟩, e2]
theorem w_maxD {as ks : ML} {σ : Sl} (w : W (as σ h) fun ts h1 => W (ks σ h1) fun zs h2 => W (fMaxD ts zs h2) Q) : W (eMaxD as ks σ h) Q := W.bind (w.imp fun _ _ w => W.bind w)
theorem w_maxDL {xs : List Int} {k : Int} (e : h[i]? = some (.lst (xs.map T.int))) (q : Q (.int (match maxI xs with | some m => m | none => k)) h) : W (fMaxD [.ref i] [.int k] h) Q := by
  refine ⟨_, h, ?_, q⟩
  simp only [fMaxD, lstArg, e, intsOf_map]
  cases maxI xs <;> rfl
theorem w_maxL {xs : List Int} {m : Int} (e : h[i]? = some (.lst (xs.map T.int))) (em : maxI xs = some m) (q : Q (.int m) h) : W (fMax [.ref i] h) Q := by
  refine ⟨_, h, ?_, q⟩
  simp only [fMax, lstArg, e, intsOf_map, em]
theorem longest_eq (D : Dr rows ns) : ∃ h', Gr h h' ∧ F__longest [ofThings rows ns] h = .ok (.int (lng rows)) h' := by
  refine W.pu (w_run ?_)
  unfold b__longest ofThings
  have lr := D.lr
  walk_at "TL go"
  refine w_maxD ?_
  walk_at "TL go"
  refine w_lcM (fun y => match y with
    | .val (.tup [_, .tup l]) => .int l.length
    | _ => .non) (w_seqT ?_)
  walk_at "TL go"
  refine ⟨(rows.map rowT).map Yv.val, by simp; omega, Gr.refl _, fun i h' _ => congrArg some (tupY i), ?_, ?_⟩
  · rintro y hy h' g'
    obtain ⟨u, hu, rfl⟩ := List.mem_map.mp hy
    obtain ⟨r, hr, rfl⟩ := List.mem_map.mp hu
    unfold rowT
    walk_at "TL go"
    exact ⟨rfl, g'⟩
  intro h1 N g1 _ e1
  have e1' : h1[N]? = some (.lst ((lens rows).map T.int)) := by
    rw [e1, lens, List.map_map, List.map_map, List.map_map]
    congr 2
    refine List.map_congr_left fun r _ => ?_
    simp [rowT]
  walk_at "TL go"
  refine w_maxDL e1' ⟨?_, g1⟩
  rw [maxI_lens]
/-- the index of what one has -/
theorem sh_idx (D : Dr rows ns) (S : Sh rows cs) {q : Str × Str} (hq : q ∈ shOf rows cs) : ∃ r ∈ rows, r.1 = q.1 ∧ idxS q.2 r.2 = some (jx rows q) ∧ jx rows q < (lng rows).toNat := by
  obtain ⟨i, r, e1, e2, e3⟩ := shOf_mem hq
  have hr := List.mem_of_getElem? e1
  obtain ⟨j, e4, e5⟩ := idx_mem (S.mem i r q.2 e1 e2)
  have ej : jx rows q = j := by
    have := jx_row D hr q.2
    rw [e3] at this
    rw [show q = (q.1, q.2) from rfl, this, e4]; rfl
  have l3 := (lng_ok D).2.2 r hr
  exact ⟨r, hr, e3, by rw [ej, e4], by rw [ej]; omega⟩
theorem signature_eq (D : Dr rows ns) (S : Sh rows cs) : ∃ h', Gr h h' ∧ F_signature [ofThings rows ns, shT rows cs] h = .ok (.tup ((sig rows cs rows.length).map T.int)) h' := by
  refine W.pu (w_run ?_)
  unfold b_signature
  have lr := D.lr
  obtain ⟨l0, l6, _⟩ := lng_ok D
  have eT : ofThings rows ns = .tup [.str "things", .tup (rows.map rowT), .tup (ns.map T.str)] := rfl
  walk_at "TL go"
  rw [eT]
  walk_at "TL go"
  refine lists_of_eq D fun h1 N g1 _ hN => ?_
  walk_at "TL go"
  rw [← eT]
  refine W.use (longest_eq D) fun h2 g2 => ?_
  have gA := Gr.app h1 [TO.lst [T.int 0]]
  refine w_mul0 (g2.get (get_last h1 _)) l0 (by omega) fun h3 M g3 hM0 hM => ?_
  have hN3 := g3.get (g2.get (gA.get hN))
  have lN : N < h1.length := (List.getElem?_eq_some_iff.mp hN).1
  have lM : h1.length + 1 ≤ h2.length := by have := (g2.gw 0).len; simp at this; omega
  walk_at "TL go"
  refine ws_for (w_seqT ?_)
  walk_at "TL go"
  refine ⟨((shOf rows cs).map ofPair).map Yv.val, fun i σ hh => (∃ o4 o5, σ = [some (ofThings rows ns), some (shT rows cs), some (.ref N), some (.ref M), o4, o5]) ∧ hh[M]? = some (.lst (((((shOf rows cs).take i).map (jx rows)).foldl inc (List.replicate (lng rows).toNat 0)).map T.int)) ∧ (∀ k o, h1[k]? = some o → hh[k]? = some o), by have := shOf_len rows cs; simp; omega, ⟨⟨_, _, rfl⟩, hM, fun k o e => g3.get (g2.get (gA.get e))⟩, fun i σ h _ => congrArg some (tupY i), ?_, ?_⟩
  · rintro i y hy σ hh ⟨⟨o4, o5, rfl⟩, e1, kx⟩
    rw [List.getElem?_map, Option.map_eq_some_iff] at hy
    obtain ⟨u, hu, rfl⟩ := hy
    rw [List.getElem?_map, Option.map_eq_some_iff] at hu
    obtain ⟨q, hq, rfl⟩ := hu
    obtain ⟨r, hr, er, ei, lj⟩ := sh_idx D S (List.mem_of_getElem? hq)
    have et : (shOf rows cs).take (i + 1) = (shOf rows cs).take i ++ [q] := by rw [List.take_add_one, hq]; rfl
    have ll := incs_len (((shOf rows cs).take i).map (jx rows)) (List.replicate (lng rows).toNat 0)
    rw [List.length_replicate] at ll
    generalize hl : (((shOf rows cs).take i).map (jx rows)).foldl inc (List.replicate (lng rows).toNat 0) = l at e1 ll
    have lj2 : jx rows q < l.length := by omega
    walk_at "TL go"
    refine w_mth ?_
    walk_at "TL go"
    refine w_ixDD (kx _ _ hN) (k := .inr q.1) rfl (by rw [← er]; exact lstD_get D hr) ?_
    walk_at "TL go"
    refine w_idx ei ?_
    refine w_getS (x := .int (l[jx rows q])) e1 (by simp [lj2]) (by omega) ?_
    walk_at "TL go"
    refine w_setDL e1 (by simpa using lj2) ?_
    refine ⟨⟨_, _, rfl⟩, ?_, fun k o e => ?_⟩
    · rw [List.getElem?_set_self (List.getElem?_eq_some_iff.mp e1).1, et, List.map_append, List.foldl_append, hl]
      congr 2
      show (l.map T.int).set (jx rows q) (T.int (l[jx rows q] + 1)) = (inc l (jx rows q)).map T.int
      unfold inc
      rw [List.map_set, List.getElem?_eq_getElem lj2]
      rfl
    · have hk : k < h1.length := (List.getElem?_eq_some_iff.mp e).1
      rw [List.getElem?_set_ne (by omega)]
      exact kx k o e
  · rintro σ hh ⟨⟨o4, o5, rfl⟩, e1, kx⟩
    have lf : (((shOf rows cs).map ofPair).map Yv.val).length = (shOf rows cs).length := by simp
    rw [lf, List.take_length] at e1
    walk_at "TL go"
    refine w_tupL e1 ⟨?_, gr_of fun k o e => kx k o (g1.get e)⟩
    unfold sig
    rw [List.take_length, List.take_of_length_le (by rw [S.len]; exact Nat.le_refl _)]
end
end K39

namespace K39
open PySem PySem.Spec PyProof.Rows L2 TL
section
variable {b d n : Nat} {h : TH} {rows : List (Str × List Str)} {ns : List Str} {cs cs2 : List (Option Str)} {Q : T → TH → Prop} {i j : Nat}
theorem law_signature_eq (D : Dr rows ns) (S : Sh rows cs) : ∃ h', Gr h h' ∧ F__law_signature [ofThings rows ns, shT rows cs] h = .ok (.tup ((sig rows cs rows.length).map T.int)) h' := by
  refine W.pu (w_run ?_)
  unfold b__law_signature
  have lr := D.lr
  obtain ⟨l0, l6, _⟩ := lng_ok D
  have eT : ofThings rows ns = .tup [.str "things", .tup (rows.map rowT), .tup (ns.map T.str)] := rfl
  walk_at "TL go"
  refine w_dictSh fun h1 N g1 _ hN => ?_
  walk_at "TL go"
  refine w_lcM (fun y => match y with
    | .val (.tup [_, .tup l]) => .int l.length
    | _ => .non) (w_seqT ?_)
  walk_at "TL go"
  rw [eT]
  walk_at "TL go"
  refine ⟨(rows.map rowT).map Yv.val, by simp; omega, Gr.refl _, fun i h' _ => congrArg some (tupY i), ?_, ?_⟩
  · rintro y hy h' g'
    obtain ⟨u, hu, rfl⟩ := List.mem_map.mp hy
    obtain ⟨r, hr, rfl⟩ := List.mem_map.mp hu
    unfold rowT
    walk_at "TL go"
    exact ⟨rfl, g'⟩
  intro h2 K1 g2 _ e2
  have e2' : h2[K1]? = some (.lst ((lens rows).map T.int)) := by
    rw [e2, lens, List.map_map, List.map_map, List.map_map]
    congr 2
    refine List.map_congr_left fun r _ => ?_
    simp [rowT]
  have gA := Gr.app h1 [TO.lst [T.int 0]]
  have gB := Gr.app (h1 ++ [TO.lst [T.int 0]]) [TO.lst [T.int 0]]
  have z2 := g2.get (get_last (h1 ++ [TO.lst [T.int 0]]) (TO.lst [T.int 0]))
  have z1 := g2.get (gB.get (get_last h1 (TO.lst [T.int 0])))
  refine w_addL z2 e2' (by simp [lens]; omega) ?_
  have gC := Gr.app h2 [TO.lst ([T.int 0] ++ (lens rows).map T.int)]
  walk_at "TL go"
  refine w_maxL (xs := 0 :: lens rows) (m := lng rows) (get_last h2 _) rfl ?_
  walk_at "TL go"
  refine w_mul0 (gC.get z1) l0 (by omega) fun h3 M g3 hM0 hM => ?_
  have gg := ((gA.trans gB).trans g2).trans (gC.trans g3)
  have lM : h1.length + 1 ≤ M := by
    have l1 := (((gA.trans gB).trans g2).trans gC).gw 0 |>.len
    have l2 := (((gB).trans g2).trans gC).gw 0 |>.len
    simp at l1 l2
    simp at hM0
    omega
  walk_at "TL go"
  refine ws_for (w_seqT ?_)
  walk_at "TL go"
  refine ⟨(rows.map rowT).map Yv.val, fun i σ hh => (∃ o4 o5, σ = [some (.tup [.str "things", .tup (rows.map rowT), .tup (ns.map T.str)]), some (shT rows cs), some (.ref N), some (.ref M), o4, o5]) ∧ hh[M]? = some (.lst ((sig rows cs i).map T.int)) ∧ (∀ k o, h1[k]? = some o → hh[k]? = some o), by simp; omega, ⟨⟨_, _, rfl⟩, hM, fun k o e => gg.get e⟩, fun i σ h _ => congrArg some (tupY i), ?_, ?_⟩
  · rintro i y hy σ hh ⟨⟨o4, o5, rfl⟩, e1, kx⟩
    rw [List.getElem?_map, Option.map_eq_some_iff] at hy
    obtain ⟨u, hu, rfl⟩ := hy
    rw [List.getElem?_map, Option.map_eq_some_iff] at hu
    obtain ⟨r, hr, rfl⟩ := hu
    have hi : i < rows.length := (List.getElem?_eq_some_iff.mp hr).1
    obtain ⟨c, hc⟩ := get_of (l := cs) (i := i) (by rw [S.len]; exact hi)
    have hm := List.mem_of_getElem? hr
    have eS : shOf (rows.take (i + 1)) (cs.take (i + 1)) = shOf (rows.take i) (cs.take i) ++ (c.map fun w => (r.1, w)).toList := by
      rw [List.take_add_one, List.take_add_one, hr, hc]
      exact shOf_snoc _ _ _ _ (by rw [List.length_take, List.length_take, S.len])
    have ll : (sig rows cs i).length = (lng rows).toNat := by unfold sig; rw [incs_len, List.length_replicate]
    have hN' := kx _ _ hN
    unfold rowT
    walk_at "TL go"
    refine w_inDD hN' (k := .inr r.1) rfl ?_
    rw [sD_get D hr hc]
    walk_at "TL go"
    cases c with
    | none =>
      refine ⟨fun hf => (by cases hf), fun _ => ?_⟩
      walk_at "TL go"
      refine ⟨⟨some (.str r.1), some (.tup (r.2.map T.str)), rfl⟩, ?_, kx⟩
      have : sig rows cs (i + 1) = sig rows cs i := by
        unfold sig
        rw [eS]
        simp
      rw [this]; exact e1
    | some w =>
      refine ⟨fun _ => ?_, fun hf => (by cases hf)⟩
      have hw := S.mem i r w hr hc
      obtain ⟨j, ej, lj⟩ := idx_mem hw
      have l3 := (lng_ok D).2.2 r hm
      have lj2 : j < (sig rows cs i).length := by omega
      have es : sig rows cs (i + 1) = inc (sig rows cs i) j := by
        unfold sig
        rw [eS, List.map_append, List.foldl_append]
        simp [jx_row D hm, ej]
      have dget : dAt (sD rows cs) (.inr r.1) = some (.str w) := sD_get D hr hc
      generalize hl : sig rows cs i = l at e1 lj2 es
      walk_at "TL go"
      refine w_mth ?_
      walk_at "TL go"
      refine w_ixDD hN' (k := .inr r.1) rfl dget ?_
      walk_at "TL go"
      refine w_idx ej ?_
      refine w_ixDL e1 (x := .int l[j]) (TL.atI_nat (by simp [lj2])) ?_
      walk_at "TL go"
      refine w_mth ?_
      walk_at "TL go"
      refine w_ixDD hN' (k := .inr r.1) rfl dget ?_
      walk_at "TL go"
      refine w_idx ej ?_
      refine w_setDL e1 (by simpa using lj2) ?_
      refine ⟨⟨some (.str r.1), some (.tup (r.2.map T.str)), rfl⟩, ?_, fun k o e => ?_⟩
      · rw [List.getElem?_set_self (List.getElem?_eq_some_iff.mp e1).1, es]
        congr 2
        unfold inc
        rw [List.map_set, List.getElem?_eq_getElem lj2]
        rfl
      · have hk : k < h1.length := (List.getElem?_eq_some_iff.mp e).1
        rw [List.getElem?_set_ne (by omega)]
        exact kx k o e
  · rintro σ hh ⟨⟨o4, o5, rfl⟩, e1, kx⟩
    have lf : ((rows.map rowT).map Yv.val).length = rows.length := by simp
    rw [lf] at e1
    walk_at "TL go"
    exact w_tupL e1 ⟨rfl, gr_of fun k o e => kx k o (g1.get e)⟩
/-! ### a drawn share-out -/
theorem w_pick {q : T} {ts : List T} (B : Bx h b d) (hq : ∀ h', Gw b h h' → itemsOf h' q = some ts) (hpos : 0 < ts.length) (k : ∀ t h', t ∈ ts → Bx h' b d → Gw b h h' → Q t h') : W (F__law_pick [.ref b, q] h) Q := by
  refine w_run ?_
  unfold b__law_pick
  walk_at "TL go"
  refine w_draw (by decide) B fun r h1 r0 r1 B1 G1 _ => ?_
  have e1 := hq h1 G1
  walk_at "TL go"
  refine W.eq (len_items e1) ?_
  refine w_modI (by omega) ?_
  have a0 : 0 ≤ r % (ts.length : Int) := Int.emod_nonneg _ (by omega)
  have a1 : r % (ts.length : Int) < ts.length := Int.emod_lt_of_pos _ (by omega)
  obtain ⟨i, hi⟩ : ∃ i : Nat, r % (ts.length : Int) = i := ⟨(r % (ts.length : Int)).toNat, by omega⟩
  rw [hi]
  have hil : i < ts.length := by omega
  exact W.eq (ix_items e1 (TL.atI_nat (x := ts[i]) (List.getElem?_eq_getElem hil))) (k _ _ (List.getElem_mem hil) B1 G1)
theorem share_eq (D : Dr rows ns) (B : Bx h b d) (k : ∀ cs h', Sh rows cs → Bx h' b d → Gw b h h' → Q (shT rows cs) h') : W (F__law_some_share [.ref b, ofThings rows ns] h) Q := by
  have hb := bx_lt B
  refine w_run ?_
  unfold b__law_some_share ofThings
  have lr := D.lr
  walk_at "TL go"
  refine ws_for (w_seqT ?_)
  walk_at "TL go"
  refine ⟨(rows.map rowT).map Yv.val, fun i σ hh => (∃ cs o3 o4 o5, σ = [some (.ref b), some (.tup [.str "things", .tup (rows.map rowT), .tup (ns.map T.str)]), some (shT (rows.take i) cs), o3, o4, o5, none, none] ∧ Sh (rows.take i) cs) ∧ Bx hh b d ∧ Gw b h hh, by simp; omega, ⟨⟨[], _, _, _, rfl, ⟨by simp, fun i r w e => by simp at e⟩⟩, B, Gw.refl b h⟩, fun i σ h _ => congrArg some (tupY i), ?_, ?_⟩
  · rintro i y hy σ hh ⟨⟨cs, o3, o4, o5, rfl, S⟩, B1, G1⟩
    rw [List.getElem?_map, Option.map_eq_some_iff] at hy
    obtain ⟨u, hu, rfl⟩ := hy
    rw [List.getElem?_map, Option.map_eq_some_iff] at hu
    obtain ⟨r, hr, rfl⟩ := hu
    have hi : i < rows.length := (List.getElem?_eq_some_iff.mp hr).1
    have hm := List.mem_of_getElem? hr
    have ls := shOf_len (rows.take i) cs
    rw [List.length_take] at ls
    have lc := S.len
    rw [List.length_take] at lc
    have okr : ∀ z ∈ r.2, okS z := fun z hz => (D.okn z ((D.row r hm).sub z hz)).2
    have okw : ∀ z ∈ (shOf (rows.take i) cs).map Prod.snd, okS z := fun z hz => by
      obtain ⟨q, hq, rfl⟩ := List.mem_map.mp hz
      obtain ⟨j, s, e1, e2, _⟩ := shOf_mem hq
      have hs := List.mem_of_mem_take (List.mem_of_getElem? e1)
      exact (D.okn _ ((D.row s hs).sub _ (S.mem j s _ e1 e2))).2
    have et : rows.take (i + 1) = rows.take i ++ [r] := by rw [List.take_add_one, hr]; rfl
    have grow : ∀ c : Option Str, (∀ w, c = some w → w ∈ r.2) → Sh (rows.take (i + 1)) (cs ++ [c]) := fun c hc => by
      refine ⟨by rw [et]; simp [S.len], fun j s w e1 e2 => ?_⟩
      rw [et] at e1
      by_cases hj : j < (rows.take i).length
      · rw [List.getElem?_append_left hj] at e1
        rw [List.getElem?_append_left (by rw [S.len]; exact hj)] at e2
        exact S.mem j s w e1 e2
      · have hj2 : j = (rows.take i).length := by
          have := (List.getElem?_eq_some_iff.mp e1).1
          simp at this hj ⊢; omega
        rw [hj2, List.getElem?_append_right (Nat.le_refl _)] at e1
        rw [hj2, ← S.len, List.getElem?_append_right (Nat.le_refl _)] at e2
        simp at e1 e2
        subst e1
        exact hc w e2
    have eqs : ∀ c : Option Str, shT (rows.take (i + 1)) (cs ++ [c]) = .tup ((shOf (rows.take i) cs ++ (c.map fun w => (r.1, w)).toList).map ofPair) := fun c => by
      unfold shT
      rw [et, shOf_snoc _ _ _ _ S.len.symm]
    unfold rowT
    walk_at "TL go"
    refine w_lcA (fun y => match y with
      | .val (.str w) => decide (w ∉ (shOf (rows.take i) cs).map Prod.snd)
      | _ => false) (fun y => match y with
      | .val u => u
      | _ => .non) (w_seqT ?_)
    walk_at "TL go"
    refine ⟨(r.2.map T.str).map Yv.val, by have := (D.row r hm).len; simp; omega, Gr.refl _, fun i h' _ => congrArg some (tupY i), ?_, ?_⟩
    · rintro y hy h' g'
      obtain ⟨u, hu, rfl⟩ := List.mem_map.mp hy
      obtain ⟨w, hw, rfl⟩ := List.mem_map.mp hu
      walk_at "TL go"
      refine w_lcM (fun y => match y with
        | .val (.tup [_, z]) => z
        | _ => .non) (w_seqT ?_)
      unfold shT
      walk_at "TL go"
      refine ⟨((shOf (rows.take i) cs).map ofPair).map Yv.val, by simp; omega, Gr.refl _, fun i h' _ => congrArg some (tupY i), ?_, ?_⟩
      · rintro y hy h' g'
        obtain ⟨u, hu, rfl⟩ := List.mem_map.mp hy
        obtain ⟨q, hq, rfl⟩ := List.mem_map.mp hu
        walk_at "TL go"
        exact ⟨rfl, g'⟩
      intro h3 N g3 _ hN
      have hN' : h3[N]? = some (.lst (((shOf (rows.take i) cs).map Prod.snd).map T.str)) := by
        rw [hN, List.map_map, List.map_map, List.map_map]; rfl
      refine w_notInI (items_lst hN') (okr w hw) okw ?_
      walk_at "TL go"
      exact ⟨by simp, fun _ => g'.trans g3, fun _ => by walk_at "TL go"; exact ⟨rfl, g'.trans g3⟩⟩
    intro h3 M g3 hM0 hM
    have efr : ((((r.2.map T.str).map Yv.val).filter fun y => match y with
      | .val (.str w) => decide (w ∉ (shOf (rows.take i) cs).map Prod.snd)
      | _ => false).map fun y => match y with
      | .val u => u
      | _ => T.non) = (r.2.filter fun w => decide (w ∉ (shOf (rows.take i) cs).map Prod.snd)).map T.str := by
      rw [List.map_map, List.filter_map, List.map_map]
      rfl
    rw [efr] at hM
    have lb : h.length ≤ hh.length := G1.len
    walk_at "TL go"
    refine w_neNil (app_get _ hM) (get_last _ _) (fun v hv => ?_) ?_
    · obtain ⟨z, hz, rfl⟩ := List.mem_map.mp hv
      exact dat_strs (okr z (List.mem_filter.mp hz).1)
    have g4 := g3.trans (Gr.app h3 [TO.lst []])
    have hM4 := app_get [TO.lst []] hM
    have B4 := g4.bx B1
    have G4 := G1.trans (g4.gw b)
    generalize h3 ++ [TO.lst []] = h4 at hM4 B4 G4 ⊢
    rw [lst_nil]
    walk_at "TL go"
    refine ⟨fun hc => ⟨fun hf => (by cases hf), fun _ => ?_⟩, fun hc => ?_⟩
    · walk_at "TL go"
      exact ⟨⟨cs ++ [none], some (.str r.1), some (.tup (r.2.map T.str)), some (.ref M), by rw [eqs none]; simp [shT, rowT], grow none (fun w e => (by cases e))⟩, B4, G4⟩
    have hne : (r.2.filter fun w => decide (w ∉ (shOf (rows.take i) cs).map Prod.snd)) ≠ [] := by simpa using hc
    walk_at "TL go"
    refine w_draw (by decide) B4 fun q h5 _ _ B5 G5 _ => ?_
    walk_at "TL go"
    have hM5 := G5.at_ _ _ (by omega) hM4
    refine ⟨fun _ => ?_, fun _ => ?_⟩
    · walk_at "TL go"
      refine w_pick (ts := (r.2.filter fun w => decide (w ∉ (shOf (rows.take i) cs).map Prod.snd)).map T.str) B5 (fun h' g => items_lst (g.at_ _ _ (by omega) hM5)) (by rw [List.length_map]; exact List.length_pos_iff.mpr hne) fun t h6 ht B6 G6 => ?_
      obtain ⟨w, hw, rfl⟩ := List.mem_map.mp ht
      have hwr := (List.mem_filter.mp hw).1
      unfold shT
      walk_at "TL go"
      refine w_addT (by simp; omega) ?_
      refine ⟨⟨cs ++ [some w], some (.str r.1), some (.tup (r.2.map T.str)), some (.ref M), by have q := eqs (some w); unfold shT at q; rw [q]; simp [rowT], grow (some w) (fun v e => by cases e; exact hwr)⟩, B6, (G4.trans G5).trans G6⟩
    · walk_at "TL go"
      exact ⟨⟨cs ++ [none], some (.str r.1), some (.tup (r.2.map T.str)), some (.ref M), by rw [eqs none]; simp [shT, rowT], grow none (fun w e => (by cases e))⟩, B5, G4.trans G5⟩
  · rintro σ hh ⟨⟨cs, o3, o4, o5, rfl, S⟩, B1, G1⟩
    have lf : ((rows.map rowT).map Yv.val).length = rows.length := by simp
    rw [lf, List.take_length] at S ⊢
    walk_at "TL go"
    exact k cs hh S B1 G1
end
end K39

namespace K39
open PySem PySem.Spec PyProof.Rows L2 TL
/-- trees of texts and whole numbers -/
def Pt : Nat → T → Prop
  | 0, _ => False
  | n + 1, t => match t with
    | .str x => x.length ≤ 100 ∧ okS x
    | .int _ => True
    | .tup ts => ts.length ≤ 100 ∧ ∀ t ∈ ts, Pt n t
    | _ => False
theorem like_refl : ∀ (n m : Nat) (t : T) (h : TH), Pt n t → n ≤ m → ∃ h', Gr h h' ∧ recF b__law_like 1 m [t, t] h = .ok (.bl true) h'
  | 0, _, _, _, x, _ => x.elim
  | n + 1, 0, _, _, _, hm => absurd hm (by omega)
  | n + 1, m + 1, t, h, x, hm => by
    cases t with
    | str z =>
      obtain ⟨r, e⟩ := like_str (b := 0) (L := 0) (h := h) (m := 1) (t := .str z) m x z
      refine ⟨_, Gr.app h r, e.trans ?_⟩
      simp [eqS]
    | int i =>
      refine W.pu (F := recF b__law_like 1 (m + 1)) (w_run ?_)
      unfold b__law_like
      walk_at "TL go"
      refine ⟨fun hf => (by cases hf), fun _ => ?_⟩
      walk_at "TL go"
      refine w_isB (k := false) rfl ?_
      walk_at "TL go"
      refine ⟨fun hf => (by cases hf), fun _ => ?_⟩
      walk_at "TL go"
      refine w_isB (k := false) rfl ?_
      walk_at "TL go"
      refine ⟨fun hf => (by cases hf), fun _ => ?_⟩
      walk_at "TL go"
      refine w_isB (k := false) rfl ?_
      walk_at "TL go"
      refine ⟨fun hf => (by cases hf), fun _ => ?_⟩
      walk_at "TL go"
      refine ⟨fun hf => (by cases hf), fun _ => ?_⟩
      walk_at "TL go"
      refine ⟨fun hf => (by cases hf), fun _ => ?_⟩
      walk_at "TL go"
      refine ⟨fun hf => (by cases hf), fun _ => ?_⟩
      walk_at "TL go"
      exact ⟨by simp, Gr.refl h⟩
    | tup ts =>
      obtain ⟨hl, xs⟩ := x
      refine W.pu (F := recF b__law_like 1 (m + 1)) (w_run ?_)
      unfold b__law_like
      walk_at "TL go"
      refine ⟨fun _ => ?_, fun hf => (by cases hf)⟩
      walk_at "TL go"
      refine ⟨fun hf => (by cases hf), fun _ => ?_⟩
      walk_at "TL go"
      refine ⟨fun hf => (by simp at hf), fun _ => ?_⟩
      walk_at "TL go"
      refine w_eqA (fun _ => false) (fun _ => .non) (w_rng1 (n := ts.length) ?_)
      walk_at "TL go"
      refine ⟨rfl, by omega, rngY 0 ts.length, by rw [rngY_len]; omega, Gr.refl _, fun i h' _ => rng_fix i h', fun _ _ hf => (by cases hf), ?_, ?_⟩
      · rintro y hy h' g'
        obtain ⟨i, hi, ei⟩ := List.getElem_of_mem hy
        obtain ⟨q1, rfl⟩ := rngY_at (by rw [List.getElem?_eq_getElem hi, ei])
        have ea : atI ts (0 + (i : Int)) = some ts[i] := atI_at (k := i) (List.getElem?_eq_getElem q1) (by omega)
        walk_at "TL go"
        refine w_ixT ea ?_
        walk_at "TL go"
        refine w_ixT ea ?_
        walk_at "TL go"
        refine W.use (like_refl n m ts[i] h' (xs _ (List.getElem_mem q1)) (by omega)) fun h2 g2 => ?_
        walk_at "TL go"
        exact ⟨rfl, fun _ => g'.trans g2, fun hf => (by cases hf)⟩
      · intro h2 g2
        refine ⟨?_, g2⟩
        simp
    | _ => exact x.elim
theorem like_true {t : T} {n : Nat} {h : TH} (x : Pt n t) (hn : n ≤ 40) : ∃ h', Gr h h' ∧ F__law_like [t, t] h = .ok (.bl true) h' := like_refl n 40 t h x hn
theorem like_bool (k : Bool) (h : TH) : F__law_like [.bl k, .bl k] h = .ok (.bl true) h := by
  have e : F__law_like [.bl k, .bl k] h = .ok (.bl (k == k)) h := like_bl 39 k k h
  rw [e]; simp
theorem pt_pairs {qs : List (Str × Str)} (hl : qs.length ≤ 100) (ok : ∀ q ∈ qs, okN q.1 ∧ okN q.2) : Pt 3 (.tup (qs.map ofPair)) := by
  refine ⟨by simpa using hl, fun t ht => ?_⟩
  obtain ⟨q, hq, rfl⟩ := List.mem_map.mp ht
  refine ⟨by simp, fun t ht => ?_⟩
  simp only [List.mem_cons, List.not_mem_nil, or_false] at ht
  rcases ht with rfl | rfl
  · exact (ok q hq).1
  · exact (ok q hq).2
theorem pt_ints {l : List Int} (hl : l.length ≤ 100) : Pt 2 (.tup (l.map T.int)) := by
  refine ⟨by simpa using hl, fun t ht => ?_⟩
  obtain ⟨q, hq, rfl⟩ := List.mem_map.mp ht
  trivial
theorem run_pairs {rows : List (Str × List Str)} {ns : List Str} (D : Dr rows ns) {os : List (Str × List Str)} (hos : ∀ r ∈ os, r ∈ rows) : ∀ q ∈ (runR os).2, okN q.1 ∧ okN q.2 := by
  unfold runR
  have key : ∀ (l : List (Str × List Str)) (s : List Str × List (Str × Str)), (∀ r ∈ l, r ∈ rows) → (∀ q ∈ s.2, okN q.1 ∧ okN q.2) → ∀ q ∈ (l.foldl stepR s).2, okN q.1 ∧ okN q.2 := by
    intro l
    induction l with
    | nil => intro s _ hs; exact hs
    | cons r l ih =>
      intro s hl hs
      refine ih _ (fun r' hr' => hl r' (List.mem_cons_of_mem _ hr')) fun q hq => ?_
      unfold stepR at hq
      split at hq
      · exact hs q hq
      · rename_i v e
        rcases List.mem_append.mp hq with z | z
        · exact hs q z
        · rw [List.mem_singleton.mp z]
          have hr := hl r List.mem_cons_self
          exact ⟨D.okp r hr, D.okn v ((D.row r hr).sub v (List.mem_of_find?_eq_some e))⟩
  exact key os _ hos (fun q hq => by cases hq)
theorem share_ts {rows : List (Str × List Str)} {ns : List Str} {cs : List (Option Str)} (D : Dr rows ns) (S : Sh rows cs) : Ts 45 5 (shT rows cs) := by
  have l1 := shOf_len rows cs
  have l2 := D.lr
  refine ⟨by rw [List.length_map]; omega, fun t ht => ?_⟩
  obtain ⟨q, hq, rfl⟩ := List.mem_map.mp ht
  obtain ⟨i, r, e1, e2, e3⟩ := shOf_mem hq
  have hr := List.mem_of_getElem? e1
  refine ⟨by simp, fun t ht => ?_⟩
  simp only [List.mem_cons, List.not_mem_nil, or_false] at ht
  rcases ht with rfl | rfl
  · rw [← e3]; exact D.okp r hr
  · exact D.okn _ ((D.row r hr).sub _ (S.mem i r _ e1 e2))
section
variable {Q : T → TH → Prop} {h : TH} {b d : Nat}
theorem w_changed {t : T} (x : Ts 45 5 t) (B : Bx h b d) (k : ∀ t' h', Gd b 46 h' 6 t' → Bx h' b d → Gw b h h' → Q t' h') : W (F__law_changed [.ref b, t] h) Q := by
  obtain ⟨t', h', e, g, B', G⟩ := changed_eq (L := 45) (by omega) 5 t h 40 x (by omega) (by omega) B
  exact W.eq e (k t' h' g B' G)
end
theorem law_sem : Sem := by
  intro scr _
  obtain ⟨ds, e1, hd, _⟩ := digits_eq scr []
  have e1' : F__law_digits [.scr scr, .int 0, .int 63] [] = .ok (.ref 0) [.lst (ds.map T.int)] := e1
  have B0 : Bx [TO.lst (ds.map T.int), .lst [.ref 0, .int 0]] 1 0 := ⟨0, ds, rfl, by omega, rfl, hd, by omega⟩
  suffices hw : W (F_law [.scr scr] []) fun a _ => a = .bl true by
    obtain ⟨v, h', e, rfl⟩ := hw
    exact ⟨h', e⟩
  refine w_run ?_
  unfold b_law
  walk_at "TL go"
  refine W.eq e1' ?_
  walk_at "TL go"
  refine ws_for (w_rng1 (n := 3) ?_)
  walk_at "TL go"
  refine ⟨rfl, by omega, rngY 0 3, fun i σ hh => (∃ o2 o3 o4 o5 o6 o7 o8 o9 o10, σ = [some (.scr scr), some (.ref 1), o2, o3, o4, o5, o6, o7, o8, o9, o10]) ∧ Bx hh 1 0, by rw [rngY_len]; omega, ⟨⟨_, _, _, _, _, _, _, _, _, rfl⟩, B0⟩, fun i σ hh _ => rng_fix i hh, ?_, ?_⟩
  · rintro i y hy σ hh ⟨⟨o2, o3, o4, o5, o6, o7, o8, o9, o10, rfl⟩, B⟩
    obtain ⟨hi, rfl⟩ := rngY_at hy
    walk_at "TL go"
    refine w_draw (by decide) B fun m h1 m0 m1 B1 _ _ => ?_
    walk_at "TL go"
    refine w_draw (by decide) B1 fun o h2 p0 p1 B2 _ _ => ?_
    walk_at "TL go"
    obtain ⟨mm, rfl⟩ : ∃ k : Nat, m = k := ⟨m.toNat, by omega⟩
    obtain ⟨oo, rfl⟩ : ∃ k : Nat, o = k := ⟨o.toNat, by omega⟩
    refine things_eq (by omega) (by omega) B2 fun rows ns h3 D B3 _ => ?_
    walk_at "TL go"
    -- the things
    refine ws_for (w_rng1 (n := 4) ?_)
    walk_at "TL go"
    refine ⟨rfl, by omega, rngY 0 4, fun j σ hh => (∃ o4 o5, σ = [some (.scr scr), some (.ref 1), some (.int (0 + (i : Nat))), some (ofThings rows ns), o4, o5, o6, o7, o8, o9, o10]) ∧ Bx hh 1 0, by rw [rngY_len]; omega, ⟨⟨_, _, rfl⟩, B3⟩, fun i σ hh _ => rng_fix i hh, ?_, ?_⟩
    · rintro j y hy σ hh ⟨⟨o4, o5, rfl⟩, B⟩
      obtain ⟨hj, rfl⟩ := rngY_at hy
      have step : ∀ t' h4, Gd 1 46 h4 6 t' → Bx h4 1 0 → WS (sIf (mNot (mB (eCallF 2 F__law_like (aCons (eCallF 1 F_is_things (aCons (eVar 5) (aNil))) (aCons (eCallF 1 F__law_things_right (aCons (eVar 5) (aNil))) (aNil)))))) (sRet (eC (.bl false))) (sNil) [some (.scr scr), some (.ref 1), some (.int (0 + (i : Nat))), some (ofThings rows ns), some (.int (0 + (j : Nat))), some t', o6, o7, o8, o9, o10] h4) (fun σ hh => (∃ o4 o5, σ = [some (.scr scr), some (.ref 1), some (.int (0 + (i : Nat))), some (ofThings rows ns), o4, o5, o6, o7, o8, o9, o10]) ∧ Bx hh 1 0) (fun a _ => a = .bl true) (fun _ _ => False) (fun _ _ => False) := by
        intro t' h4 g4 B4
        walk_at "TL go"
        refine W.use (is_things_eq g4 (by omega) (by omega)) fun h5 g5 => ?_
        walk_at "TL go"
        refine W.use (things_right_eq (g4.mono (Nat.le_refl _) (g5.gw 1) (Nat.le_refl _)) (by omega) (by omega)) fun h6 g6 => ?_
        walk_at "TL go"
        refine W.eq (like_bool _ _) ?_
        walk_at "TL go"
        refine ⟨fun hf => (by cases hf), fun _ => ?_⟩
        walk_at "TL go"
        exact ⟨⟨_, _, rfl⟩, (g5.trans g6).bx B4⟩
      walk_at "TL go"
      refine ⟨fun _ => ?_, fun _ => ?_⟩
      · walk_at "TL go"
        refine w_changed (things_ts D) B fun t' h4 g4 B4 _ => ?_
        exact ws_imp (step t' h4 g4 B4) (fun _ _ x => x) (fun _ _ x => x) (fun _ _ x => x.elim) (fun _ _ x => x.elim)
      · refine w_var (x := ofThings rows ns) rfl ?_
        exact ws_imp (step _ hh ((Ts.gd (things_ts D)).mono (by omega) (Gw.refl 1 hh) (by omega)) B) (fun _ _ x => x) (fun _ _ x => x) (fun _ _ x => x.elim) (fun _ _ x => x.elim)
    rintro σ h4 ⟨⟨o4, o5, rfl⟩, B4⟩
    -- share-outs
    walk_at "TL go"
    refine share_eq D B4 fun cs h5 S B5 _ => ?_
    walk_at "TL go"
    refine share_eq D B5 fun cs2 h6 S2 B6 _ => ?_
    walk_at "TL go"
    refine ws_for (w_rng1 (n := 3) ?_)
    walk_at "TL go"
    refine ⟨rfl, by omega, rngY 0 3, fun j σ hh => (∃ o4 o5, σ = [some (.scr scr), some (.ref 1), some (.int (0 + (i : Nat))), some (ofThings rows ns), o4, o5, some (shT rows cs), some (shT rows cs2), o8, o9, o10]) ∧ Bx hh 1 0, by rw [rngY_len]; omega, ⟨⟨_, _, rfl⟩, B6⟩, fun i σ hh _ => rng_fix i hh, ?_, ?_⟩
    · rintro j y hy σ hh ⟨⟨o4, o5, rfl⟩, B⟩
      obtain ⟨hj, rfl⟩ := rngY_at hy
      have step : ∀ t' h4, Gd 1 46 h4 6 t' → Bx h4 1 0 → WS (sIf (mNot (mB (eCallF 2 F__law_like (aCons (eCallF 2 F_is_share (aCons (eVar 3) (aCons (eVar 5) (aNil)))) (aCons (eCallF 2 F__law_share_right (aCons (eVar 3) (aCons (eVar 5) (aNil)))) (aNil)))))) (sRet (eC (.bl false))) (sNil) [some (.scr scr), some (.ref 1), some (.int (0 + (i : Nat))), some (ofThings rows ns), some (.int (0 + (j : Nat))), some t', some (shT rows cs), some (shT rows cs2), o8, o9, o10] h4) (fun σ hh => (∃ o4 o5, σ = [some (.scr scr), some (.ref 1), some (.int (0 + (i : Nat))), some (ofThings rows ns), o4, o5, some (shT rows cs), some (shT rows cs2), o8, o9, o10]) ∧ Bx hh 1 0) (fun a _ => a = .bl true) (fun _ _ => False) (fun _ _ => False) := by
        intro t' h4 g4 B4
        walk_at "TL go"
        refine W.use (is_share_eq D g4 (by omega)) fun h5 g5 => ?_
        walk_at "TL go"
        refine W.use (share_right_eq D (g4.mono (Nat.le_refl _) (g5.gw 1) (Nat.le_refl _)) (by omega)) fun h6 g6 => ?_
        walk_at "TL go"
        refine W.eq (like_bool _ _) ?_
        walk_at "TL go"
        refine ⟨fun hf => (by cases hf), fun _ => ?_⟩
        walk_at "TL go"
        exact ⟨⟨_, _, rfl⟩, (g5.trans g6).bx B4⟩
      walk_at "TL go"
      refine ⟨fun _ => ?_, fun _ => ?_⟩
      · walk_at "TL go"
        refine w_changed (share_ts D S) B fun t' h4 g4 B4 _ => ?_
        exact ws_imp (step t' h4 g4 B4) (fun _ _ x => x) (fun _ _ x => x) (fun _ _ x => x.elim) (fun _ _ x => x.elim)
      · refine w_var (x := shT rows cs) rfl ?_
        exact ws_imp (step _ hh ((Ts.gd (share_ts D S)).mono (by omega) (Gw.refl 1 hh) (by omega)) B) (fun _ _ x => x) (fun _ _ x => x) (fun _ _ x => x.elim) (fun _ _ x => x.elim)
    rintro σ h7 ⟨⟨o4, o5, rfl⟩, B7⟩
    -- an order
    have eT : ofThings rows ns = .tup [.str "things", .tup (rows.map rowT), .tup (ns.map T.str)] := rfl
    have lr := D.lr
    walk_at "TL go"
    refine w_lcM (fun y => match y with
      | .val (.tup [z, _]) => z
      | _ => .non) (w_seqT ?_)
    walk_at "TL go"
    rw [eT]
    walk_at "TL go"
    rw [← eT]
    refine ⟨(rows.map rowT).map Yv.val, by simp; omega, Gr.refl _, fun i h' _ => congrArg some (tupY i), ?_, ?_⟩
    · rintro y hy h' g'
      obtain ⟨u, hu, rfl⟩ := List.mem_map.mp hy
      obtain ⟨r, hr, rfl⟩ := List.mem_map.mp hu
      unfold rowT
      walk_at "TL go"
      exact ⟨rfl, g'⟩
    intro h8 N g8 _ hN
    have hN' : h8[N]? = some (.lst ((rows.map Prod.fst).map T.str)) := by
      rw [hN, List.map_map, List.map_map, List.map_map]; rfl
    walk_at "TL go"
    refine shuffled_eq (g8.bx B7) (items_lst hN') (by simp; omega) (fun x hx => by
      obtain ⟨r, hr, rfl⟩ := List.mem_map.mp hx
      exact (D.okp r hr).2) fun ys h9 hp B9 _ => ?_
    obtain ⟨os, rfl, po⟩ := perm_map Prod.fst hp rows rfl
    have hos : ∀ r ∈ os, r ∈ rows := fun r hr => po.mem_iff.mp hr
    have lo : os.length ≤ 6 := by have := po.length_eq; omega
    walk_at "TL go"
    refine W.use (in_row_eq D hos lo) fun ha ga => ?_
    walk_at "TL go"
    refine W.use (law_in_row_eq D hos lo) fun hb gb => ?_
    walk_at "TL go"
    refine W.use (like_true (pt_pairs (by have := (runR_len os).2; rw [List.length_mergeSort]; omega) fun q hq => run_pairs D hos q ((List.mergeSort_perm _ _).mem_iff.mp hq)) (by omega)) fun hc gc => ?_
    walk_at "TL go"
    refine ⟨fun hf => (by cases hf), fun _ => ?_⟩
    walk_at "TL go"
    refine W.use (votes_eq D S S2) fun hd' gd' => ?_
    walk_at "TL go"
    refine W.use (law_votes_eq D S S2) fun he ge => ?_
    walk_at "TL go"
    refine W.use (like_true (n := 2) (pt_ints (l := [(cnt rows cs cs2 rows.length : Nat), (cnt rows cs2 cs rows.length : Nat)]) (by simp)) (by omega)) fun hf gf => ?_
    walk_at "TL go"
    refine ⟨fun hf => (by cases hf), fun _ => ?_⟩
    walk_at "TL go"
    refine W.use (signature_eq D S) fun hg gg => ?_
    walk_at "TL go"
    refine W.use (law_signature_eq D S) fun hk gk => ?_
    walk_at "TL go"
    refine W.use (like_true (pt_ints (by
      obtain ⟨_, l6, _⟩ := lng_ok D
      unfold sig
      rw [incs_len, List.length_replicate]; omega)) (by omega)) fun hl gl => ?_
    walk_at "TL go"
    refine ⟨fun hf => (by cases hf), fun _ => ?_⟩
    walk_at "TL go"
    exact ⟨⟨_, _, _, _, _, _, _, _, _, rfl⟩, ((((((((ga.trans gb).trans gc).trans gd').trans ge).trans gf).trans gg).trans gk).trans gl).bx B9⟩
  · rintro σ hh ⟨⟨o2, o3, o4, o5, o6, o7, o8, o9, o10, rfl⟩, B⟩
    walk_at "TL go"
    rfl
theorem sealed : PySem.Challenge.rw_pairlands_k39_thi_things.Holds := holds law_sem
end K39

theorem PySem.Challenge.cw_pairlands_k39_thi_things_holds : PySem.Challenge.rw_pairlands_k39_thi_things.Holds := by
  exact K39.sealed
