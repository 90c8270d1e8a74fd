import PyProof.Rows.All
import Wide.All
import OpenK.AllK
import Wide.FinOn
import HandS.ForMost
import HandS.ForExc
import HandS.Defaults
import HandS.Wide
import HandS.TupAny
import HandS.ExcField
import HandS.ExcInit
import HandS.TryMany
import HandS.TryOnly
import HandS.RaiseMore
import HandS.Flow
import HandS.IsInst
import HandS.CallSlots
import HandS.Text
import HandS.HeadEnd
import HandS.HeadHook2
import HandS.Head2
import PySem.Challenge.RW_carrykeys_k02_schemas_refused
set_option Elab.async false
set_option linter.all false
set_option maxRecDepth 100000
set_option maxHeartbeats 1000000
/-! Ev1: plain values, plain states, worlds; what an evaluation means over the abstract heap. My own layer over the hand layer. -/
namespace Ev
open PySem PySem.Spec PyProof.Rows L2
open Classical
abbrev St := L2.St

/-- a name of the text, sign by sign -/
def enc (s : String) : Str := ⟨(s.toList.map Char.toNat).toArray⟩
theorem enc_inj {s t : String} (h : enc s = enc t) : s = t := by
  have h1 : (s.toList.map Char.toNat).toArray = (t.toList.map Char.toNat).toArray := congrArg Str.cps h
  have h2 : s.toList.map Char.toNat = t.toList.map Char.toNat := by simpa using h1
  have h3 : s.toList = t.toList := by
    refine (List.map_inj_right ?_).mp h2
    intro a b e
    exact Char.toNat_inj.mp e
  exact String.toList_inj.mp h3
/-- plain data: tuples and frozen lists are values -/
inductive D where
  | non | bl (b : Bool) | int (i : Int) | str (x : Str) | tup (l : List D) | lst (l : List D) | scr (l : List D) | obj (i : Nat) | ty (n : String) | cl (a : Addr)
/-- an object with a place: an instance, a dict -/
inductive Ob where
  | ins (c : String) (fs : List (String × D)) | dic (kvs : List (Key × D))
/-- P: instances and dicts; B: lists that a frame may change (true), or that are frozen (false) -/
structure Sta where
  P : List Ob
  B : List (Bool × List D)
/-- a value in the hand: data, a list just made, a list that has a box -/
inductive Vl where
  | d (x : D) | new (l : List D) | box (i : Nat)
abbrev Sl := List (Option Vl)
/-- how an evaluation ends: an exception has the name of its class and its fields -/
inductive Out (α : Type) where
  | ok (a : α) (s : Sta) | exc (c : String) (fs : Option (List (String × D))) (s : Sta) | bad
inductive SOut where
  | nxt (σ : Sl) (s : Sta) | ret (v : Vl) (s : Sta) | brk (σ : Sl) (s : Sta) | cnt (σ : Sl) (s : Sta) | exc (c : String) (fs : Option (List (String × D))) (σ : Sl) (s : Sta) | bad
abbrev EV := Sl → Sta → Out Vl
abbrev EVs := Sl → Sta → Out (List Vl)
abbrev SV := Sl → Sta → SOut
def Out.bind {α β : Type} (o : Out α) (f : α → Sta → Out β) : Out β := match o with
  | .ok a s => f a s
  | .exc c fs s => .exc c fs s
  | .bad => .bad
@[simp] theorem Out.bind_ok {α β : Type} (a : α) (s : Sta) (f : α → Sta → Out β) : (Out.ok a s).bind f = f a s := rfl
@[simp] theorem Out.bind_exc {α β : Type} (c : String) (fs) (s : Sta) (f : α → Sta → Out β) : (Out.exc c fs s).bind f = .exc c fs s := rfl
@[simp] theorem Out.bind_bad {α β : Type} (f : α → Sta → Out β) : (Out.bad : Out α).bind f = .bad := rfl

/-- the world: frozen lists and tuples by their address, the places of boxes and objects, lists in the making -/
structure Wd where
  fz : Addr → Option HO
  bx : List Addr
  ob : List Addr
  an : List (Addr × List V)
structure Wd.Le (a b : Wd) : Prop where
  fz : ∀ p o, a.fz p = some o → b.fz p = some o
  bx : a.bx <+: b.bx
  ob : a.ob <+: b.ob
  an : b.an = a.an
theorem Wd.Le.refl (a : Wd) : a.Le a := ⟨fun _ _ h => h, List.prefix_refl _, List.prefix_refl _, rfl⟩
theorem Wd.Le.trans {a b c : Wd} (h : a.Le b) (k : b.Le c) : a.Le c := ⟨fun p o e => k.fz p o (h.fz p o e), h.bx.trans k.bx, h.ob.trans k.ob, k.an.trans h.an⟩

theorem pre_get {α : Type} {l m : List α} (h : l <+: m) {i : Nat} {x : α} (e : l[i]? = some x) : m[i]? = some x := by
  obtain ⟨t, rfl⟩ := h
  rw [List.getElem?_append_left (List.getElem?_eq_some_iff.mp e).1]; exact e

section
variable (K : PySem.W.Frag)
/-- a tuple, a frozen list of the world, or an object of the text's own top -/
def TupAt (wd : Wd) (a : Addr) (vs : List V) : Prop := wd.fz a = some (.tup vs) ∨ ∃ (o : Obj) (its : Array Value) (n : Nat), K.lookup a = some o ∧ o.cls = .type "tuple" ∧ o.data = .seq its n ∧ its.size ≤ sizeLine ∧ Vals vs its.toList
def LstAt (wd : Wd) (a : Addr) (vs : List V) : Prop := wd.fz a = some (.lst vs)
/-- a list that is read alone: known to the object (the script), or of the top -/
def ScrAt (wd : Wd) (a : Addr) (vs : List V) : Prop := (∃ o, wd.fz a = some (.frz o (.lst vs))) ∨ ∃ (o : Obj) (its : Array Value) (n : Nat), K.lookup a = some o ∧ o.cls = .type "list" ∧ o.dict = none ∧ o.data = .seq its n ∧ its.size ≤ sizeLine ∧ Vals vs its.toList
mutual
def RD (wd : Wd) : D → V → Prop
  | .non, v => v = .non
  | .bl b, v => v = .bl b
  | .int i, v => v = .int i
  | .str x, v => v = .str x ∧ PyData.strOk x = true
  | .tup l, v => ∃ a vs, v = .ref a ∧ TupAt K wd a vs ∧ RDs wd l vs
  | .lst l, v => ∃ a vs, v = .ref a ∧ LstAt wd a vs ∧ RDs wd l vs
  | .scr l, v => ∃ a vs, v = .ref a ∧ ScrAt K wd a vs ∧ RDs wd l vs
  | .obj i, v => ∃ a, v = .ref a ∧ wd.ob[i]? = some a
  | .ty n, v => v = .ty n
  | .cl a, v => v = .ref a
def RDs (wd : Wd) : List D → List V → Prop
  | [], vs => vs = []
  | x :: r, vs => ∃ v vr, vs = v :: vr ∧ RD wd x v ∧ RDs wd r vr
end
theorem TupAt.mono {wd wd' : Wd} {a vs} (h : TupAt K wd a vs) (l : wd.Le wd') : TupAt K wd' a vs := h.imp (l.fz _ _) id
theorem LstAt.mono {wd wd' : Wd} {a vs} (h : LstAt wd a vs) (l : wd.Le wd') : LstAt wd' a vs := l.fz _ _ h
theorem ScrAt.mono {wd wd' : Wd} {a vs} (h : ScrAt K wd a vs) (l : wd.Le wd') : ScrAt K wd' a vs := h.imp (fun ⟨o, e⟩ => ⟨o, l.fz _ _ e⟩) id
mutual
theorem RD.mono {wd wd' : Wd} (l : wd.Le wd') : ∀ (x : D) (v : V), RD K wd x v → RD K wd' x v
  | .non, v, h => by simpa [RD] using h
  | .bl b, v, h => by simpa [RD] using h
  | .int i, v, h => by simpa [RD] using h
  | .str x, v, h => by simpa [RD] using h
  | .tup xs, v, h => by
    simp only [RD] at h ⊢
    obtain ⟨a, vs, e, t, r⟩ := h
    exact ⟨a, vs, e, t.mono K l, RDs.mono l xs vs r⟩
  | .lst xs, v, h => by
    simp only [RD] at h ⊢
    obtain ⟨a, vs, e, t, r⟩ := h
    exact ⟨a, vs, e, t.mono l, RDs.mono l xs vs r⟩
  | .scr xs, v, h => by
    simp only [RD] at h ⊢
    obtain ⟨a, vs, e, t, r⟩ := h
    exact ⟨a, vs, e, t.mono K l, RDs.mono l xs vs r⟩
  | .obj i, v, h => by
    simp only [RD] at h ⊢
    obtain ⟨a, e, t⟩ := h
    exact ⟨a, e, pre_get l.ob t⟩
  | .ty n, v, h => by simpa [RD] using h
  | .cl a, v, h => by simpa [RD] using h
theorem RDs.mono {wd wd' : Wd} (l : wd.Le wd') : ∀ (xs : List D) (vs : List V), RDs K wd xs vs → RDs K wd' xs vs
  | [], vs, h => by simpa [RDs] using h
  | x :: r, vs, h => by
    simp only [RDs] at h ⊢
    obtain ⟨v, vr, e, h1, h2⟩ := h
    exact ⟨v, vr, e, RD.mono l x v h1, RDs.mono l r vr h2⟩
end
end
section
variable {K : PySem.W.Frag} {wd wd' : Wd}
theorem RDs.length : ∀ {xs : List D} {vs : List V}, RDs K wd xs vs → xs.length = vs.length
  | [], vs, h => by simp only [RDs] at h; subst h; rfl
  | x :: r, vs, h => by
    simp only [RDs] at h
    obtain ⟨v, vr, rfl, _, h2⟩ := h
    simp [RDs.length h2]
theorem RDs.get : ∀ {xs : List D} {vs : List V} {i : Nat} {v : V}, RDs K wd xs vs → vs[i]? = some v → ∃ x, xs[i]? = some x ∧ RD K wd x v
  | [], vs, i, v, h, e => by simp only [RDs] at h; rw [h] at e; simp at e
  | x :: r, vs, i, v, h, e => by
    simp only [RDs] at h
    obtain ⟨v', vr, rfl, h1, h2⟩ := h
    cases i with
    | zero => simp at e; subst e; exact ⟨x, rfl, h1⟩
    | succ i => simpa using RDs.get (i := i) h2 (by simpa using e)
theorem RDs.get' : ∀ {xs : List D} {vs : List V} {i : Nat} {x : D}, RDs K wd xs vs → xs[i]? = some x → ∃ v, vs[i]? = some v ∧ RD K wd x v
  | [], vs, i, x, h, e => by simp at e
  | x' :: r, vs, i, x, h, e => by
    simp only [RDs] at h
    obtain ⟨v', vr, rfl, h1, h2⟩ := h
    cases i with
    | zero => simp at e; subst e; exact ⟨v', rfl, h1⟩
    | succ i => simpa using RDs.get' (i := i) h2 (by simpa using e)
theorem RDs.append : ∀ {xs ys : List D} {vs us : List V}, RDs K wd xs vs → RDs K wd ys us → RDs K wd (xs ++ ys) (vs ++ us)
  | [], _, _, _, h, k => by simp only [RDs] at h; subst h; simpa using k
  | x :: r, _, _, _, h, k => by
    simp only [RDs] at h
    obtain ⟨v', vr, rfl, h1, h2⟩ := h
    simp only [List.cons_append, RDs]
    exact ⟨v', _, rfl, h1, RDs.append h2 k⟩
theorem RDs.one {x : D} {v : V} (h : RD K wd x v) : RDs K wd [x] [v] := by simp only [RDs]; exact ⟨v, [], rfl, h, rfl⟩
theorem RDs.set : ∀ {xs : List D} {vs : List V} {x : D} {v : V} (i : Nat), RDs K wd xs vs → RD K wd x v → RDs K wd (xs.set i x) (vs.set i v)
  | [], vs, x, v, i, h, k => by simp only [RDs] at h; subst h; simp [RDs]
  | x' :: r, vs, x, v, i, h, k => by
    simp only [RDs] at h
    obtain ⟨v', vr, rfl, h1, h2⟩ := h
    cases i with
    | zero => simp only [List.set_cons_zero, RDs]; exact ⟨v, vr, rfl, k, h2⟩
    | succ i => simp only [List.set_cons_succ, RDs]; exact ⟨v', _, rfl, h1, RDs.set i h2 k⟩
theorem RDs.take : ∀ {xs : List D} {vs : List V} (n : Nat), RDs K wd xs vs → RDs K wd (xs.take n) (vs.take n)
  | _, _, 0, _ => by simp [RDs]
  | [], vs, n + 1, h => by simp only [RDs] at h; subst h; simp [RDs]
  | x :: r, vs, n + 1, h => by
    simp only [RDs] at h
    obtain ⟨v', vr, rfl, h1, h2⟩ := h
    simp only [List.take_succ_cons, RDs]; exact ⟨v', _, rfl, h1, RDs.take n h2⟩
theorem RDs.drop : ∀ {xs : List D} {vs : List V} (n : Nat), RDs K wd xs vs → RDs K wd (xs.drop n) (vs.drop n)
  | _, _, 0, h => by simpa using h
  | [], vs, n + 1, h => by simp only [RDs] at h; subst h; simp [RDs]
  | x :: r, vs, n + 1, h => by
    simp only [RDs] at h
    obtain ⟨v', vr, rfl, h1, h2⟩ := h
    simp only [List.drop_succ_cons]; exact RDs.drop n h2
end

section
variable (K : PySem.W.Frag) (cls : String → Addr)
def RFs (wd : Wd) : List (String × D) → List (Str × V) → Prop
  | [], vs => vs = []
  | x :: r, vs => ∃ v vr, vs = v :: vr ∧ v.1 = enc x.1 ∧ RD K wd x.2 v.2 ∧ RFs wd r vr
def RKs (wd : Wd) : List (Key × D) → List (Key × V) → Prop
  | [], vs => vs = []
  | x :: r, vs => ∃ v vr, vs = v :: vr ∧ v.1 = x.1 ∧ RD K wd x.2 v.2 ∧ RKs wd r vr
def ObAt (wd : Wd) (H : Hp) (a : Addr) : Ob → Prop
  | .ins c fs => ∃ dx vfs, H a = some (.ins (cls c) dx vfs) ∧ RFs K wd fs vfs
  | .dic kvs => ∃ vkvs, H a = some (.dK vkvs) ∧ RKs K wd kvs vkvs
/-- what the world keeps for ever: tuples and lists -/
def isFz : HO → Bool
  | .lst _ => true
  | .tup _ => true
  | .frz _ _ => true
  | _ => false
/-- the abstract heap bears the plain state -/
structure HR (wd : Wd) (S : Sta) (H : Hp) : Prop where
  fz : ∀ a o, wd.fz a = some o → H a = some o
  bn : S.B.length = wd.bx.length
  live : ∀ (i : Nat) (l : List D), S.B[i]? = some (true, l) → ∃ a vs, wd.bx[i]? = some a ∧ H a = some (.lst vs) ∧ wd.fz a = none ∧ RDs K wd l vs
  froz : ∀ (i : Nat) (l : List D), S.B[i]? = some (false, l) → ∃ a vs, wd.bx[i]? = some a ∧ wd.fz a = some (.lst vs) ∧ RDs K wd l vs
  bnd : wd.bx.Nodup
  on : S.P.length = wd.ob.length
  ond : wd.ob.Nodup
  ob : ∀ (i : Nat) (o : Ob), S.P[i]? = some o → ∃ a, wd.ob[i]? = some a ∧ ObAt K cls wd H a o
  an : ∀ p ∈ wd.an, H p.1 = some (.lst p.2) ∧ wd.fz p.1 = none ∧ p.1 ∉ wd.bx
  annd : (wd.an.map (·.1)).Nodup
  nfz : ∀ a o, wd.fz a = some o → isFz o = true
/-- a value in the hand -/
def RV (wd : Wd) (H : Hp) : Vl → V → Prop
  | .d x, v => RD K wd x v
  | .box i, v => ∃ a, v = .ref a ∧ wd.bx[i]? = some a
  | .new l, v => ∃ a vs, v = .ref a ∧ H a = some (.lst vs) ∧ wd.fz a = none ∧ a ∉ wd.bx ∧ a ∉ wd.an.map (·.1) ∧ RDs K wd l vs
/-- a value at rest -/
def RW (wd : Wd) : Vl → V → Prop
  | .d x, v => RD K wd x v
  | .box i, v => ∃ a, v = .ref a ∧ wd.bx[i]? = some a
  | .new _, _ => False
def SR (wd : Wd) (σ' : Sl) (σ : L2.St) : Prop := ∀ (i : Nat) v, σ'[i]? = some (some v) → ∃ x, σ[i]? = some (some x) ∧ RW K wd v x
/-- an exception that leaves: its class, its own dict -/
def XR (wd : Wd) (H : Hp) (c : String) (fs : Option (List (String × D))) (cv : Value) (d : Option Addr) : Prop := cv = .ref (cls c) ∧ match fs with
  | none => d = none
  | some fs => ∃ a vfs, d = some a ∧ H a = some (.xd vfs) ∧ ∀ f x, fs.lookup f = some x → ∃ v, vfs.lookup (enc f) = some v ∧ RD K wd x v
end
section
variable {K : PySem.W.Frag} {cls : String → Addr} {wd wd' : Wd} {H : Hp}
theorem RW.mono {v x} (h : RW K wd v x) (l : wd.Le wd') : RW K wd' v x := by
  cases v with
  | d y => exact RD.mono K l y x h
  | box i => obtain ⟨a, e, h⟩ := h; exact ⟨a, e, pre_get l.bx h⟩
  | new l => exact h.elim
theorem SR.mono {σ' σ} (h : SR K wd σ' σ) (l : wd.Le wd') : SR K wd' σ' σ := fun i v e => let ⟨x, a, b⟩ := h i v e; ⟨x, a, b.mono l⟩
theorem RW.rv {v x} (h : RW K wd v x) : RV K wd H v x := by
  cases v with
  | d y => exact h
  | box i => exact h
  | new l => exact h.elim
theorem RFs.mono (l : wd.Le wd') : ∀ {fs vs}, RFs K wd fs vs → RFs K wd' fs vs
  | [], _, h => h
  | _ :: _, _, ⟨v, vr, e, e1, h1, h2⟩ => ⟨v, vr, e, e1, RD.mono K l _ _ h1, RFs.mono l h2⟩
theorem RKs.mono (l : wd.Le wd') : ∀ {fs vs}, RKs K wd fs vs → RKs K wd' fs vs
  | [], _, h => h
  | _ :: _, _, ⟨v, vr, e, e1, h1, h2⟩ => ⟨v, vr, e, e1, RD.mono K l _ _ h1, RKs.mono l h2⟩
theorem ObAt.mono (l : wd.Le wd') {a o} (h : ObAt K cls wd H a o) : ObAt K cls wd' H a o := by
  cases o with
  | ins c fs => obtain ⟨dx, vfs, e, r⟩ := h; exact ⟨dx, vfs, e, r.mono l⟩
  | dic kvs => obtain ⟨vk, e, r⟩ := h; exact ⟨vk, e, r.mono l⟩
mutual
theorem RD.same {wd wd' : Wd} (hf : wd'.fz = wd.fz) (ho : wd'.ob = wd.ob) : ∀ (x : D) (v : V), RD K wd x v → RD K wd' x v
  | .non, v, h => by simpa [RD] using h
  | .bl b, v, h => by simpa [RD] using h
  | .int i, v, h => by simpa [RD] using h
  | .str x, v, h => by simpa [RD] using h
  | .tup xs, v, h => by
    simp only [RD] at h ⊢
    obtain ⟨a, vs, e, t, r⟩ := h
    exact ⟨a, vs, e, by unfold TupAt at t ⊢; rw [hf]; exact t, RDs.same hf ho xs vs r⟩
  | .lst xs, v, h => by
    simp only [RD] at h ⊢
    obtain ⟨a, vs, e, t, r⟩ := h
    exact ⟨a, vs, e, by unfold LstAt at t ⊢; rw [hf]; exact t, RDs.same hf ho xs vs r⟩
  | .scr xs, v, h => by
    simp only [RD] at h ⊢
    obtain ⟨a, vs, e, t, r⟩ := h
    exact ⟨a, vs, e, by unfold ScrAt at t ⊢; rw [hf]; exact t, RDs.same hf ho xs vs r⟩
  | .obj i, v, h => by
    simp only [RD] at h ⊢
    rw [ho]; exact h
  | .ty n, v, h => by simpa [RD] using h
  | .cl n, v, h => by simpa [RD] using h
theorem RDs.same {wd wd' : Wd} (hf : wd'.fz = wd.fz) (ho : wd'.ob = wd.ob) : ∀ (xs : List D) (vs : List V), RDs K wd xs vs → RDs K wd' xs vs
  | [], vs, h => by simpa [RDs] using h
  | x :: r, vs, h => by
    simp only [RDs] at h ⊢
    obtain ⟨v, vr, e, h1, h2⟩ := h
    exact ⟨v, vr, e, RD.same hf ho x v h1, RDs.same hf ho r vr h2⟩
end
theorem RFs.same {wd wd' : Wd} (hf : wd'.fz = wd.fz) (ho : wd'.ob = wd.ob) : ∀ {fs vs}, RFs K wd fs vs → RFs K wd' fs vs
  | [], _, h => h
  | _ :: _, _, ⟨v, vr, e, e1, h1, h2⟩ => ⟨v, vr, e, e1, RD.same hf ho _ _ h1, RFs.same hf ho h2⟩
theorem RKs.same {wd wd' : Wd} (hf : wd'.fz = wd.fz) (ho : wd'.ob = wd.ob) : ∀ {fs vs}, RKs K wd fs vs → RKs K wd' fs vs
  | [], _, h => h
  | _ :: _, _, ⟨v, vr, e, e1, h1, h2⟩ => ⟨v, vr, e, e1, RD.same hf ho _ _ h1, RKs.same hf ho h2⟩
theorem ObAt.same {wd wd' : Wd} {H a o} (hf : wd'.fz = wd.fz) (ho : wd'.ob = wd.ob) (h : ObAt K cls wd H a o) : ObAt K cls wd' H a o := by
  cases o with
  | ins c fs => obtain ⟨dx, vfs, e, r⟩ := h; exact ⟨dx, vfs, e, r.same hf ho⟩
  | dic kvs => obtain ⟨vk, e, r⟩ := h; exact ⟨vk, e, r.same hf ho⟩

theorem TupAt.sq (h : HR K cls wd S H) {a vs} (t : TupAt K wd a vs) : SqT K H a vs := by
  rcases t with t | t
  · exact .inl (.inl (h.fz a _ t))
  · exact .inr t
theorem LstAt.sq (h : HR K cls wd S H) {a vs} (t : LstAt wd a vs) : SqL K H a vs := .inl (.inl (h.fz a _ t))
theorem ScrAt.sq (h : HR K cls wd S H) {a vs} (t : ScrAt K wd a vs) : SqL K H a vs := by
  rcases t with ⟨o, t⟩ | t
  · exact .inl (.inr ⟨o, h.fz a _ t⟩)
  · exact .inr t
end

/-! ### what a run asks of the wish -/
section
variable (K : PySem.W.Frag) (cls : String → Addr)
def OkE (W : WX) (σ : L2.St) (wd : Wd) (Q : VK) : Out Vl → Prop
  | .ok v S1 => ∀ wd1 x H1, wd.Le wd1 → HR K cls wd1 S1 H1 → RV K wd1 H1 v x → Q x H1
  | .exc c fs S1 => ∀ wd1 H1 cv d, wd.Le wd1 → HR K cls wd1 S1 H1 → XR K cls wd1 H1 c fs cv d → W cv d σ H1
  | .bad => False
/-- the reading of an expression, from its run -/
def LE (W : WX) (T : EV) : TE := fun σ H Q => ∃ wd σ' S, SR K wd σ' σ ∧ HR K cls wd S H ∧ OkE K cls W σ wd Q (T σ' S)
def OkT (W : WX) (σ : L2.St) (wd : Wd) (Q : Bool → Hp → Prop) : Out Bool → Prop
  | .ok b S1 => ∀ wd1 H1, wd.Le wd1 → HR K cls wd1 S1 H1 → Q b H1
  | .exc c fs S1 => ∀ wd1 H1 cv d, wd.Le wd1 → HR K cls wd1 S1 H1 → XR K cls wd1 H1 c fs cv d → W cv d σ H1
  | .bad => False
abbrev TV := Sl → Sta → Out Bool
def LT (W : WX) (T : TV) : TT := fun σ H Q => ∃ wd σ' S, SR K wd σ' σ ∧ HR K cls wd S H ∧ OkT K cls W σ wd Q (T σ' S)
def RWs (wd : Wd) : List Vl → List V → Prop
  | [], vs => vs = []
  | x :: r, vs => ∃ v vr, vs = v :: vr ∧ RW K wd x v ∧ RWs wd r vr
def OkA (W : WX) (σ : L2.St) (wd : Wd) (Q : List V → Hp → Prop) : Out (List Vl) → Prop
  | .ok v S1 => ∀ wd1 x H1, wd.Le wd1 → HR K cls wd1 S1 H1 → RWs K wd1 v x → Q x H1
  | .exc c fs S1 => ∀ wd1 H1 cv d, wd.Le wd1 → HR K cls wd1 S1 H1 → XR K cls wd1 H1 c fs cv d → W cv d σ H1
  | .bad => False
def LA (W : WX) (T : EVs) : TA := fun σ H Q => ∃ wd σ' S, SR K wd σ' σ ∧ HR K cls wd S H ∧ OkA K cls W σ wd Q (T σ' S)
def OkS (W : WX) (wd : Wd) (E : Ends) : SOut → Prop
  | .nxt σ' S1 => ∀ wd1 σ1 H1, wd.Le wd1 → SR K wd1 σ' σ1 → HR K cls wd1 S1 H1 → E.nx σ1 H1
  | .ret v S1 => ∀ wd1 x H1, wd.Le wd1 → HR K cls wd1 S1 H1 → RV K wd1 H1 v x → E.rt x H1
  | .brk σ' S1 => ∀ wd1 σ1 H1, wd.Le wd1 → SR K wd1 σ' σ1 → HR K cls wd1 S1 H1 → E.bk σ1 H1
  | .cnt σ' S1 => ∀ wd1 σ1 H1, wd.Le wd1 → SR K wd1 σ' σ1 → HR K cls wd1 S1 H1 → E.ct σ1 H1
  | .exc c fs σ' S1 => ∀ wd1 σ1 H1 cv d, wd.Le wd1 → SR K wd1 σ' σ1 → HR K cls wd1 S1 H1 → XR K cls wd1 H1 c fs cv d → W cv d σ1 H1
  | .bad => False
def LS (W : WX) (T : SV) : TS := fun E σ H => ∃ wd σ' S, SR K wd σ' σ ∧ HR K cls wd S H ∧ OkS K cls W wd E (T σ' S)
end
section
variable {K : PySem.W.Frag} {cls : String → Addr} {wd wd' : Wd} {H : Hp} {W : WX} {σ : L2.St}
theorem RWs.mono (l : wd.Le wd') : ∀ {xs vs}, RWs K wd xs vs → RWs K wd' xs vs
  | [], _, h => h
  | _ :: _, _, ⟨v, vr, e, h1, h2⟩ => ⟨v, vr, e, h1.mono l, RWs.mono l h2⟩
theorem OkE.mono {Q} (l : wd.Le wd') : ∀ {o : Out Vl}, OkE K cls W σ wd Q o → OkE K cls W σ wd' Q o
  | .ok _ _, h => fun w1 x H1 l1 => h w1 x H1 (l.trans l1)
  | .exc _ _ _, h => fun w1 H1 cv d l1 => h w1 H1 cv d (l.trans l1)
  | .bad, h => h
theorem OkT.mono {Q} (l : wd.Le wd') : ∀ {o : Out Bool}, OkT K cls W σ wd Q o → OkT K cls W σ wd' Q o
  | .ok _ _, h => fun w1 H1 l1 => h w1 H1 (l.trans l1)
  | .exc _ _ _, h => fun w1 H1 cv d l1 => h w1 H1 cv d (l.trans l1)
  | .bad, h => h
theorem OkA.mono {Q} (l : wd.Le wd') : ∀ {o : Out (List Vl)}, OkA K cls W σ wd Q o → OkA K cls W σ wd' Q o
  | .ok _ _, h => fun w1 x H1 l1 => h w1 x H1 (l.trans l1)
  | .exc _ _ _, h => fun w1 H1 cv d l1 => h w1 H1 cv d (l.trans l1)
  | .bad, h => h
theorem OkS.mono {E} (l : wd.Le wd') : ∀ {o : SOut}, OkS K cls W wd E o → OkS K cls W wd' E o
  | .nxt _ _, h => fun w1 x H1 l1 => h w1 x H1 (l.trans l1)
  | .ret _ _, h => fun w1 x H1 l1 => h w1 x H1 (l.trans l1)
  | .brk _ _, h => fun w1 x H1 l1 => h w1 x H1 (l.trans l1)
  | .cnt _ _, h => fun w1 x H1 l1 => h w1 x H1 (l.trans l1)
  | .exc _ _ _ _, h => fun w1 σ1 H1 cv d l1 => h w1 σ1 H1 cv d (l.trans l1)
  | .bad, h => h

/-- a list in the hand is frozen -/
def Wd.freeze (wd : Wd) (a : Addr) (vs : List V) : Wd := { wd with fz := fun p => if p = a then some (.lst vs) else wd.fz p }
theorem freeze_le {a vs} (n : wd.fz a = none) : wd.Le (wd.freeze a vs) := ⟨fun p o e => by
  show (if p = a then some (HO.lst vs) else wd.fz p) = some o
  by_cases h : p = a
  · subst h; rw [n] at e; cases e
  · rw [if_neg h]; exact e, List.prefix_refl _, List.prefix_refl _, rfl⟩
theorem freeze_ne {a b : Addr} {vs} (h : b ≠ a) : (wd.freeze a vs).fz b = wd.fz b := if_neg h
theorem freeze_same {a : Addr} {vs} : (wd.freeze a vs).fz a = some (.lst vs) := if_pos rfl
theorem HR.freezeNew {S a vs} (h : HR K cls wd S H) (e : H a = some (.lst vs)) (n : wd.fz a = none) (nb : a ∉ wd.bx) (na : a ∉ wd.an.map (·.1)) : HR K cls (wd.freeze a vs) S H where
  fz := fun p o q => by
    by_cases hp : p = a
    · subst hp; rw [freeze_same] at q; cases q; exact e
    · rw [freeze_ne hp] at q; exact h.fz p o q
  bn := h.bn
  live := fun i l q => by
    obtain ⟨b, us, e1, e2, e3, r⟩ := h.live i l q
    refine ⟨b, us, e1, e2, ?_, RDs.mono K (freeze_le n) _ _ r⟩
    rw [freeze_ne]; exact e3
    intro z; subst z; exact nb (List.mem_of_getElem? e1)
  froz := fun i l q => by
    obtain ⟨b, us, e1, e3, r⟩ := h.froz i l q
    exact ⟨b, us, e1, (freeze_le n).fz _ _ e3, RDs.mono K (freeze_le n) _ _ r⟩
  bnd := h.bnd
  on := h.on
  ond := h.ond
  ob := fun i o q => let ⟨b, e1, r⟩ := h.ob i o q; ⟨b, e1, r.mono (freeze_le n)⟩
  an := fun p hp => by
    obtain ⟨e1, e2, e3⟩ := h.an p hp
    refine ⟨e1, ?_, e3⟩
    rw [freeze_ne]; exact e2
    intro z; exact na (z ▸ List.mem_map_of_mem hp)
  annd := h.annd
  nfz := fun p o q => by
    by_cases hp : p = a
    · subst hp; rw [freeze_same] at q; cases q; rfl
    · rw [freeze_ne hp] at q; exact h.nfz p o q
/-- a list in the hand becomes data -/
def frz : Vl → Vl
  | .new l => .d (.lst l)
  | v => v
theorem RV.frz {S v x} (h : HR K cls wd S H) (r : RV K wd H v x) : ∃ wd1, wd.Le wd1 ∧ HR K cls wd1 S H ∧ RW K wd1 (frz v) x := by
  cases v with
  | d y => exact ⟨wd, .refl _, h, r⟩
  | box i => exact ⟨wd, .refl _, h, r⟩
  | new l =>
    obtain ⟨a, vs, rfl, e, n, nb, na, rr⟩ := r
    refine ⟨_, freeze_le n, h.freezeNew e n nb na, ?_⟩
    show RD K _ (.lst l) _
    simp only [RD]
    exact ⟨a, vs, rfl, freeze_same, RDs.mono K (freeze_le n) _ _ rr⟩
/-- an operand: what it gives, at rest -/
def opd (T : EV) : EV := fun σ S => (T σ S).bind fun v S1 => .ok (frz v) S1
theorem OkE_bind {T : Out Vl} {F : Vl → Sta → Out Vl} {Q : VK} (h : OkE K cls W σ wd Q (T.bind F)) :
    OkE K cls W σ wd (fun x H1 => ∃ v wd1 S1, wd.Le wd1 ∧ HR K cls wd1 S1 H1 ∧ RV K wd1 H1 v x ∧ OkE K cls W σ wd1 Q (F v S1)) T := by
  cases T with
  | ok v S1 => exact fun wd1 x H1 l hr rv => ⟨v, wd1, S1, l, hr, rv, OkE.mono l h⟩
  | exc c fs S1 => exact h
  | bad => exact h
/-- an operand and what follows -/
theorem OkE_opd {T : Out Vl} {F : Vl → Sta → Out Vl} {Q : VK} (h : OkE K cls W σ wd Q (T.bind fun v S1 => F (frz v) S1)) :
    OkE K cls W σ wd (fun x H1 => ∃ v wd1 S1, wd.Le wd1 ∧ HR K cls wd1 S1 H1 ∧ RW K wd1 v x ∧ OkE K cls W σ wd1 Q (F v S1)) T := by
  cases T with
  | ok v S1 =>
    refine fun wd1 x H1 l hr rv => ?_
    obtain ⟨wd2, l2, hr2, rw2⟩ := rv.frz hr
    exact ⟨frz v, wd2, S1, l.trans l2, hr2, rw2, OkE.mono (l.trans l2) h⟩
  | exc c fs S1 => exact h
  | bad => exact h
theorem OkT_opd {T : Out Vl} {F : Vl → Sta → Out Bool} {Q : Bool → Hp → Prop} (h : OkT K cls W σ wd Q (T.bind fun v S1 => F (frz v) S1)) :
    OkE K cls W σ wd (fun x H1 => ∃ v wd1 S1, wd.Le wd1 ∧ HR K cls wd1 S1 H1 ∧ RW K wd1 v x ∧ OkT K cls W σ wd1 Q (F v S1)) T := by
  cases T with
  | ok v S1 =>
    refine fun wd1 x H1 l hr rv => ?_
    obtain ⟨wd2, l2, hr2, rw2⟩ := rv.frz hr
    exact ⟨frz v, wd2, S1, l.trans l2, hr2, rw2, OkT.mono (l.trans l2) h⟩
  | exc c fs S1 => exact h
  | bad => exact h
theorem OkT_bind {T : Out Bool} {F : Bool → Sta → Out Bool} {Q : Bool → Hp → Prop} (h : OkT K cls W σ wd Q (T.bind F)) :
    OkT K cls W σ wd (fun b H1 => ∃ wd1 S1, wd.Le wd1 ∧ HR K cls wd1 S1 H1 ∧ OkT K cls W σ wd1 Q (F b S1)) T := by
  cases T with
  | ok v S1 => exact fun wd1 H1 l hr => ⟨wd1, S1, l, hr, OkT.mono l h⟩
  | exc c fs S1 => exact h
  | bad => exact h
theorem OkT_bindE {T : Out Bool} {F : Bool → Sta → Out Vl} {Q : VK} (h : OkE K cls W σ wd Q (T.bind F)) :
    OkT K cls W σ wd (fun b H1 => ∃ wd1 S1, wd.Le wd1 ∧ HR K cls wd1 S1 H1 ∧ OkE K cls W σ wd1 Q (F b S1)) T := by
  cases T with
  | ok v S1 => exact fun wd1 H1 l hr => ⟨wd1, S1, l, hr, OkE.mono l h⟩
  | exc c fs S1 => exact h
  | bad => exact h
theorem OkA_opd {T : Out Vl} {F : Vl → Sta → Out (List Vl)} {Q : List V → Hp → Prop} (h : OkA K cls W σ wd Q (T.bind fun v S1 => F (frz v) S1)) :
    OkE K cls W σ wd (fun x H1 => ∃ v wd1 S1, wd.Le wd1 ∧ HR K cls wd1 S1 H1 ∧ RW K wd1 v x ∧ OkA K cls W σ wd1 Q (F v S1)) T := by
  cases T with
  | ok v S1 =>
    refine fun wd1 x H1 l hr rv => ?_
    obtain ⟨wd2, l2, hr2, rw2⟩ := rv.frz hr
    exact ⟨frz v, wd2, S1, l.trans l2, hr2, rw2, OkA.mono (l.trans l2) h⟩
  | exc c fs S1 => exact h
  | bad => exact h
theorem OkA_bind {T : Out (List Vl)} {F : List Vl → Sta → Out (List Vl)} {Q : List V → Hp → Prop} (h : OkA K cls W σ wd Q (T.bind F)) :
    OkA K cls W σ wd (fun x H1 => ∃ v wd1 S1, wd.Le wd1 ∧ HR K cls wd1 S1 H1 ∧ RWs K wd1 v x ∧ OkA K cls W σ wd1 Q (F v S1)) T := by
  cases T with
  | ok v S1 => exact fun wd1 x H1 l hr rv => ⟨v, wd1, S1, l, hr, rv, OkA.mono l h⟩
  | exc c fs S1 => exact h
  | bad => exact h
theorem OkA_bindE {T : Out (List Vl)} {F : List Vl → Sta → Out Vl} {Q : VK} (h : OkE K cls W σ wd Q (T.bind F)) :
    OkA K cls W σ wd (fun x H1 => ∃ v wd1 S1, wd.Le wd1 ∧ HR K cls wd1 S1 H1 ∧ RWs K wd1 v x ∧ OkE K cls W σ wd1 Q (F v S1)) T := by
  cases T with
  | ok v S1 => exact fun wd1 x H1 l hr rv => ⟨v, wd1, S1, l, hr, rv, OkE.mono l h⟩
  | exc c fs S1 => exact h
  | bad => exact h
end

/-! ### the judgements -/
structure G where
  P : Program
  w : World
  K : PySem.W.Frag
  mg : Str → Option Value
  base : Heap
  cls : String → Addr
  k : Nat
  N : List Str
  sc : Scope
  own : Str → Bool
structure Good (g : G) (X : Cx) : Prop where
  P : X.prog = g.P
  w : X.w = g.w
  K : X.K = g.K
  mg : X.mg = g.mg
  base : X.base = g.base
  N : X.N = g.N
  sc : X.env.scope = g.sc
  nd : g.N.Nodup
  calm : X.calm = true
  room : Room g.k X.A
  fn : ∀ x, g.own x = true → X.fn x = true
structure GoodS (g : G) (X : Cx) : Prop extends Good g X where
  stk : X.stack = X.env :: X.outer
  frm : X.env.frame = some X.env.locals
  kind_ : X.env.scope.kind = .function
  own : PassesOwn (model X.prog X.w) X.A X.env X.xe
def JE (g : G) (e : Expr) (T : EV) : Prop := ∀ X, Good g X → ∀ W, Takes X W → PE X e (LE g.K g.cls W T)
def JT (g : G) (e : Expr) (T : TV) : Prop := ∀ X, Good g X → ∀ W, Takes X W → PT X e (LT g.K g.cls W T)
def JW (g : G) (e : Expr) (T : TV) : Prop := ∀ X, Good g X → ∀ W, Takes X W → PW X e (LT g.K g.cls W T)
def JA (g : G) (es : List Expr) (T : EVs) : Prop := ∀ X, Good g X → ∀ W, Takes X W → PA X es (LA g.K g.cls W T)
def JS (g : G) (st : Stmt) (T : SV) : Prop := ∀ X, GoodS g X → ∀ W, Takes X W → PS X st (LS g.K g.cls W T)
def JSs (g : G) (st : List Stmt) (T : SV) : Prop := ∀ X, GoodS g X → ∀ W, Takes X W → PSs X st (LS g.K g.cls W T)
theorem _root_.L2.PE.imp {X : Cx} {e : Expr} {t t' : TE} (h : PE X e t) (i : ∀ σ H Q, t' σ H Q → t σ H Q) : PE X e t' := ⟨fun pins s σ H Q I q => h.run pins s σ H Q I (i σ H Q q)⟩
theorem _root_.L2.PT.imp {X : Cx} {e : Expr} {t t' : TT} (h : PT X e t) (i : ∀ σ H Q, t' σ H Q → t σ H Q) : PT X e t' := ⟨fun pins s σ H Q I q => h.run pins s σ H Q I (i σ H Q q)⟩
theorem _root_.L2.PW.imp {X : Cx} {e : Expr} {t t' : TT} (h : PW X e t) (i : ∀ σ H Q, t' σ H Q → t σ H Q) : PW X e t' := ⟨fun wh pins s σ H Q I q => h.run wh pins s σ H Q I (i σ H Q q)⟩
theorem _root_.L2.PA.imp {X : Cx} {e : List Expr} {t t' : TA} (h : PA X e t) (i : ∀ σ H Q, t' σ H Q → t σ H Q) : PA X e t' := ⟨fun p pins s σ H Q I q => h.run p pins s σ H Q I (i σ H Q q)⟩
theorem _root_.L2.PS.imp {X : Cx} {e : Stmt} {t t' : TS} (h : PS X e t) (i : ∀ E σ H, t' E σ H → t E σ H) : PS X e t' := ⟨fun pins s σ H E I q => h.run pins s σ H E I (i E σ H q)⟩
theorem _root_.L2.PSs.imp {X : Cx} {e : List Stmt} {t t' : TS} (h : PSs X e t) (i : ∀ E σ H, t' E σ H → t E σ H) : PSs X e t' := ⟨fun pins s σ H E I q => h.run pins s σ H E I (i E σ H q)⟩
end Ev

set_option Elab.async false
set_option linter.all false
set_option maxRecDepth 100000
set_option maxHeartbeats 1000000
/-! Ev2: expressions: names, constants, operators, comparisons, tests, displays, items, slices. -/
namespace Ev
open PySem PySem.Spec PyProof.Rows L2
open Classical
section
variable {K : PySem.W.Frag} {cls : String → Addr} {wd wd' : Wd} {H : Hp} {S : Sta} {W : WX} {σ : St}

/-! ### a new object in the heap -/
theorem nodupIx {α : Type} : ∀ {l : List α} {i j : Nat} {x : α}, l.Nodup → l[i]? = some x → l[j]? = some x → i = j
  | [], _, _, _, _, e, _ => by simp at e
  | y :: r, 0, 0, _, _, _, _ => rfl
  | y :: r, 0, j + 1, x, n, e1, e2 => by
    simp at e1 e2; subst e1
    exact absurd (List.mem_of_getElem? e2) (List.nodup_cons.mp n).1
  | y :: r, i + 1, 0, x, n, e1, e2 => by
    simp at e1 e2; subst e2
    exact absurd (List.mem_of_getElem? e1) (List.nodup_cons.mp n).1
  | y :: r, i + 1, j + 1, x, n, e1, e2 => by
    have e1' : r[i]? = some x := by simpa using e1
    have e2' : r[j]? = some x := by simpa using e2
    rw [nodupIx (List.nodup_cons.mp n).2 e1' e2']
theorem HR.fz_none (h : HR K cls wd S H) {p} (n : H p = none) : wd.fz p = none := by
  cases e : wd.fz p with
  | none => rfl
  | some o => rw [h.fz p o e] at n; cases n
theorem HR.bx_none (h : HR K cls wd S H) {p} (n : H p = none) : p ∉ wd.bx := fun m => by
  obtain ⟨i, hi⟩ := List.getElem?_of_mem m
  have hl : i < S.B.length := by rw [h.bn]; exact (List.getElem?_eq_some_iff.mp hi).1
  obtain ⟨⟨b, l⟩, hb⟩ : ∃ x, S.B[i]? = some x := ⟨_, List.getElem?_eq_getElem hl⟩
  cases b with
  | true =>
    obtain ⟨a, vs, e1, e2, _, _⟩ := h.live i l hb
    rw [hi] at e1; cases e1; rw [n] at e2; cases e2
  | false =>
    obtain ⟨a, vs, e1, e2, _⟩ := h.froz i l hb
    rw [hi] at e1; cases e1; rw [h.fz _ _ e2] at n; cases n
theorem HR.ob_none (h : HR K cls wd S H) {p} (n : H p = none) : p ∉ wd.ob := fun m => by
  obtain ⟨i, hi⟩ := List.getElem?_of_mem m
  have hl : i < S.P.length := by rw [h.on]; exact (List.getElem?_eq_some_iff.mp hi).1
  obtain ⟨o, hb⟩ : ∃ x, S.P[i]? = some x := ⟨_, List.getElem?_eq_getElem hl⟩
  obtain ⟨a, e1, e2⟩ := h.ob i o hb
  rw [hi] at e1; cases e1
  cases o with
  | ins c fs => obtain ⟨dx, vfs, e, _⟩ := e2; rw [n] at e; cases e
  | dic kvs => obtain ⟨vk, e, _⟩ := e2; rw [n] at e; cases e
theorem HR.an_none (h : HR K cls wd S H) {p} (n : H p = none) : p ∉ wd.an.map (·.1) := fun m => by
  obtain ⟨q, hq, rfl⟩ := List.mem_map.mp m
  rw [(h.an q hq).1] at n; cases n
theorem ObAt.at_ne {p o a ob} (hp : a ≠ p) (h : ObAt K cls wd H a ob) : ObAt K cls wd (upd H p o) a ob := by
  cases ob with
  | ins c fs => obtain ⟨dx, vfs, e, r⟩ := h; exact ⟨dx, vfs, by rw [upd_ne hp]; exact e, r⟩
  | dic kvs => obtain ⟨vk, e, r⟩ := h; exact ⟨vk, by rw [upd_ne hp]; exact e, r⟩
theorem HR.lay (h : HR K cls wd S H) {p o} (n : H p = none) : HR K cls wd S (upd H p o) where
  fz := fun a u e => by rw [upd_ne (ne_of_none (h.fz a u e) n)]; exact h.fz a u e
  bn := h.bn
  live := fun i l q => by
    obtain ⟨a, vs, e1, e2, r⟩ := h.live i l q
    exact ⟨a, vs, e1, by rw [upd_ne (ne_of_none e2 n)]; exact e2, r⟩
  froz := h.froz
  bnd := h.bnd
  on := h.on
  ond := h.ond
  ob := fun i u q => by
    obtain ⟨a, e1, r⟩ := h.ob i u q
    exact ⟨a, e1, r.at_ne fun z => h.ob_none n (z ▸ List.mem_of_getElem? e1)⟩
  an := fun q hq => by
    obtain ⟨e1, e2, e3⟩ := h.an q hq
    exact ⟨by rw [upd_ne (ne_of_none e1 n)]; exact e1, e2, e3⟩
  annd := h.annd
  nfz := h.nfz
/-- .. a tuple -/
def Wd.put (wd : Wd) (a : Addr) (o : HO) : Wd := { wd with fz := fun p => if p = a then some o else wd.fz p }
theorem put_le {a o} (n : wd.fz a = none) : wd.Le (wd.put a o) := ⟨fun p u e => by
  show (if p = a then some o else wd.fz p) = some u
  by_cases h : p = a
  · subst h; rw [n] at e; cases e
  · rw [if_neg h]; exact e, List.prefix_refl _, List.prefix_refl _, rfl⟩
theorem put_ne {a b : Addr} {o} (h : b ≠ a) : (wd.put a o).fz b = wd.fz b := if_neg h
theorem put_same {a : Addr} {o} : (wd.put a o).fz a = some o := if_pos rfl
theorem HR.put (h : HR K cls wd S H) {a o} (e : H a = some o) (n : wd.fz a = none) (nb : a ∉ wd.bx) (na : a ∉ wd.an.map (·.1)) (hz : isFz o = true) : HR K cls (wd.put a o) S H where
  fz := fun p u q => by
    by_cases hp : p = a
    · subst hp; rw [put_same] at q; cases q; exact e
    · rw [put_ne hp] at q; exact h.fz p u q
  bn := h.bn
  live := fun i l q => by
    obtain ⟨b, us, e1, e2, e3, r⟩ := h.live i l q
    refine ⟨b, us, e1, e2, ?_, RDs.mono K (put_le n) _ _ r⟩
    rw [put_ne]; exact e3
    intro z; subst z; exact nb (List.mem_of_getElem? e1)
  froz := fun i l q => by
    obtain ⟨b, us, e1, e3, r⟩ := h.froz i l q
    exact ⟨b, us, e1, (put_le n).fz _ _ e3, RDs.mono K (put_le n) _ _ r⟩
  bnd := h.bnd
  on := h.on
  ond := h.ond
  ob := fun i u q => let ⟨b, e1, r⟩ := h.ob i u q; ⟨b, e1, r.mono (put_le n)⟩
  an := fun p hp => by
    obtain ⟨e1, e2, e3⟩ := h.an p hp
    refine ⟨e1, ?_, e3⟩
    rw [put_ne]; exact e2
    intro z; exact na (z ▸ List.mem_map_of_mem hp)
  annd := h.annd
  nfz := fun p u q => by
    by_cases hp : p = a
    · subst hp; rw [put_same] at q; cases q; exact hz
    · rw [put_ne hp] at q; exact h.nfz p u q
theorem HR.newTup (h : HR K cls wd S H) {p vs l} (n : H p = none) (r : RDs K wd l vs) :
    ∃ wd1, wd.Le wd1 ∧ HR K cls wd1 S (upd H p (.tup vs)) ∧ RD K wd1 (.tup l) (.ref p) := by
  refine ⟨wd.put p (.tup vs), put_le (h.fz_none n), (h.lay n).put upd_same (h.fz_none n) (h.bx_none n) (h.an_none n) rfl, ?_⟩
  simp only [RD]
  exact ⟨p, vs, rfl, .inl put_same, RDs.mono K (put_le (h.fz_none n)) _ _ r⟩
theorem HR.newLst (h : HR K cls wd S H) {p vs l} (n : H p = none) (r : RDs K wd l vs) :
    HR K cls wd S (upd H p (.lst vs)) ∧ RV K wd (upd H p (.lst vs)) (.new l) (.ref p) :=
  ⟨h.lay n, p, vs, rfl, upd_same, h.fz_none n, h.bx_none n, h.an_none n, r⟩
end

/-! ### names and constants -/
@[simp] noncomputable def eVar (i : Nat) : EV := fun σ S => match σ[i]? with
  | some (some v) => .ok v S
  | _ => .bad
@[simp] def eC (x : D) : EV := fun _ S => .ok (.d x) S
section
variable {g : G} {pos : Pos} {a b e : Expr} {Ta Tb T : EV}
theorem je_var (i : Nat) {x : Str} (hN : g.N[i]? = some x := by rfl) (hv : Vis g.sc x := by first | exact Or.inl rfl | exact Or.inr (Or.inl rfl) | exact Or.inr (Or.inr rfl)) (hd : (x == ("__debug__" : Str)) = false := by decide)
    (hcd : (x == ("__classdict__" : Str)) = false := by decide) : JE g (.Name x pos) (eVar i) := fun X hX W tk => by
  refine (pe_var (X := X) (i := i) (by rw [hX.N]; exact hN) (by rw [hX.sc]; exact hv) hd hcd).imp fun σ H Q h => ?_
  obtain ⟨wd, σ', S, hs, hh, h⟩ := h
  unfold eVar at h
  split at h
  · rename_i v e
    obtain ⟨x, e2, r⟩ := hs i v e
    exact ⟨x, e2, h wd x H (.refl _) hh r.rv⟩
  · exact h.elim
theorem je_c {x : D} {v : V} (hp : ∀ X : Cx, PE X e (tC v)) (r : ∀ wd, RD g.K wd x v) : JE g e (eC x) := fun X hX W tk => by
  refine (hp X).imp fun σ H Q h => ?_
  obtain ⟨wd, σ', S, hs, hh, h⟩ := h
  exact h wd v H (.refl _) hh (r wd)
theorem je_int {i j} : JE g (.Constant (.int i) j pos) (eC (.int i)) := je_c (fun _ => pe_int) fun _ => by simp [RD]
theorem je_bl {b j} : JE g (.Constant (.bool b) j pos) (eC (.bl b)) := je_c (fun _ => pe_bl) fun _ => by simp [RD]
theorem je_non {j} : JE g (.Constant .none j pos) (eC .non) := je_c (fun _ => pe_non) fun _ => by simp [RD]
theorem je_str {x j} (h : PyData.strOk x = true := by decide +kernel) : JE g (.Constant (.str x) j pos) (eC (.str x)) := je_c (fun _ => pe_str) fun _ => by simp [RD, h]
abbrev GlS (g : G) (x : Str) : Prop := g.sc.names.lookup x = some .globalImplicit
theorem gl_of {X : Cx} (hX : Good g X) {x : Str} (h : g.sc.names.lookup x = some .globalImplicit) : Gl X x := by
  show X.env.scope.names.lookup x = _
  rw [hX.sc]; exact h
/-- a constant of the module -/
theorem je_gint {x : Str} {i : Int} {t : Tok} (hg : g.sc.names.lookup x = some .globalImplicit) (hm : g.mg x = some (.int i t)) (hd : (x == ("__debug__" : Str)) = false := by decide) : JE g (.Name x pos) (eC (.int i)) := fun X hX W tk => by
  refine (pe_glob (X := X) (v := .int i) (gl_of hX hg) (by rw [hX.mg]; exact hm) ⟨t, rfl⟩ hd).imp fun σ H Q h => ?_
  obtain ⟨wd, σ', S, hs, hh, h⟩ := h
  exact h wd _ H (.refl _) hh (by simp [RV, RD])
theorem je_gstr {x z : Str} {t : Tok} (hg : g.sc.names.lookup x = some .globalImplicit) (hm : g.mg x = some (.str z t)) (hz : PyData.strOk z = true := by decide +kernel) (hd : (x == ("__debug__" : Str)) = false := by decide) : JE g (.Name x pos) (eC (.str z)) := fun X hX W tk => by
  refine (pe_glob (X := X) (v := .str z) (gl_of hX hg) (by rw [hX.mg]; exact hm) ⟨t, rfl⟩ hd).imp fun σ H Q h => ?_
  obtain ⟨wd, σ', S, hs, hh, h⟩ := h
  exact h wd _ H (.refl _) hh (by simp [RV, RD, hz])

/-! ### two operands -/
/-- by values -/
def OpD (g : G) (r : R2) (f : Vl → Vl → Sta → Out Vl) : Prop := ∀ (W : WX) (σ : St) (wd : Wd) (H : Hp) (S : Sta) (v u : Vl) (x y : V) (Q : VK),
  HR g.K g.cls wd S H → RW g.K wd v x → RW g.K wd u y → OkE g.K g.cls W σ wd Q (f v u S) → r x y H Q
@[simp] noncomputable def eBin (f : Vl → Vl → Sta → Out Vl) (Ta Tb : EV) : EV := fun σ S => (Ta σ S).bind fun v S1 => (Tb σ S1).bind fun u S2 => f (frz v) (frz u) S2
theorem bin_read {r : R2} {f : Vl → Vl → Sta → Out Vl} (hf : OpD g r f) {W : WX} {σ : St} {H : Hp} {Q : VK} (h : LE g.K g.cls W (eBin f Ta Tb) σ H Q) : tOp r (LE g.K g.cls W Ta) (LE g.K g.cls W Tb) σ H Q := by
  obtain ⟨wd, σ', S, hs, hh, h⟩ := h
  refine ⟨wd, σ', S, hs, hh, ?_⟩
  have h1 := OkE_opd (F := fun v S1 => (Tb σ' S1).bind fun u S2 => f v (frz u) S2) h
  revert h1
  cases Ta σ' S with
  | ok v S1 =>
    intro h1 wd1 x H1 l hr rv
    obtain ⟨v', wd2, S2, l2, hr2, rw2, h2⟩ := h1 wd1 x H1 l hr rv
    refine ⟨wd2, σ', S2, hs.mono l2, hr2, ?_⟩
    have h3 := OkE_opd (F := fun u S2 => f v' u S2) h2
    revert h3
    cases Tb σ' S2 with
    | ok u S3 =>
      intro h3 wd3 y H3 l3 hr3 rv3
      obtain ⟨u', wd4, S4, l4, hr4, rw4, h4⟩ := h3 wd3 y H3 l3 hr3 rv3
      exact hf W σ wd4 H3 S4 v' u' x y Q hr4 (rw2.mono l4) rw4 h4
    | exc c fs S3 => intro h3; exact h3
    | bad => intro h3; exact h3
  | exc c fs S1 => intro h1; exact h1
  | bad => intro h1; exact h1
theorem je_bin {op : Operator} {r : R2} {f} (ho : ∀ X, Good g X → OpR X (binaryOp op) r) (hf : OpD g r f) (ha : JE g a Ta) (hb : JE g b Tb) : JE g (.BinOp a op b pos) (eBin f Ta Tb) := fun X hX W tk =>
  (pe_op (ho X hX) (ha X hX W tk) (hb X hX W tk)).imp fun σ H Q h => bin_read hf h
theorem je_cmp {op : CmpOp} {r : R2} {f} (ho : ∀ X, Good g X → OpR X (compareOp op) r) (hf : OpD g r f) (ha : JE g a Ta) (hb : JE g b Tb) (hm : behindInMarks op b = false := by first | exact nomark _ | rfl) : JE g (.Compare a [op] [b] pos) (eBin f Ta Tb) := fun X hX W tk =>
  (pe_cmpR (ho X hX) (ha X hX W tk) (hb X hX W tk) hm).imp fun σ H Q h => bin_read hf h
/-- .. as a test -/
@[simp] noncomputable def tOf (T : EV) : TV := fun σ S => (T σ S).bind fun v S1 => match v with
  | .d (.bl k) => .ok k S1
  | _ => .bad
theorem of_test {W : WX} {σ : St} {H : Hp} {Q : Bool → Hp → Prop} (h : LT g.K g.cls W (tOf T) σ H Q) : LE g.K g.cls W T σ H (fun x H1 => ∃ k, x = .bl k ∧ Q k H1) := by
  obtain ⟨wd, σ', S, hs, hh, h⟩ := h
  refine ⟨wd, σ', S, hs, hh, ?_⟩
  revert h
  unfold tOf
  cases T σ' S with
  | ok v S1 =>
    intro h wd1 x H1 l hr rv
    cases v with
    | d y =>
      cases y with
      | bl k => simp only [RV, RD] at rv; exact ⟨k, rv, h wd1 H1 l hr⟩
      | _ => exact h.elim
    | _ => exact h.elim
  | exc c fs S1 => intro h; exact h
  | bad => intro h; exact h
theorem jt_cmp {op : CmpOp} {r : R2} {f} (ho : ∀ X, Good g X → OpR X (compareOp op) r) (hf : OpD g r f) (ha : JE g a Ta) (hb : JE g b Tb) (hm : behindInMarks op b = false := by first | exact nomark _ | rfl) : JT g (.Compare a [op] [b] pos) (tOf (eBin f Ta Tb)) := fun X hX W tk =>
  (pt_cmpR (ho X hX) (ha X hX W tk) (hb X hX W tk) hm).imp fun σ H Q h => bin_read hf (of_test h)
/-- an expression that gives True or False, as a test -/
theorem jt_val (h : JE g e T) (he : ∀ env whole, isTrue e env whole = (do let v ← whole; standAt e.pos; holding [v] (truthy v)) := by intro _ _; rfl) : JT g e (tOf T) := fun X hX W tk =>
  (pt_val (h X hX W tk) (he X.env)).imp fun σ H Q h => of_test h

/-! ### and, or, not; if-expressions -/
variable {TA TB : TV} {rest : List Expr}
@[simp] noncomputable def tAndW (TA TB : TV) : TV := fun σ S => (TA σ S).bind fun k S1 => if k = true then TB σ S1 else .ok false S1
@[simp] noncomputable def tOrW (TA TB : TV) : TV := fun σ S => (TA σ S).bind fun k S1 => if k = true then .ok true S1 else TB σ S1
@[simp] noncomputable def tNotW (TA : TV) : TV := fun σ S => (TA σ S).bind fun k S1 => .ok (!k) S1
theorem seqT {W : WX} {σ : St} {H : Hp} {Q : Bool → Hp → Prop} {F : Bool → TV} {R : Bool → TT} (h : LT g.K g.cls W (fun σ S => (TA σ S).bind fun k S1 => F k σ S1) σ H Q) (hf : ∀ k σ H Q, LT g.K g.cls W (F k) σ H Q → R k σ H Q) :
    LT g.K g.cls W TA σ H fun k H1 => R k σ H1 Q := by
  obtain ⟨wd, σ', S, hs, hh, h⟩ := h
  refine ⟨wd, σ', S, hs, hh, ?_⟩
  dsimp only at h
  revert h
  cases TA σ' S with
  | ok k S1 => intro h wd1 H1 l hr; exact hf k σ H1 Q ⟨wd1, σ', S1, hs.mono l, hr, OkT.mono l h⟩
  | exc c fs S1 => intro h; exact h
  | bad => intro h; exact h
theorem okT {W : WX} {σ : St} {H : Hp} {Q : Bool → Hp → Prop} {k : Bool} (h : LT g.K g.cls W (fun _ S => .ok k S) σ H Q) : Q k H := by
  obtain ⟨wd, σ', S, hs, hh, h⟩ := h
  exact h wd H (.refl _) hh
theorem jw_and1 (ha : JT g a TA) : JW g (.BoolOp .And [a] pos) TA := fun X hX W tk => pw_and1 (ha X hX W tk)
theorem jw_or1 (ha : JT g a TA) : JW g (.BoolOp .Or [a] pos) TA := fun X hX W tk => pw_or1 (ha X hX W tk)
theorem jw_and (ha : JT g a TA) (hb : JW g (.BoolOp .And (b :: rest) pos) TB) : JW g (.BoolOp .And (a :: b :: rest) pos) (tAndW TA TB) := fun X hX W tk =>
  (pw_and (ha X hX W tk) (hb X hX W tk)).imp fun σ H Q h => by
    refine seqT (F := fun k => if k = true then TB else fun _ S => .ok false S) (R := fun k σ H Q => if k = true then LT g.K g.cls W TB σ H Q else Q false H) ?_ ?_
    · obtain ⟨wd, σ', S, hs, hh, h⟩ := h
      refine ⟨wd, σ', S, hs, hh, ?_⟩
      unfold tAndW at h
      have e : (fun (k : Bool) S1 => (if k = true then TB else fun _ S => Out.ok false S) σ' S1) = fun k S1 => if k = true then TB σ' S1 else Out.ok false S1 := by funext k S1; cases k <;> rfl
      dsimp only
      rw [e]; exact h
    · intro k σ H Q h
      cases k with
      | true => exact h
      | false => exact okT h
theorem jw_or (ha : JT g a TA) (hb : JW g (.BoolOp .Or (b :: rest) pos) TB) : JW g (.BoolOp .Or (a :: b :: rest) pos) (tOrW TA TB) := fun X hX W tk =>
  (pw_or (ha X hX W tk) (hb X hX W tk)).imp fun σ H Q h => by
    refine seqT (F := fun k => if k = true then fun _ S => .ok true S else TB) (R := fun k σ H Q => if k = true then Q true H else LT g.K g.cls W TB σ H Q) ?_ ?_
    · obtain ⟨wd, σ', S, hs, hh, h⟩ := h
      refine ⟨wd, σ', S, hs, hh, ?_⟩
      unfold tOrW at h
      have e : (fun (k : Bool) S1 => (if k = true then (fun _ S => Out.ok true S) else TB) σ' S1) = fun k S1 => if k = true then Out.ok true S1 else TB σ' S1 := by funext k S1; cases k <;> rfl
      dsimp only
      rw [e]; exact h
    · intro k σ H Q h
      cases k with
      | true => exact okT h
      | false => exact h
theorem jt_bool (h : JW g e TA) : JT g e TA := fun X hX W tk => (h X hX W tk).pt
theorem jt_not (ha : JT g a TA) : JT g (.UnaryOp .Not a pos) (tNotW TA) := fun X hX W tk =>
  (pt_not (ha X hX W tk)).imp fun σ H Q h => seqT (F := fun k => fun _ S => .ok (!k) S) (R := fun k σ H Q => Q (!k) H) h fun k σ H Q h => okT h
/-- as values: all but the last True or False -/
@[simp] noncomputable def eAnd (Ta Tb : EV) : EV := fun σ S => (tOf Ta σ S).bind fun k S1 => if k = true then Tb σ S1 else .ok (.d (.bl false)) S1
@[simp] noncomputable def eOr (Ta Tb : EV) : EV := fun σ S => (tOf Ta σ S).bind fun k S1 => if k = true then .ok (.d (.bl true)) S1 else Tb σ S1
@[simp] noncomputable def eNot (Ta : EV) : EV := fun σ S => (tOf Ta σ S).bind fun k S1 => .ok (.d (.bl (!k))) S1
@[simp] noncomputable def eIf (TA : TV) (Ta Tb : EV) : EV := fun σ S => (TA σ S).bind fun k S1 => if k = true then Ta σ S1 else Tb σ S1
theorem seqTE {W : WX} {σ : St} {H : Hp} {Q : VK} {F : Bool → EV} {R : Bool → TE} (h : LE g.K g.cls W (fun σ S => (TA σ S).bind fun k S1 => F k σ S1) σ H Q) (hf : ∀ k σ H Q, LE g.K g.cls W (F k) σ H Q → R k σ H Q) :
    LT g.K g.cls W TA σ H fun k H1 => R k σ H1 Q := by
  obtain ⟨wd, σ', S, hs, hh, h⟩ := h
  refine ⟨wd, σ', S, hs, hh, ?_⟩
  dsimp only at h
  revert h
  cases TA σ' S with
  | ok k S1 => intro h wd1 H1 l hr; exact hf k σ H1 Q ⟨wd1, σ', S1, hs.mono l, hr, OkE.mono l h⟩
  | exc c fs S1 => intro h; exact h
  | bad => intro h; exact h
theorem LE.eq {W : WX} {σ : St} {H : Hp} {Q : VK} {T T' : EV} (e : T = T') (h : LE g.K g.cls W T σ H Q) : LE g.K g.cls W T' σ H Q := e ▸ h
theorem okE {W : WX} {σ : St} {H : Hp} {Q : VK} {x : D} {v : V} (h : LE g.K g.cls W (fun _ S => .ok (.d x) S) σ H Q) (r : ∀ wd, RD g.K wd x v) : Q v H := by
  obtain ⟨wd, σ', S, hs, hh, h⟩ := h
  exact h wd _ H (.refl _) hh (r wd)
theorem je_one {op} (h : JE g a Ta) : JE g (.BoolOp op [a] pos) Ta := fun X hX W tk => pe_one (h X hX W tk)
theorem je_and (ha : JE g a Ta) (hb : JE g (.BoolOp .And (b :: rest) pos) Tb) : JE g (.BoolOp .And (a :: b :: rest) pos) (eAnd Ta Tb) := fun X hX W tk =>
  (pe_and (ha X hX W tk) (hb X hX W tk)).imp fun σ H Q h => by
    have h2 := seqTE (g := g) (W := W) (TA := tOf Ta) (F := fun k => if k = true then Tb else fun _ S => .ok (.d (.bl false)) S) (R := fun k σ H Q => if k = true then LE g.K g.cls W Tb σ H Q else Q (.bl false) H)
      (LE.eq (by funext σ S; unfold eAnd; congr 1; funext k S1; cases k <;> rfl) h) (fun k σ H Q h => by
        cases k with
        | true => exact h
        | false => exact okE h fun _ => by simp [RD])
    exact of_test h2
theorem je_or (ha : JE g a Ta) (hb : JE g (.BoolOp .Or (b :: rest) pos) Tb) : JE g (.BoolOp .Or (a :: b :: rest) pos) (eOr Ta Tb) := fun X hX W tk =>
  (pe_or (ha X hX W tk) (hb X hX W tk)).imp fun σ H Q h => by
    have h2 := seqTE (g := g) (W := W) (TA := tOf Ta) (F := fun k => if k = true then fun _ S => .ok (.d (.bl true)) S else Tb) (R := fun k σ H Q => if k = true then Q (.bl true) H else LE g.K g.cls W Tb σ H Q)
      (LE.eq (by funext σ S; unfold eOr; congr 1; funext k S1; cases k <;> rfl) h) (fun k σ H Q h => by
        cases k with
        | true => exact okE h fun _ => by simp [RD]
        | false => exact h)
    exact of_test h2
theorem je_not (ha : JE g a Ta) : JE g (.UnaryOp .Not a pos) (eNot Ta) := fun X hX W tk =>
  (pe_not (ha X hX W tk)).imp fun σ H Q h => by
    have h2 := seqTE (g := g) (W := W) (TA := tOf Ta) (F := fun k => fun _ S => .ok (.d (.bl (!k))) S) (R := fun k σ H Q => Q (.bl (!k)) H) h (fun k σ H Q h => okE h fun _ => by simp [RD])
    exact of_test h2
theorem je_if {c : Expr} (hc : JT g c TA) (ha : JE g a Ta) (hb : JE g b Tb) : JE g (.IfExp c a b pos) (eIf TA Ta Tb) := fun X hX W tk =>
  (pe_ifExp (hc X hX W tk) (ha X hX W tk) (hb X hX W tk)).imp fun σ H Q h => seqTE (TA := TA) (F := fun k => if k = true then Ta else Tb) (R := fun k σ H Q => if k = true then LE g.K g.cls W Ta σ H Q else LE g.K g.cls W Tb σ H Q)
      (LE.eq (by funext σ S; unfold eIf; congr 1; funext k S1; cases k <;> rfl) h) (fun k σ H Q h => by cases k <;> exact h)

/-! ### arguments, displays -/
variable {es : List Expr} {Ts : EVs}
@[simp] def aNil : EVs := fun _ S => .ok [] S
@[simp] noncomputable def aCons (T : EV) (Ts : EVs) : EVs := fun σ S => (T σ S).bind fun v S1 => (Ts σ S1).bind fun vs S2 => .ok (frz v :: vs) S2
theorem ja_nil : JA g [] aNil := fun X hX W tk => (pa_nil (X := X)).imp fun σ H Q h => by
  obtain ⟨wd, σ', S, hs, hh, h⟩ := h
  exact h wd [] H (.refl _) hh rfl
theorem ja_cons (ha : JE g e T) (hr : JA g es Ts) (hs : ∀ env, starEach (e :: es) env = (false, eval e env) :: starEach es env := by intro _; rfl) : JA g (e :: es) (aCons T Ts) := fun X hX W tk =>
  (pa_cons (ha X hX W tk) (hr X hX W tk) (hs X.env)).imp fun σ H Q h => by
    obtain ⟨wd, σ', S, hs, hh, h⟩ := h
    refine ⟨wd, σ', S, hs, hh, ?_⟩
    have h1 := OkA_opd (F := fun v S1 => (Ts σ' S1).bind fun vs S2 => .ok (v :: vs) S2) h
    revert h1
    cases T σ' S with
    | ok v S1 =>
      intro h1 wd1 x H1 l hr rv
      obtain ⟨v', wd2, S2, l2, hr2, rw2, h2⟩ := h1 wd1 x H1 l hr rv
      refine ⟨wd2, σ', S2, hs.mono l2, hr2, ?_⟩
      have h3 := OkA_bind h2
      revert h3
      cases Ts σ' S2 with
      | ok u S3 =>
        intro h3 wd3 y H3 l3 hr3 rv3
        obtain ⟨u', wd4, S4, l4, hr4, rw4, h4⟩ := h3 wd3 y H3 l3 hr3 rv3
        exact h4 wd4 (x :: y) H3 (.refl _) hr4 ⟨x, y, rfl, rw2.mono l4, rw4⟩
      | exc c fs S3 => intro h3; exact h3
      | bad => intro h3; exact h3
    | exc c fs S1 => intro h1; exact h1
    | bad => intro h1; exact h1
/-- what data a value is: a box is frozen -/
noncomputable def toD (v : Vl) (S : Sta) : Option (D × Sta) := match v with
  | .d x => some (x, S)
  | .new l => some (.lst l, S)
  | .box i => match S.B[i]? with
    | some (_, l) => some (.lst l, { S with B := S.B.set i (false, l) })
    | none => none
@[simp] theorem toD_d (x : D) (S : Sta) : toD (.d x) S = some (x, S) := rfl
noncomputable def toDs : List Vl → Sta → Option (List D × Sta)
  | [], S => some ([], S)
  | v :: vs, S => match toD v S with
    | none => none
    | some (x, S1) => match toDs vs S1 with
      | none => none
      | some (xs, S2) => some (x :: xs, S2)
@[simp] theorem toDs_nil (S : Sta) : toDs [] S = some ([], S) := rfl
@[simp] theorem toDs_cons (x : D) (vs : List Vl) (S : Sta) : toDs (.d x :: vs) S = match toDs vs S with
      | none => none
      | some (xs, S2) => some (x :: xs, S2) := rfl
theorem RW.toD {wd : Wd} {H : Hp} {S S1 : Sta} {v : Vl} {x : V} {y : D} (h : HR g.K g.cls wd S H) (r : RW g.K wd v x) (e : Ev.toD v S = some (y, S1)) : ∃ wd1, wd.Le wd1 ∧ HR g.K g.cls wd1 S1 H ∧ RD g.K wd1 y x := by
  cases v with
  | d z => cases e; exact ⟨wd, .refl _, h, r⟩
  | new l => exact r.elim
  | box i =>
    obtain ⟨a, rfl, ea⟩ := r
    unfold Ev.toD at e
    split at e
    · rename_i z
      cases z
    · rename_i z; cases z
    · rename_i j z
      cases z
      split at e
      · rename_i k l eb
        cases e
        have hi : i < S.B.length := (List.getElem?_eq_some_iff.mp eb).1
        have key : ∀ (vs : List V) (wd1 : Wd), wd.Le wd1 → wd1.bx = wd.bx → wd1.an = wd.an → wd1.ob = wd.ob → HR g.K g.cls wd1 S H ∨ True → wd1.fz a = some (.lst vs) → (∀ p o, wd1.fz p = some o → H p = some o) → (∀ p, p ≠ a → wd1.fz p = wd.fz p) → RDs g.K wd l vs →
            HR g.K g.cls wd1 { S with B := S.B.set i (false, l) } H ∧ RD g.K wd1 (.lst l) (.ref a) := by
          intro vs wd1 le eb1 ea1 eo1 _ hf hfz hne rr
          refine ⟨⟨hfz, by rw [eb1]; simpa using h.bn, fun j m q => ?_, fun j m q => ?_, by rw [eb1]; exact h.bnd, by rw [eo1]; exact h.on, by rw [eo1]; exact h.ond, fun j o q => ?_, fun p hp => ?_, by rw [ea1]; exact h.annd, fun p o q => ?_⟩, ?_⟩
          · by_cases hj : j = i
            · subst hj; rw [List.getElem?_set_self hi] at q; cases q
            · rw [List.getElem?_set_ne (Ne.symm hj)] at q
              obtain ⟨b, us, e1, e2, e3, r3⟩ := h.live j m q
              refine ⟨b, us, by rw [eb1]; exact e1, e2, ?_, RDs.mono _ le _ _ r3⟩
              rw [hne b ?_]; exact e3
              intro z; subst z
              exact hj (nodupIx h.bnd e1 ea)
          · by_cases hj : j = i
            · subst hj; rw [List.getElem?_set_self hi] at q; cases q
              exact ⟨a, vs, by rw [eb1]; exact ea, hf, RDs.mono _ le _ _ rr⟩
            · rw [List.getElem?_set_ne (Ne.symm hj)] at q
              obtain ⟨b, us, e1, e2, r3⟩ := h.froz j m q
              exact ⟨b, us, by rw [eb1]; exact e1, le.fz _ _ e2, RDs.mono _ le _ _ r3⟩
          · obtain ⟨b, e1, r1⟩ := h.ob j o q
            exact ⟨b, by rw [eo1]; exact e1, r1.mono le⟩
          · rw [ea1] at hp
            obtain ⟨e1, e2, e3⟩ := h.an p hp
            refine ⟨e1, ?_, by rw [eb1]; exact e3⟩
            rw [hne]; exact e2
            intro z; rw [z] at e3; exact e3 (List.mem_of_getElem? ea)
          · by_cases hp : p = a
            · subst hp; rw [hf] at q; cases q; rfl
            · rw [hne p hp] at q; exact h.nfz p o q
          · simp only [RD]
            exact ⟨a, vs, rfl, hf, RDs.mono _ le _ _ rr⟩
        cases k with
        | true =>
          obtain ⟨b, vs, e1, e2, e3, rr⟩ := h.live i l eb
          rw [ea] at e1; cases e1
          refine ⟨wd.put a (.lst vs), put_le e3, key vs _ (put_le e3) rfl rfl rfl (.inr trivial) put_same (fun p o q => ?_) (fun p hp => put_ne hp) rr⟩
          by_cases hp : p = a
          · subst hp; rw [put_same] at q; cases q; exact e2
          · rw [put_ne hp] at q; exact h.fz p o q
        | false =>
          obtain ⟨b, vs, e1, e2, rr⟩ := h.froz i l eb
          rw [ea] at e1; cases e1
          exact ⟨wd, .refl _, key vs wd (.refl _) rfl rfl rfl (.inr trivial) e2 h.fz (fun _ _ => rfl) rr⟩
      · cases e
theorem RWs.toDs {wd : Wd} {H : Hp} : ∀ {vs : List Vl} {xs : List V} {ys : List D} {S S1 : Sta} {wd : Wd}, HR g.K g.cls wd S H → RWs g.K wd vs xs → Ev.toDs vs S = some (ys, S1) → ∃ wd1, wd.Le wd1 ∧ HR g.K g.cls wd1 S1 H ∧ RDs g.K wd1 ys xs
  | [], xs, ys, S, S1, wd, h, r, e => by
    cases e
    have r' : xs = [] := r
    subst r'
    exact ⟨wd, .refl _, h, by simp [RDs]⟩
  | v :: vs, xs, ys, S, S1, wd, h, r, e => by
    obtain ⟨x, xr, rfl, r1, r2⟩ := r
    unfold Ev.toDs at e
    split at e
    · cases e
    · rename_i y S2 e1
      obtain ⟨wd1, l1, h1, q1⟩ := RW.toD h r1 e1
      split at e
      · cases e
      · rename_i zs S3 e2
        cases e
        obtain ⟨wd2, l2, h2, q2⟩ := RWs.toDs (wd := wd) h1 (RWs.mono l1 r2) e2
        exact ⟨wd2, l1.trans l2, h2, by simp only [RDs]; exact ⟨x, xr, rfl, RD.mono _ l2 _ _ q1, q2⟩⟩
@[simp] noncomputable def eTup (Ts : EVs) : EV := fun σ S => (Ts σ S).bind fun vs S1 => match toDs vs S1 with
  | some (l, S2) => if l.length ≤ sizeLine then .ok (.d (.tup l)) S2 else .bad
  | none => .bad
@[simp] noncomputable def eLst (Ts : EVs) : EV := fun σ S => (Ts σ S).bind fun vs S1 => match toDs vs S1 with
  | some (l, S2) => if l.length ≤ sizeLine then .ok (.new l) S2 else .bad
  | none => .bad
theorem je_tup {x1} (h : JA g es Ts) : JE g (.Tuple es x1 pos) (eTup Ts) := fun X hX W tk => (pe_tup (h X hX W tk)).imp fun σ H Q h => by
  obtain ⟨wd, σ', S, hs, hh, h⟩ := h
  refine ⟨wd, σ', S, hs, hh, ?_⟩
  have h1 := OkA_bindE h
  revert h1
  cases Ts σ' S with
  | ok v S1 =>
    intro h1 wd1 x H1 l hr rv
    obtain ⟨v', wd2, S2, l2, hr2, rw2, h2⟩ := h1 wd1 x H1 l hr rv
    split at h2
    · rename_i ys S3 e
      obtain ⟨wd3, l3, hr3, r3⟩ := RWs.toDs (wd := wd) hr2 rw2 e
      split at h2
      · rename_i hz
        refine ⟨by rw [← r3.length]; exact hz, fun p hp => ?_⟩
        obtain ⟨wd4, l4, hr4, r4⟩ := hr3.newTup hp r3
        exact h2 wd4 _ _ (l3.trans l4) hr4 r4
      · exact h2.elim
    · exact h2.elim
  | exc c fs S1 => intro h1; exact h1
  | bad => intro h1; exact h1
theorem je_lst (h : JA g es Ts) : JE g (.List es pos) (eLst Ts) := fun X hX W tk => (pe_lst (h X hX W tk)).imp fun σ H Q h => by
  obtain ⟨wd, σ', S, hs, hh, h⟩ := h
  refine ⟨wd, σ', S, hs, hh, ?_⟩
  have h1 := OkA_bindE h
  revert h1
  cases Ts σ' S with
  | ok v S1 =>
    intro h1 wd1 x H1 l hr rv
    obtain ⟨v', wd2, S2, l2, hr2, rw2, h2⟩ := h1 wd1 x H1 l hr rv
    split at h2
    · rename_i ys S3 e
      obtain ⟨wd3, l3, hr3, r3⟩ := RWs.toDs (wd := wd) hr2 rw2 e
      split at h2
      · rename_i hz
        refine ⟨by rw [← r3.length]; exact hz, fun p hp => ?_⟩
        obtain ⟨hr4, r4⟩ := hr3.newLst hp r3
        exact h2 wd3 _ _ l3 hr4 r4
      · exact h2.elim
    · exact h2.elim
  | exc c fs S1 => intro h1; exact h1
  | bad => intro h1; exact h1
end
end Ev

set_option Elab.async false
set_option linter.all false
set_option maxRecDepth 100000
set_option maxHeartbeats 1000000
/-! Ev3: operators by values. -/
namespace Ev
open PySem PySem.Spec PyProof.Rows L2
open Classical
section
variable {g : G}
/-! ### whole numbers, texts -/
def subF : Vl → Vl → Sta → Out Vl
  | .d (.int i), .d (.int j), S => .ok (.d (.int (i - j))) S
  | _, _, _ => .bad
noncomputable def mulF : Vl → Vl → Sta → Out Vl
  | .d (.int i), .d (.int j), S => if CMulW i j then .ok (.d (.int (i * j))) S else .bad
  | _, _, _ => .bad
noncomputable def modF : Vl → Vl → Sta → Out Vl
  | .d (.int i), .d (.int j), S => if 0 < j then .ok (.d (.int (i % j))) S else .bad
  | _, _, _ => .bad
noncomputable def divF : Vl → Vl → Sta → Out Vl
  | .d (.int i), .d (.int j), S => if CDivW i j then .ok (.d (.int (i / j))) S else .bad
  | _, _, _ => .bad
noncomputable def powF : Vl → Vl → Sta → Out Vl
  | .d (.int i), .d (.int j), S => if CPow i j then .ok (.d (.int (i ^ j.toNat))) S else .bad
  | _, _, _ => .bad
def ltF : Vl → Vl → Sta → Out Vl
  | .d (.int i), .d (.int j), S => .ok (.d (.bl (decide (i < j)))) S
  | _, _, _ => .bad
def leF : Vl → Vl → Sta → Out Vl
  | .d (.int i), .d (.int j), S => .ok (.d (.bl (decide (i ≤ j)))) S
  | _, _, _ => .bad
def gtF : Vl → Vl → Sta → Out Vl
  | .d (.int i), .d (.int j), S => .ok (.d (.bl (decide (j < i)))) S
  | _, _, _ => .bad
def geF : Vl → Vl → Sta → Out Vl
  | .d (.int i), .d (.int j), S => .ok (.d (.bl (decide (j ≤ i)))) S
  | _, _, _ => .bad
theorem rd_int {K wd i x} (h : RW K wd (.d (.int i)) x) : x = .int i := by simpa [RW, RD] using h
theorem rd_bl {K wd i x} (h : RW K wd (.d (.bl i)) x) : x = .bl i := by simpa [RW, RD] using h
theorem rd_str {K wd i x} (h : RW K wd (.d (.str i)) x) : x = .str i ∧ PyData.strOk i = true := by simpa [RW, RD] using h
theorem rd_non {K wd x} (h : RW K wd (.d .non) x) : x = .non := by simpa [RW, RD] using h
theorem rv_int {K wd H i} : RV K wd H (.d (.int i)) (.int i) := by simp [RV, RD]
theorem rv_bl {K wd H i} : RV K wd H (.d (.bl i)) (.bl i) := by simp [RV, RD]
theorem rv_non {K wd H} : RV K wd H (.d .non) .non := by simp [RV, RD]
theorem rv_str {K wd H i} (h : PyData.strOk i = true) : RV K wd H (.d (.str i)) (.str i) := by simp [RV, RD, h]
theorem opd_sub : OpD g (rI0 fun i j => .int (i - j)) subF := by
  intro W σ wd H S v u x y Q hh rv ru h
  unfold subF at h
  split at h
  · exact ⟨_, _, rd_int rv, rd_int ru, h wd _ H (.refl _) hh rv_int⟩
  · exact h.elim
theorem opd_mul : OpD g (rI CMulW fun i j => .int (i * j)) mulF := by
  intro W σ wd H S v u x y Q hh rv ru h
  unfold mulF at h
  split at h
  · split at h
    · rename_i c
      exact ⟨_, _, rd_int rv, rd_int ru, c, h wd _ H (.refl _) hh rv_int⟩
    · exact h.elim
  · exact h.elim
theorem opd_mod : OpD g (rI (fun _ j => 0 < j) fun i j => .int (i % j)) modF := by
  intro W σ wd H S v u x y Q hh rv ru h
  unfold modF at h
  split at h
  · split at h
    · rename_i c
      exact ⟨_, _, rd_int rv, rd_int ru, c, h wd _ H (.refl _) hh rv_int⟩
    · exact h.elim
  · exact h.elim
theorem opd_div : OpD g (rI CDivW fun i j => .int (i / j)) divF := by
  intro W σ wd H S v u x y Q hh rv ru h
  unfold divF at h
  split at h
  · split at h
    · rename_i c
      exact ⟨_, _, rd_int rv, rd_int ru, c, h wd _ H (.refl _) hh rv_int⟩
    · exact h.elim
  · exact h.elim
theorem opd_pow : OpD g (rI CPow fun i j => .int (i ^ j.toNat)) powF := by
  intro W σ wd H S v u x y Q hh rv ru h
  unfold powF at h
  split at h
  · split at h
    · rename_i c
      exact ⟨_, _, rd_int rv, rd_int ru, c, h wd _ H (.refl _) hh rv_int⟩
    · exact h.elim
  · exact h.elim
theorem opd_lt : OpD g (rI0 fun i j => .bl (decide (i < j))) ltF := by
  intro W σ wd H S v u x y Q hh rv ru h
  unfold ltF at h
  split at h
  · exact ⟨_, _, rd_int rv, rd_int ru, h wd _ H (.refl _) hh rv_bl⟩
  · exact h.elim
theorem opd_le : OpD g (rI0 fun i j => .bl (decide (i ≤ j))) leF := by
  intro W σ wd H S v u x y Q hh rv ru h
  unfold leF at h
  split at h
  · exact ⟨_, _, rd_int rv, rd_int ru, h wd _ H (.refl _) hh rv_bl⟩
  · exact h.elim
theorem opd_gt : OpD g (rI0 fun i j => .bl (decide (j < i))) gtF := by
  intro W σ wd H S v u x y Q hh rv ru h
  unfold gtF at h
  split at h
  · exact ⟨_, _, rd_int rv, rd_int ru, h wd _ H (.refl _) hh rv_bl⟩
  · exact h.elim
theorem opd_ge : OpD g (rI0 fun i j => .bl (decide (j ≤ i))) geF := by
  intro W σ wd H S v u x y Q hh rv ru h
  unfold geF at h
  split at h
  · exact ⟨_, _, rd_int rv, rd_int ru, h wd _ H (.refl _) hh rv_bl⟩
  · exact h.elim

/-! ### what a list or tuple holds -/
noncomputable def lstOf (v : Vl) (S : Sta) : Option (List D) := match v with
  | .d (.lst l) => some l
  | .new l => some l
  | .box i => match S.B[i]? with
    | some (_, l) => some l
    | none => none
  | _ => none
@[simp] theorem lstOf_lst (l : List D) (S : Sta) : lstOf (.d (.lst l)) S = some l := rfl
@[simp] theorem lstOf_new (l : List D) (S : Sta) : lstOf (.new l) S = some l := rfl
theorem lst_at {K cls wd H S v x l} (hh : HR K cls wd S H) (r : RW K wd v x) (e : lstOf v S = some l) : ∃ a vs, x = .ref a ∧ H a = some (.lst vs) ∧ RDs K wd l vs := by
  unfold lstOf at e
  split at e
  · cases e
    simp only [RW, RD] at r
    obtain ⟨a, vs, rfl, t, rr⟩ := r
    exact ⟨a, vs, rfl, hh.fz a _ t, rr⟩
  · exact r.elim
  · rename_i i
    obtain ⟨a, rfl, ea⟩ := r
    split at e
    · rename_i b l eb
      cases e
      cases b with
      | true =>
        obtain ⟨c, vs, e1, e2, _, rr⟩ := hh.live i _ eb
        rw [ea] at e1; cases e1
        exact ⟨a, vs, rfl, e2, rr⟩
      | false =>
        obtain ⟨c, vs, e1, e2, rr⟩ := hh.froz i _ eb
        rw [ea] at e1; cases e1
        exact ⟨a, vs, rfl, hh.fz a _ e2, rr⟩
    · cases e
  · cases e
/-- .. or the script -/
noncomputable def rdlOf (v : Vl) (S : Sta) : Option (List D) := match v with
  | .d (.scr l) => some l
  | v => lstOf v S
@[simp] theorem rdlOf_lst (l : List D) (S : Sta) : rdlOf (.d (.lst l)) S = some l := rfl
@[simp] theorem rdlOf_scr (l : List D) (S : Sta) : rdlOf (.d (.scr l)) S = some l := rfl
@[simp] theorem rdlOf_new (l : List D) (S : Sta) : rdlOf (.new l) S = some l := rfl
theorem rdl_at {K cls wd H S v x l} (hh : HR K cls wd S H) (r : RW K wd v x) (e : rdlOf v S = some l) : ∃ a vs, x = .ref a ∧ SqL K H a vs ∧ RDs K wd l vs := by
  unfold rdlOf at e
  split at e
  · cases e
    simp only [RW, RD] at r
    obtain ⟨a, vs, rfl, t, rr⟩ := r
    exact ⟨a, vs, rfl, t.sq hh, rr⟩
  · obtain ⟨a, vs, e1, e2, rr⟩ := lst_at hh r e
    exact ⟨a, vs, e1, .of e2, rr⟩
def tupOf : Vl → Option (List D)
  | .d (.tup l) => some l
  | _ => none
theorem tup_at {K cls wd H S v x l} (hh : HR K cls wd S H) (r : RW K wd v x) (e : tupOf v = some l) : ∃ a vs, x = .ref a ∧ SqT K H a vs ∧ RDs K wd l vs := by
  unfold tupOf at e
  split at e
  · cases e
    simp only [RW, RD] at r
    obtain ⟨a, vs, rfl, t, rr⟩ := r
    exact ⟨a, vs, rfl, t.sq hh, rr⟩
  · cases e
@[simp] theorem tupOf_tup (l : List D) : tupOf (.d (.tup l)) = some l := rfl

/-! ### + -/
noncomputable def addF (v u : Vl) (S : Sta) : Out Vl := match v with
  | .d (.int i) => match u with
    | .d (.int j) => .ok (.d (.int (i + j))) S
    | _ => .bad
  | .d (.str x) => match u with
    | .d (.str y) => if x.length + y.length ≤ sizeLine then .ok (.d (.str (x ++ y))) S else .bad
    | _ => .bad
  | .d (.tup l) => match u with
    | .d (.tup m) => if l.length + m.length ≤ sizeLine then .ok (.d (.tup (l ++ m))) S else .bad
    | _ => .bad
  | v => match lstOf v S with
    | some l => match lstOf u S with
      | some m => if l.length + m.length ≤ sizeLine then .ok (.new (l ++ m)) S else .bad
      | none => .bad
    | none => .bad
def rAddAll (K : PySem.W.Frag) : R2 := fun x y H Q => rI0 (fun i j => .int (i + j)) x y H Q ∨ (∃ i j, x = .str i ∧ y = .str j ∧ i.length + j.length ≤ sizeLine ∧ Q (.str (i ++ j)) H) ∨ rCatA K x y H Q ∨ rCat x y H Q
theorem or_add {X : Cx} : OpR X (binaryOp .Add) (rAddAll X.K) := op_add.or (op_add_str.or (op_catA.or op_cat))
theorem strOk_append {x y : Str} (h : PyData.strOk x = true) (k : PyData.strOk y = true) : PyData.strOk (x ++ y) = true := by
  have e : (x ++ y).cps = x.cps ++ y.cps := rfl
  unfold PyData.strOk at *
  rw [e, Array.all_append, h, k]; rfl
theorem opd_add : OpD g (rAddAll g.K) addF := by
  intro W σ wd H S v u x y Q hh rv ru h
  unfold addF at h
  split at h
  · split at h
    · exact .inl ⟨_, _, rd_int rv, rd_int ru, h wd _ H (.refl _) hh rv_int⟩
    · exact h.elim
  · split at h
    · split at h
      · rename_i c
        exact .inr (.inl ⟨_, _, (rd_str rv).1, (rd_str ru).1, c, h wd _ H (.refl _) hh (rv_str (strOk_append (rd_str rv).2 (rd_str ru).2))⟩)
      · exact h.elim
    · exact h.elim
  · rename_i l
    split at h
    · rename_i m
      split at h
      · rename_i c
        obtain ⟨a, vs, rfl, ht, rr⟩ := tup_at hh rv rfl
        obtain ⟨b, us, rfl, ht', rr'⟩ := tup_at hh ru rfl
        refine .inr (.inr (.inl ⟨a, b, vs, us, rfl, rfl, ht, ht', by rw [← rr.length, ← rr'.length]; exact c, fun z => ?_, fun _ z => ?_, fun _ _ p hp => ?_⟩))
        · have e : l = [] := by
            have := rr.length
            rw [z] at this
            exact List.length_eq_zero_iff.mp this
          subst e
          refine h wd _ H (.refl _) hh ?_
          rw [List.nil_append]; exact ru
        · have e : m = [] := by
            have := rr'.length
            rw [z] at this
            exact List.length_eq_zero_iff.mp this
          subst e
          refine h wd _ H (.refl _) hh ?_
          rw [List.append_nil]; exact rv
        · obtain ⟨wd1, l1, h1, r1⟩ := hh.newTup hp (rr.append rr')
          exact h wd1 _ _ l1 h1 r1
      · exact h.elim
    · exact h.elim
  · split at h
    · rename_i l e
      split at h
      · rename_i m e'
        split at h
        · rename_i c
          obtain ⟨a, vs, rfl, ht, rr⟩ := lst_at hh rv e
          obtain ⟨b, us, rfl, ht', rr'⟩ := lst_at hh ru e'
          refine .inr (.inr (.inr ⟨a, b, vs, us, rfl, rfl, ht, ht', by rw [← rr.length, ← rr'.length]; exact c, fun p hp => ?_⟩))
          obtain ⟨h1, r1⟩ := hh.newLst hp (rr.append rr')
          exact h wd _ _ (.refl _) h1 r1
        · exact h.elim
      · exact h.elim
    · exact h.elim

/-! ### == over data -/
mutual
def toPy : D → PyData
  | .non => .none
  | .bl b => .bool b
  | .int i => .int i
  | .str x => .str x
  | .tup l => .tuple (toPys l)
  | .lst l => .list (toPys l)
  | .scr l => .list (toPys l)
  | .obj _ => .none
  | .ty _ => .none
  | .cl _ => .none
def toPys : List D → List PyData
  | [] => []
  | x :: r => toPy x :: toPys r
end
/- plain data, nested to this depth -/
mutual
def okD : Nat → D → Bool
  | _, .non => true
  | _, .bl _ => true
  | _, .int _ => true
  | _, .str _ => true
  | 0, .tup _ => false
  | n + 1, .tup l => okDs n l
  | 0, .lst _ => false
  | n + 1, .lst l => okDs n l
  | 0, .scr _ => false
  | n + 1, .scr l => okDs n l
  | _, .obj _ => false
  | _, .ty _ => false
  | _, .cl _ => false
def okDs : Nat → List D → Bool
  | _, [] => true
  | n, x :: r => okD n x && okDs n r
end
theorem okDs_iff {n : Nat} : ∀ {l : List D}, okDs n l = true ↔ ∀ x ∈ l, okD n x = true
  | [] => by simp [okDs]
  | x :: r => by simp [okDs, okDs_iff (l := r)]
mutual
theorem okD_depth : ∀ (n : Nat) (x : D), okD n x = true → (toPy x).depth ≤ n
  | _, .non, _ => by simp [toPy, PyData.depth]
  | _, .bl _, _ => by simp [toPy, PyData.depth]
  | _, .int _, _ => by simp [toPy, PyData.depth]
  | _, .str _, _ => by simp [toPy, PyData.depth]
  | 0, .tup _, h => by simp [okD] at h
  | n + 1, .tup l, h => by
    have := okDs_depth n l (by simpa [okD] using h)
    simp only [toPy, PyData.depth]; omega
  | 0, .lst _, h => by simp [okD] at h
  | n + 1, .lst l, h => by
    have := okDs_depth n l (by simpa [okD] using h)
    simp only [toPy, PyData.depth]; omega
  | 0, .scr _, h => by simp [okD] at h
  | n + 1, .scr l, h => by
    have := okDs_depth n l (by simpa [okD] using h)
    simp only [toPy, PyData.depth]; omega
  | _, .obj _, h => by simp [okD] at h
  | _, .ty _, h => by simp [okD] at h
  | _, .cl _, h => by simp [okD] at h
theorem okDs_depth : ∀ (n : Nat) (l : List D), okDs n l = true → PyData.depthAll (toPys l) ≤ n
  | _, [], _ => by simp [toPys, PyData.depthAll]
  | n, x :: r, h => by
    simp only [okDs, Bool.and_eq_true] at h
    have h1 := okD_depth n x h.1
    have h2 := okDs_depth n r h.2
    simp only [toPys, PyData.depthAll]; omega
end
mutual
theorem RD.py {K : PySem.W.Frag} {cls : String → Addr} {wd : Wd} {H : Hp} {S : Sta} (hh : HR K cls wd S H) : ∀ (n : Nat) (x : D) (v : V), okD n x = true → RD K wd x v → Dp K H v (toPy x) ∧ (toPy x).canLay0 = true
  | _, .non, v, _, r => by
    have e : v = .non := by simpa [RD] using r
    subst e; exact ⟨.non, rfl⟩
  | _, .bl b, v, _, r => by
    have e : v = .bl b := by simpa [RD] using r
    subst e; exact ⟨.bl b, rfl⟩
  | _, .int b, v, _, r => by
    have e : v = .int b := by simpa [RD] using r
    subst e; exact ⟨.int b, rfl⟩
  | _, .str b, v, _, r => by
    have e : v = .str b ∧ PyData.strOk b = true := by simpa [RD] using r
    obtain ⟨e, e2⟩ := e
    subst e; exact ⟨.str b, by simpa [toPy, PyData.canLay0] using e2⟩
  | 0, .tup _, _, h, _ => by simp [okD] at h
  | n + 1, .tup l, v, h, r => by
    simp only [RD] at r
    obtain ⟨a, vs, rfl, t, rr⟩ := r
    obtain ⟨d, c⟩ := RDs.py hh n l vs (by simpa [okD] using h) rr
    exact ⟨.tup (t.sq hh) d, by simpa [toPy, PyData.canLay0] using c⟩
  | 0, .lst _, _, h, _ => by simp [okD] at h
  | n + 1, .lst l, v, h, r => by
    simp only [RD] at r
    obtain ⟨a, vs, rfl, t, rr⟩ := r
    obtain ⟨d, c⟩ := RDs.py hh n l vs (by simpa [okD] using h) rr
    exact ⟨.lst (t.sq hh) d, by simpa [toPy, PyData.canLay0] using c⟩
  | 0, .scr _, _, h, _ => by simp [okD] at h
  | n + 1, .scr l, v, h, r => by
    simp only [RD] at r
    obtain ⟨a, vs, rfl, t, rr⟩ := r
    obtain ⟨d, c⟩ := RDs.py hh n l vs (by simpa [okD] using h) rr
    exact ⟨.lst (t.sq hh) d, by simpa [toPy, PyData.canLay0] using c⟩
  | _, .obj _, _, h, _ => by simp [okD] at h
  | _, .ty _, _, h, _ => by simp [okD] at h
  | _, .cl _, _, h, _ => by simp [okD] at h
theorem RDs.py {K : PySem.W.Frag} {cls : String → Addr} {wd : Wd} {H : Hp} {S : Sta} (hh : HR K cls wd S H) : ∀ (n : Nat) (l : List D) (vs : List V), okDs n l = true → RDs K wd l vs → DpAll K H vs (toPys l) ∧ PyData.canLayAll0 (toPys l) = true
  | _, [], vs, _, r => by
    have e : vs = [] := by simpa [RDs] using r
    subst e; exact ⟨.nil, rfl⟩
  | n, x :: l, vs, h, r => by
    simp only [RDs] at r
    obtain ⟨v, vr, rfl, r1, r2⟩ := r
    simp only [okDs, Bool.and_eq_true] at h
    obtain ⟨d1, c1⟩ := RD.py hh n x v h.1 r1
    obtain ⟨d2, c2⟩ := RDs.py hh n l vr h.2 r2
    exact ⟨.cons d1 d2, by simp [toPys, PyData.canLayAll0, c1, c2]⟩
end
/-- what data there is to compare -/
noncomputable def datOf (v : Vl) (S : Sta) : Option D := match v with
  | .d x => some x
  | v => match lstOf v S with
    | some l => some (.lst l)
    | none => none
@[simp] theorem datOf_d (x : D) (S : Sta) : datOf (.d x) S = some x := rfl
@[simp] theorem datOf_new (l : List D) (S : Sta) : datOf (.new l) S = some (.lst l) := rfl
theorem dat_py {K cls wd H S v x d} (hh : HR K cls wd S H) (r : RW K wd v x) (e : datOf v S = some d) {n : Nat} (h : okD n d = true) (hn : n ≤ 64) : Dp K H x (toPy d) ∧ SeqAt.shaped (toPy d) = true := by
  have key : Dp K H x (toPy d) ∧ (toPy d).canLay0 = true := by
    unfold datOf at e
    split at e
    · cases e; exact RD.py hh n d x h r
    · split at e
      · rename_i l e2
        cases e
        obtain ⟨a, vs, rfl, t, rr⟩ := lst_at hh r e2
        cases n with
        | zero => simp [okD] at h
        | succ n =>
          obtain ⟨d, c⟩ := RDs.py hh n l vs (by simpa [okD] using h) rr
          exact ⟨.lst (.of t) d, by simpa [toPy, PyData.canLay0] using c⟩
      · cases e
  refine ⟨key.1, ?_⟩
  have := okD_depth n d h
  simp [SeqAt.shaped, key.2]; omega
def eqD (a b : D) : Bool := PyData.eqv (toPy a) (toPy b)
noncomputable def eqF (v u : Vl) (S : Sta) : Out Vl := match datOf v S, datOf u S with
  | some a, some b => if okD 60 a = true ∧ okD 60 b = true then .ok (.d (.bl (eqD a b))) S else .bad
  | _, _ => .bad
noncomputable def neF (v u : Vl) (S : Sta) : Out Vl := match datOf v S, datOf u S with
  | some a, some b => if okD 60 a = true ∧ okD 60 b = true then .ok (.d (.bl (!eqD a b))) S else .bad
  | _, _ => .bad
theorem opd_eq : OpD g (rEqD g.K) eqF := by
  intro W σ wd H S v u x y Q hh rv ru h
  unfold eqF at h
  split at h
  · rename_i a b e1 e2
    split at h
    · rename_i c
      obtain ⟨d1, s1⟩ := dat_py hh rv e1 c.1 (by decide)
      obtain ⟨d2, s2⟩ := dat_py hh ru e2 c.2 (by decide)
      exact ⟨_, _, d1, d2, s1, s2, h wd _ H (.refl _) hh rv_bl⟩
    · exact h.elim
  · exact h.elim
theorem opd_ne : OpD g (rNeD g.K) neF := by
  intro W σ wd H S v u x y Q hh rv ru h
  unfold neF at h
  split at h
  · rename_i a b e1 e2
    split at h
    · rename_i c
      obtain ⟨d1, s1⟩ := dat_py hh rv e1 c.1 (by decide)
      obtain ⟨d2, s2⟩ := dat_py hh ru e2 c.2 (by decide)
      exact ⟨_, _, d1, d2, s1, s2, h wd _ H (.refl _) hh rv_bl⟩
    · exact h.elim
  · exact h.elim

/-! ### in -/
def flatD : D → Bool
  | .non => true
  | .bl _ => true
  | .int _ => true
  | .str _ => true
  | _ => false
def inD (x : D) (l : List D) : Bool := l.any fun y => eqD y x
theorem flat_v {K wd x v} (h : flatD x = true) (r : RD K wd x v) : flatV v = true ∧ ∀ y u, flatD y = true → RD K wd y u → L2.eqV u v = eqD y x := by
  cases x with
  | non =>
    simp only [RD] at r; subst r
    refine ⟨rfl, fun y u hy ru => ?_⟩
    cases y <;> first | (simp [flatD] at hy; done) | (simp only [RD] at ru; first | (obtain ⟨ru, _⟩ := ru; subst ru; simp [L2.eqV, eqD, toPy, PyData.eqv]) | (subst ru; simp [L2.eqV, eqD, toPy, PyData.eqv]))
  | bl b =>
    simp only [RD] at r; subst r
    refine ⟨rfl, fun y u hy ru => ?_⟩
    cases y <;> first | (simp [flatD] at hy; done) | (simp only [RD] at ru; first | (obtain ⟨ru, _⟩ := ru; subst ru; simp [L2.eqV, eqD, toPy, PyData.eqv]) | (subst ru; simp [L2.eqV, eqD, toPy, PyData.eqv]))
  | int i =>
    simp only [RD] at r; subst r
    refine ⟨rfl, fun y u hy ru => ?_⟩
    cases y <;> first | (simp [flatD] at hy; done) | (simp only [RD] at ru; first | (obtain ⟨ru, _⟩ := ru; subst ru; simp [L2.eqV, eqD, toPy, PyData.eqv]) | (subst ru; simp [L2.eqV, eqD, toPy, PyData.eqv]))
  | str i =>
    simp only [RD] at r
    obtain ⟨r, _⟩ := r
    subst r
    refine ⟨rfl, fun y u hy ru => ?_⟩
    cases y <;> first | (simp [flatD] at hy; done) | (simp only [RD] at ru; first | (obtain ⟨ru, _⟩ := ru; subst ru; simp [L2.eqV, eqD, toPy, PyData.eqv]) | (subst ru; simp [L2.eqV, eqD, toPy, PyData.eqv]))
  | _ => simp [flatD] at h
theorem flats_v {K wd x v} (h : flatD x = true) (r : RD K wd x v) : ∀ {l : List D} {vs : List V}, l.all flatD = true → RDs K wd l vs → vs.all flatV = true ∧ inV v vs = inD x l
  | [], vs, _, rr => by
    simp only [RDs] at rr; subst rr; exact ⟨rfl, rfl⟩
  | y :: l, vs, hl, rr => by
    simp only [RDs] at rr
    obtain ⟨u, vr, rfl, r1, r2⟩ := rr
    simp only [List.all_cons, Bool.and_eq_true] at hl
    obtain ⟨i1, i2⟩ := flats_v h r hl.2 r2
    refine ⟨by simp [(flat_v hl.1 r1).1, i1], ?_⟩
    unfold inV at i2 ⊢
    unfold inD at i2 ⊢
    simp only [List.any_cons]
    rw [(flat_v h r).2 y u hl.1 r1, i2]
/-- is it in: a sign in a text, flat data in a list or a tuple -/
noncomputable def inB (v u : Vl) (S : Sta) : Option Bool := match v with
  | .d x => match u with
    | .d (.str z) => match x with
      | .str y => if y.cps.size = 1 then some (decide (y.cps[0]! ∈ z.cps.toList)) else none
      | _ => none
    | .d (.tup l) => if flatD x = true ∧ l.all flatD = true then some (inD x l) else none
    | u => match rdlOf u S with
      | some l => if flatD x = true ∧ l.all flatD = true then some (inD x l) else none
      | none => none
  | _ => none
noncomputable def inF (v u : Vl) (S : Sta) : Out Vl := match inB v u S with
  | some b => .ok (.d (.bl b)) S
  | none => .bad
noncomputable def notInF (v u : Vl) (S : Sta) : Out Vl := match inB v u S with
  | some b => .ok (.d (.bl (!b))) S
  | none => .bad
def rInAll (K : PySem.W.Frag) (neg : Bool) : R2 := fun x y H Q => (∃ (c : Nat) (z : Str), x = .str ⟨#[c]⟩ ∧ y = .str z ∧ Q (.bl (if neg = true then !decide (c ∈ z.cps.toList) else decide (c ∈ z.cps.toList))) H) ∨ rIn K neg x y H Q
theorem or_in {X : Cx} : OpR X (compareOp .In) (rInAll X.K false) := op_in_sign.or op_in_seq
theorem or_notIn {X : Cx} : OpR X (compareOp .NotIn) (rInAll X.K true) := op_notIn_sign.or op_notIn_seq
theorem one_sign {y : Str} (h : y.cps.size = 1) : y = ⟨#[y.cps[0]!]⟩ := by
  obtain ⟨⟨l⟩⟩ := y
  match l, h with
  | [c], _ => rfl
theorem in_read {neg : Bool} {W : WX} {σ : St} {wd H S v u x y Q b} (hh : HR g.K g.cls wd S H) (rv : RW g.K wd v x) (ru : RW g.K wd u y) (e : inB v u S = some b) (h : OkE g.K g.cls W σ wd Q (.ok (.d (.bl (if neg = true then !b else b))) S)) : rInAll g.K neg x y H Q := by
  have hQ : Q (.bl (if neg = true then !b else b)) H := h wd _ H (.refl _) hh rv_bl
  unfold inB at e
  split at e
  · rename_i x0
    split at e
    · rename_i z
      split at e
      · rename_i y0
        split at e
        · rename_i c
          cases e
          have e1 := rd_str rv
          have e2 := rd_str ru
          refine .inl ⟨y0.cps[0]!, z, ?_, e2.1, hQ⟩
          rw [e1.1]; exact congrArg V.str (one_sign c)
        · cases e
      · cases e
    · rename_i l
      split at e
      · rename_i c
        cases e
        obtain ⟨a, vs, rfl, t, rr⟩ := tup_at hh ru rfl
        obtain ⟨f1, f2⟩ := flats_v c.1 rv c.2 rr
        exact .inr ⟨a, vs, rfl, .inr t, (flat_v c.1 rv).1, f1, by rw [f2]; exact hQ⟩
      · cases e
    · split at e
      · rename_i l el
        split at e
        · rename_i c
          cases e
          obtain ⟨a, vs, rfl, t, rr⟩ := rdl_at hh ru el
          obtain ⟨f1, f2⟩ := flats_v c.1 rv c.2 rr
          exact .inr ⟨a, vs, rfl, .inl t, (flat_v c.1 rv).1, f1, by rw [f2]; exact hQ⟩
        · cases e
      · cases e
  · cases e
theorem opd_in : OpD g (rInAll g.K false) inF := by
  intro W σ wd H S v u x y Q hh rv ru h
  unfold inF at h
  split at h
  · rename_i b e
    exact in_read (neg := false) (W := W) (σ := σ) hh rv ru e h
  · exact h.elim
theorem opd_notIn : OpD g (rInAll g.K true) notInF := by
  intro W σ wd H S v u x y Q hh rv ru h
  unfold notInF at h
  split at h
  · rename_i b e
    exact in_read (neg := true) (W := W) (σ := σ) hh rv ru e h
  · exact h.elim
/-! ### is None -/
def isNon : D → Bool
  | .non => true
  | _ => false
def isNF : Vl → Vl → Sta → Out Vl
  | .d x, .d .non, S => .ok (.d (.bl (isNon x))) S
  | .box _, .d .non, S => .ok (.d (.bl false)) S
  | _, _, _ => .bad
def notNF : Vl → Vl → Sta → Out Vl
  | .d x, .d .non, S => .ok (.d (.bl (!isNon x))) S
  | .box _, .d .non, S => .ok (.d (.bl true)) S
  | _, _, _ => .bad
theorem non_iff {K wd x v} (r : RD K wd x v) : decide (v = .non) = isNon x := by
  cases x <;> simp only [RD] at r <;> first | (subst r; rfl) | (obtain ⟨e, _⟩ := r; subst e; rfl) | (obtain ⟨a, b, e, _⟩ := r; subst e; rfl) | (obtain ⟨a, e, _⟩ := r; subst e; rfl)
theorem opd_isN : OpD g (fun x y H Q => y = .non ∧ Q (.bl (decide (x = .non))) H) isNF := by
  intro W σ wd H S v u x y Q hh rv ru h
  unfold isNF at h
  split at h
  · exact ⟨rd_non ru, by rw [non_iff rv]; exact h wd _ H (.refl _) hh rv_bl⟩
  · obtain ⟨a, rfl, _⟩ := rv
    exact ⟨rd_non ru, h wd _ H (.refl _) hh rv_bl⟩
  · exact h.elim
theorem opd_notN : OpD g (fun x y H Q => y = .non ∧ Q (.bl (!decide (x = .non))) H) notNF := by
  intro W σ wd H S v u x y Q hh rv ru h
  unfold notNF at h
  split at h
  · rename_i x0
    refine ⟨rd_non ru, ?_⟩
    rw [non_iff rv]
    exact h wd _ H (.refl _) hh rv_bl
  · obtain ⟨a, rfl, _⟩ := rv
    exact ⟨rd_non ru, h wd _ H (.refl _) hh rv_bl⟩
  · exact h.elim

/-! ### the judgements -/
variable {a b e : Expr} {Ta Tb T : EV} {pos : Pos}
theorem je_add (ha : JE g a Ta) (hb : JE g b Tb) : JE g (.BinOp a .Add b pos) (eBin addF Ta Tb) := je_bin (fun X hX => hX.K ▸ or_add) opd_add ha hb
theorem je_sub (ha : JE g a Ta) (hb : JE g b Tb) : JE g (.BinOp a .Sub b pos) (eBin subF Ta Tb) := je_bin (fun X hX => op_sub) opd_sub ha hb
theorem je_mul (ha : JE g a Ta) (hb : JE g b Tb) : JE g (.BinOp a .Mult b pos) (eBin mulF Ta Tb) := je_bin (fun X hX => op_mulW) opd_mul ha hb
theorem je_mod (ha : JE g a Ta) (hb : JE g b Tb) : JE g (.BinOp a .Mod b pos) (eBin modF Ta Tb) := je_bin (fun X hX => op_mod) opd_mod ha hb
theorem je_div (ha : JE g a Ta) (hb : JE g b Tb) : JE g (.BinOp a .FloorDiv b pos) (eBin divF Ta Tb) := je_bin (fun X hX => op_fdivW) opd_div ha hb
theorem je_pow (ha : JE g a Ta) (hb : JE g b Tb) : JE g (.BinOp a .Pow b pos) (eBin powF Ta Tb) := je_bin (fun X hX => op_pow) opd_pow ha hb
theorem je_lt (ha : JE g a Ta) (hb : JE g b Tb) : JE g (.Compare a [.Lt] [b] pos) (eBin ltF Ta Tb) := je_cmp (fun X hX => op_lt) opd_lt ha hb
theorem je_le (ha : JE g a Ta) (hb : JE g b Tb) : JE g (.Compare a [.LtE] [b] pos) (eBin leF Ta Tb) := je_cmp (fun X hX => op_le) opd_le ha hb
theorem je_gt (ha : JE g a Ta) (hb : JE g b Tb) : JE g (.Compare a [.Gt] [b] pos) (eBin gtF Ta Tb) := je_cmp (fun X hX => op_gt) opd_gt ha hb
theorem je_ge (ha : JE g a Ta) (hb : JE g b Tb) : JE g (.Compare a [.GtE] [b] pos) (eBin geF Ta Tb) := je_cmp (fun X hX => op_ge) opd_ge ha hb
theorem je_eq (ha : JE g a Ta) (hb : JE g b Tb) : JE g (.Compare a [.Eq] [b] pos) (eBin eqF Ta Tb) := je_cmp (fun X hX => hX.K ▸ op_eqD hX.room.units) opd_eq ha hb
theorem je_ne (ha : JE g a Ta) (hb : JE g b Tb) : JE g (.Compare a [.NotEq] [b] pos) (eBin neF Ta Tb) := je_cmp (fun X hX => hX.K ▸ op_neD hX.room.units) opd_ne ha hb
theorem je_in (ha : JE g a Ta) (hb : JE g b Tb) (hm : behindInMarks .In b = false := by rfl) : JE g (.Compare a [.In] [b] pos) (eBin inF Ta Tb) := je_cmp (fun X hX => hX.K ▸ or_in) opd_in ha hb hm
theorem je_notIn (ha : JE g a Ta) (hb : JE g b Tb) (hm : behindInMarks .NotIn b = false := by rfl) : JE g (.Compare a [.NotIn] [b] pos) (eBin notInF Ta Tb) := je_cmp (fun X hX => hX.K ▸ or_notIn) opd_notIn ha hb hm
theorem je_isN {j p} (ha : JE g a Ta) : JE g (.Compare a [.Is] [.Constant .none j p] pos) (eBin isNF Ta (eC .non)) := je_cmp (fun X hX => op_isN) opd_isN ha je_non
theorem je_notN {j p} (ha : JE g a Ta) : JE g (.Compare a [.IsNot] [.Constant .none j p] pos) (eBin notNF Ta (eC .non)) := je_cmp (fun X hX => op_notN) opd_notN ha je_non
theorem jt_lt (ha : JE g a Ta) (hb : JE g b Tb) : JT g (.Compare a [.Lt] [b] pos) (tOf (eBin ltF Ta Tb)) := jt_cmp (fun X hX => op_lt) opd_lt ha hb
theorem jt_le (ha : JE g a Ta) (hb : JE g b Tb) : JT g (.Compare a [.LtE] [b] pos) (tOf (eBin leF Ta Tb)) := jt_cmp (fun X hX => op_le) opd_le ha hb
theorem jt_gt (ha : JE g a Ta) (hb : JE g b Tb) : JT g (.Compare a [.Gt] [b] pos) (tOf (eBin gtF Ta Tb)) := jt_cmp (fun X hX => op_gt) opd_gt ha hb
theorem jt_ge (ha : JE g a Ta) (hb : JE g b Tb) : JT g (.Compare a [.GtE] [b] pos) (tOf (eBin geF Ta Tb)) := jt_cmp (fun X hX => op_ge) opd_ge ha hb
theorem jt_eq (ha : JE g a Ta) (hb : JE g b Tb) : JT g (.Compare a [.Eq] [b] pos) (tOf (eBin eqF Ta Tb)) := jt_cmp (fun X hX => hX.K ▸ op_eqD hX.room.units) opd_eq ha hb
theorem jt_ne (ha : JE g a Ta) (hb : JE g b Tb) : JT g (.Compare a [.NotEq] [b] pos) (tOf (eBin neF Ta Tb)) := jt_cmp (fun X hX => hX.K ▸ op_neD hX.room.units) opd_ne ha hb
theorem jt_in (ha : JE g a Ta) (hb : JE g b Tb) (hm : behindInMarks .In b = false := by rfl) : JT g (.Compare a [.In] [b] pos) (tOf (eBin inF Ta Tb)) := jt_cmp (fun X hX => hX.K ▸ or_in) opd_in ha hb hm
theorem jt_notIn (ha : JE g a Ta) (hb : JE g b Tb) (hm : behindInMarks .NotIn b = false := by rfl) : JT g (.Compare a [.NotIn] [b] pos) (tOf (eBin notInF Ta Tb)) := jt_cmp (fun X hX => hX.K ▸ or_notIn) opd_notIn ha hb hm
theorem jt_isN {j p} (ha : JE g a Ta) : JT g (.Compare a [.Is] [.Constant .none j p] pos) (tOf (eBin isNF Ta (eC .non))) := jt_cmp (fun X hX => op_isN) opd_isN ha je_non
theorem jt_notN {j p} (ha : JE g a Ta) : JT g (.Compare a [.IsNot] [.Constant .none j p] pos) (tOf (eBin notNF Ta (eC .non))) := jt_cmp (fun X hX => op_notN) opd_notN ha je_non
/-- -n -/
def negF : Vl → Sta → Out Vl
  | .d (.int i), S => .ok (.d (.int (-i))) S
  | _, _ => .bad
@[simp] noncomputable def eUn (f : Vl → Sta → Out Vl) (T : EV) : EV := fun σ S => (T σ S).bind fun v S1 => f (frz v) S1
theorem un_read {r : V → Hp → VK → Prop} {f : Vl → Sta → Out Vl} (hf : ∀ (W : WX) (σ : St) (wd : Wd) (H : Hp) (S : Sta) (v : Vl) (x : V) (Q : VK), HR g.K g.cls wd S H → RW g.K wd v x → OkE g.K g.cls W σ wd Q (f v S) → r x H Q)
    {W : WX} {σ : St} {H : Hp} {Q : VK} (h : LE g.K g.cls W (eUn f T) σ H Q) : LE g.K g.cls W T σ H (fun x H1 => r x H1 Q) := by
  obtain ⟨wd, σ', S, hs, hh, h⟩ := h
  refine ⟨wd, σ', S, hs, hh, ?_⟩
  have h1 := OkE_opd (F := f) h
  revert h1
  cases T σ' S with
  | ok v S1 =>
    intro h1 wd1 x H1 l hr rv
    obtain ⟨v', wd2, S2, l2, hr2, rw2, h2⟩ := h1 wd1 x H1 l hr rv
    exact hf W σ wd2 H1 S2 v' x Q hr2 rw2 h2
  | exc c fs S1 => intro h1; exact h1
  | bad => intro h1; exact h1
theorem je_neg (ha : JE g a Ta) : JE g (.UnaryOp .USub a pos) (eUn negF Ta) := fun X hX W tk => (pe_un un_neg (ha X hX W tk)).imp fun σ H Q h => un_read (fun W σ wd H S v x Q hh rv h => by
  unfold negF at h
  split at h
  · exact ⟨_, rd_int rv, h wd _ H (.refl _) hh rv_int⟩
  · exact h.elim) h
end
end Ev

set_option Elab.async false
set_option linter.all false
set_option maxRecDepth 100000
set_option maxHeartbeats 1000000
/-! Ev4: items, slices, built-in calls and methods, fields, calls of own defs. -/
namespace Ev
open PySem PySem.Spec PyProof.Rows L2
open Classical
section
variable {g : G} {pos : Pos} {a b e : Expr} {Ta Tb T : EV} {es : List Expr} {Ts : EVs}
/-! ### items -/
theorem RDs.at' {K wd} {xs : List D} {vs : List V} (h : RDs K wd xs vs) {i : Int} {x : D} (e : atI xs i = some x) : ∃ v, atI vs i = some v ∧ RD K wd x v := by
  unfold atI at e ⊢
  rw [h.length] at e
  cases q : ixN vs.length i with
  | none => rw [q] at e; cases e
  | some j =>
    rw [q] at e
    exact h.get' e
noncomputable def ixF (v u : Vl) (S : Sta) : Out Vl := match u with
  | .d (.int i) => match v with
    | .d (.str z) => if z.length ≤ sizeLine then match atI z.cps.toList i with
      | some c => .ok (.d (.str ⟨#[c]⟩)) S
      | none => .bad else .bad
    | .d (.tup l) => match atI l i with
      | some x => .ok (.d x) S
      | none => .bad
    | v => match rdlOf v S with
      | some l => match atI l i with
        | some x => .ok (.d x) S
        | none => .bad
      | none => .bad
  | _ => .bad
theorem atI_mem {α : Type} {l : List α} {i : Int} {x : α} (h : atI l i = some x) : x ∈ l := by
  obtain ⟨j, _, e, _⟩ := atI_get h
  exact List.mem_of_getElem? e
theorem strOk_iff {x : Str} : PyData.strOk x = true ↔ ∀ c ∈ x.cps.toList, c < 0x110000 := by
  unfold PyData.strOk
  rw [Array.all_eq_true]
  constructor
  · intro h c hc
    obtain ⟨i, hi, e⟩ := List.getElem_of_mem hc
    have := h i (by simpa using hi)
    simp at this e
    rw [e] at this
    exact this
  · intro h i hi
    have := h x.cps[i] (by simp)
    simpa using this
theorem opd_ix : OpD g (rIx g.K) ixF := by
  intro W σ wd H S v u x y Q hh rv ru h
  unfold ixF at h
  split at h
  · split at h
    · split at h
      · rename_i c
        split at h
        · rename_i z _ ch e
          refine .inr (.inr ⟨_, _, _, (rd_str rv).1, rd_int ru, c, e, h wd _ H (.refl _) hh (rv_str ?_)⟩)
          refine strOk_iff.mpr fun c hc => ?_
          have hc : c = ch := by simpa using hc
          subst hc
          exact strOk_iff.mp (rd_str rv).2 _ (atI_mem e)
        · exact h.elim
      · exact h.elim
    · split at h
      · rename_i e
        obtain ⟨a, vs, rfl, t, rr⟩ := tup_at hh rv rfl
        obtain ⟨w, ew, rw'⟩ := rr.at' e
        exact .inr (.inl ⟨a, vs, _, w, rfl, rd_int ru, t, ew, h wd _ H (.refl _) hh rw'⟩)
      · exact h.elim
    · split at h
      · rename_i l el
        split at h
        · rename_i e
          obtain ⟨a, vs, rfl, t, rr⟩ := rdl_at hh rv el
          obtain ⟨w, ew, rw'⟩ := rr.at' e
          exact .inl ⟨a, vs, _, w, rfl, rd_int ru, t, ew, h wd _ H (.refl _) hh rw'⟩
        · exact h.elim
      · exact h.elim
  · exact h.elim
theorem je_ix (ha : JE g a Ta) (hb : JE g b Tb) (hs : PlainIx b := by intro _ _; rfl) : JE g (.Subscript a b pos) (eBin ixF Ta Tb) := fun X hX W tk =>
  (pe_ix (hX.K ▸ ix_seq) (ha X hX W tk) (hb X hX W tk) hs).imp fun σ H Q h => bin_read opd_ix h
/-! ### slices -/
abbrev OV := Sl → Sta → Out (Option Int)
@[simp] def oNone : OV := fun _ S => .ok none S
@[simp] noncomputable def oSome (T : EV) : OV := fun σ S => (T σ S).bind fun v S1 => match v with
  | .d (.int i) => .ok (some i) S1
  | _ => .bad
def OkO (K : PySem.W.Frag) (cls : String → Addr) (W : WX) (σ : St) (wd : Wd) (Q : Option Int → Hp → Prop) : Out (Option Int) → Prop
  | .ok b S1 => ∀ wd1 H1, wd.Le wd1 → HR K cls wd1 S1 H1 → Q b H1
  | .exc c fs S1 => ∀ wd1 H1 cv d, wd.Le wd1 → HR K cls wd1 S1 H1 → XR K cls wd1 H1 c fs cv d → W cv d σ H1
  | .bad => False
def LO (K : PySem.W.Frag) (cls : String → Addr) (W : WX) (T : OV) : TO := fun σ H Q => ∃ wd σ' S, SR K wd σ' σ ∧ HR K cls wd S H ∧ OkO K cls W σ wd Q (T σ' S)
def JO (g : G) (e : Option Expr) (T : OV) : Prop := ∀ X, Good g X → ∀ W, Takes X W → L2.PO X e (LO g.K g.cls W T)
theorem _root_.L2.PO.imp {X : Cx} {e : Option Expr} {t t' : TO} (h : L2.PO X e t) (i : ∀ σ H Q, t' σ H Q → t σ H Q) : L2.PO X e t' := ⟨fun pins s σ H Q I q => h.run pins s σ H Q I (i σ H Q q)⟩
theorem jo_none : JO g none oNone := fun X hX W tk => (po_none (X := X)).imp fun σ H Q h => by
  obtain ⟨wd, σ', S, hs, hh, h⟩ := h
  exact h wd H (.refl _) hh
theorem jo_some (h : JE g e T) : JO g (some e) (oSome T) := fun X hX W tk => (po_some (h X hX W tk)).imp fun σ H Q h => by
  obtain ⟨wd, σ', S, hs, hh, h⟩ := h
  refine ⟨wd, σ', S, hs, hh, ?_⟩
  revert h
  unfold oSome
  cases T σ' S with
  | ok v S1 =>
    intro h wd1 x H1 l hr rv
    dsimp only [Out.bind] at h
    split at h
    · rename_i i
      have e : x = .int i := by simpa [RV, RD] using rv
      exact ⟨i, e, h wd1 H1 l hr⟩
    · exact h.elim
  | exc c fs S1 => intro h; exact h
  | bad => intro h; exact h
def cut {α : Type} (xs : List α) (lo hi : Option Int) : List α := (xs.drop (HT.sIx xs.length 0 lo)).take (HT.sIx xs.length xs.length hi - HT.sIx xs.length 0 lo)
theorem RDs.cut {K wd} {xs : List D} {vs : List V} (h : RDs K wd xs vs) (lo hi) : RDs K wd (cut xs lo hi) (cutV vs lo hi) := by
  unfold Ev.cut cutV
  rw [h.length]
  exact (h.drop _).take _
noncomputable def slF (v : Vl) (lo hi : Option Int) (S : Sta) : Out Vl := match v with
  | .d (.str z) => if z.length ≤ sizeLine then .ok (.d (.str (cutS z lo hi))) S else .bad
  | .d (.tup l) => .ok (.d (.tup (cut l lo hi))) S
  | v => match rdlOf v S with
    | some l => .ok (.new (cut l lo hi)) S
    | none => .bad
def rSlAll (K : PySem.W.Frag) : V → Option Int → Option Int → Hp → VK → Prop := fun x lo hi H Q => rSlS x lo hi H Q ∨ rSlA K x lo hi H Q ∨ rSlL K x lo hi H Q
theorem sl_all {X : Cx} : SlR X (rSlAll X.K) := sl_str.or (sl_tupA.or sl_list)
theorem sl_read {W : WX} {σ : St} {wd H S v x lo hi Q} (hh : HR g.K g.cls wd S H) (rv : RW g.K wd v x) (h : OkE g.K g.cls W σ wd Q (slF v lo hi S)) : rSlAll g.K x lo hi H Q := by
  unfold slF at h
  split at h
  · split at h
    · rename_i z c
      refine .inl ⟨_, (rd_str rv).1, c, h wd _ H (.refl _) hh (rv_str ?_)⟩
      refine strOk_iff.mpr fun c hc => ?_
      unfold cutS at hc
      rw [List.toList_toArray] at hc
      exact strOk_iff.mp (rd_str rv).2 c (List.mem_of_mem_drop (List.mem_of_mem_take hc))
    · exact h.elim
  · rename_i l
    obtain ⟨a, vs, rfl, t, rr⟩ := tup_at hh rv rfl
    refine .inr (.inl ⟨a, vs, rfl, t, fun z => ?_, fun _ p hp => ?_⟩)
    · have e : cut l lo hi = l := by
        rw [← rr.length] at z
        unfold cut
        rw [z.1, z.2, List.drop_zero, Nat.sub_zero, List.take_length]
      rw [e] at h
      exact h wd _ H (.refl _) hh rv
    · obtain ⟨wd1, l1, h1, r1⟩ := hh.newTup hp (rr.cut lo hi)
      exact h wd1 _ _ l1 h1 r1
  · split at h
    · rename_i l el
      obtain ⟨a, vs, rfl, t, rr⟩ := rdl_at hh rv el
      refine .inr (.inr ⟨a, vs, rfl, t, fun p hp => ?_⟩)
      obtain ⟨h1, r1⟩ := hh.newLst hp (rr.cut lo hi)
      exact h wd _ _ (.refl _) h1 r1
    · exact h.elim
@[simp] noncomputable def eSl (T : EV) (L U : OV) : EV := fun σ S => (T σ S).bind fun v S1 => (L σ S1).bind fun lo S2 => (U σ S2).bind fun hi S3 => slF (frz v) lo hi S3
theorem OkO_bind {W : WX} {σ : St} {wd : Wd} {T : Out (Option Int)} {F : Option Int → Sta → Out Vl} {Q : VK} (h : OkE g.K g.cls W σ wd Q (T.bind F)) :
    OkO g.K g.cls W σ wd (fun b H1 => ∃ wd1 S1, wd.Le wd1 ∧ HR g.K g.cls wd1 S1 H1 ∧ OkE g.K g.cls W σ wd1 Q (F b S1)) T := by
  cases T with
  | ok v S1 => exact fun wd1 H1 l hr => ⟨wd1, S1, l, hr, OkE.mono l h⟩
  | exc c fs S1 => exact h
  | bad => exact h
theorem je_sl {lo hi : Option Expr} {L U : OV} {p2 : Pos} (ha : JE g a T) (hl : JO g lo L) (hu : JO g hi U) : JE g (.Subscript a (.Slice lo hi none p2) pos) (eSl T L U) := fun X hX W tk =>
  (pe_slice (hX.K ▸ sl_all) (ha X hX W tk) (hl X hX W tk) (hu X hX W tk)).imp fun σ H Q h => by
    obtain ⟨wd, σ', S, hs, hh, h⟩ := h
    refine ⟨wd, σ', S, hs, hh, ?_⟩
    have h1 := OkE_opd (F := fun v S1 => (L σ' S1).bind fun lo S2 => (U σ' S2).bind fun hi S3 => slF v lo hi S3) h
    revert h1
    cases T σ' S with
    | ok v S1 =>
      intro h1 wd1 x H1 l hr rv
      obtain ⟨v', wd2, S2, l2, hr2, rw2, h2⟩ := h1 wd1 x H1 l hr rv
      refine ⟨wd2, σ', S2, hs.mono l2, hr2, ?_⟩
      have h3 := OkO_bind h2
      revert h3
      cases L σ' S2 with
      | ok lo S3 =>
        intro h3 wd3 H3 l3 hr3
        obtain ⟨wd4, S4, l4, hr4, h4⟩ := h3 wd3 H3 l3 hr3
        refine ⟨wd4, σ', S4, (hs.mono l2).mono l4, hr4, ?_⟩
        have h5 := OkO_bind h4
        revert h5
        cases U σ' S4 with
        | ok hi S5 =>
          intro h5 wd5 H5 l5 hr5
          obtain ⟨wd6, S6, l6, hr6, h6⟩ := h5 wd5 H5 l5 hr5
          exact sl_read hr6 ((rw2.mono l4).mono l6) h6
        | exc c fs S1 => intro h; exact h
        | bad => intro h; exact h
      | exc c fs S1 => intro h; exact h
      | bad => intro h; exact h
    | exc c fs S1 => intro h; exact h
    | bad => intro h; exact h

/-! ### built-in calls -/
def CallD (g : G) (r : List V → Hp → VK → Prop) (f : List Vl → Sta → Out Vl) : Prop := ∀ (W : WX) (σ : St) (wd : Wd) (H : Hp) (S : Sta) (vs : List Vl) (xs : List V) (Q : VK),
  HR g.K g.cls wd S H → RWs g.K wd vs xs → OkE g.K g.cls W σ wd Q (f vs S) → r xs H Q
@[simp] noncomputable def eCall (f : List Vl → Sta → Out Vl) (Ts : EVs) : EV := fun σ S => (Ts σ S).bind f
theorem call_read {r : List V → Hp → VK → Prop} {f} (hf : CallD g r f) {W : WX} {σ : St} {H : Hp} {Q : VK} (h : LE g.K g.cls W (eCall f Ts) σ H Q) : LA g.K g.cls W Ts σ H fun xs H1 => r xs H1 Q := by
  obtain ⟨wd, σ', S, hs, hh, h⟩ := h
  refine ⟨wd, σ', S, hs, hh, ?_⟩
  have h1 := OkA_bindE h
  revert h1
  cases Ts σ' S with
  | ok v S1 =>
    intro h1 wd1 x H1 l hr rv
    obtain ⟨v', wd2, S2, l2, hr2, rw2, h2⟩ := h1 wd1 x H1 l hr rv
    exact hf W σ wd2 H1 S2 v' x Q hr2 rw2 h2
  | exc c fs S1 => intro h1; exact h1
  | bad => intro h1; exact h1
theorem je_callB {id : String} {r f} {x : Str} {p : Pos} (hc : ∀ X, Good g X → CallR X (.builtin id) r) (hf : CallD g r f) (hg : GlS g x) (hm : g.mg x = none) (hv : bootBuiltins x = some (.builtin id)) (ha : JA g (e :: es) Ts)
    (hn : x ≠ "__name__" := by decide) (hdb : (x == ("__debug__" : Str)) = false := by decide) (he : ∀ env, starEach (e :: es) env = (false, eval e env) :: starEach es env := by intro _; rfl) (hp : ∀ env, (backTo pos (starEach es env)).any (·.1) = false := by intro _; rfl) :
    JE g (.Call (.Name x p) (e :: es) [] pos) (eCall f Ts) := fun X hX W tk =>
  (pe_callB (hc X hX) (gl_of hX hg) (by rw [hX.mg]; exact hm) hv (ha X hX W tk) hn hdb (he X.env) (hp X.env)).imp fun σ H Q h => call_read hf h
theorem je_callTy {ty : String} {r f} {x : Str} {p : Pos} (hc : ∀ X, Good g X → CallR X (.type ty) r) (hf : CallD g r f) (hg : GlS g x) (hm : g.mg x = none) (hv : bootBuiltins x = some (.type ty)) (ha : JA g (e :: es) Ts)
    (hn : x ≠ "__name__" := by decide) (hdb : (x == ("__debug__" : Str)) = false := by decide) (he : ∀ env, starEach (e :: es) env = (false, eval e env) :: starEach es env := by intro _; rfl) (hp : ∀ env, (backTo pos (starEach es env)).any (·.1) = false := by intro _; rfl) :
    JE g (.Call (.Name x p) (e :: es) [] pos) (eCall f Ts) := fun X hX W tk =>
  (pe_callTy (hc X hX) (gl_of hX hg) (by rw [hX.mg]; exact hm) hv (ha X hX W tk) hn hdb (he X.env) (hp X.env)).imp fun σ H Q h => call_read hf h
theorem rws1 {K wd v xs} (r : RWs K wd [v] xs) : ∃ x, xs = [x] ∧ RW K wd v x := by
  obtain ⟨x, xr, rfl, r1, r2⟩ := r
  have : xr = [] := r2
  subst this
  exact ⟨x, rfl, r1⟩
/-- len -/
noncomputable def lenF (vs : List Vl) (S : Sta) : Out Vl := match vs with
  | [v] => match v with
    | .d (.str z) => if z.length ≤ sizeLine then .ok (.d (.int z.length)) S else .bad
    | .d (.tup l) => .ok (.d (.int l.length)) S
    | v => match rdlOf v S with
      | some l => .ok (.d (.int l.length)) S
      | none => .bad
  | _ => .bad
theorem call_lenD' : CallD g (fun xs H Q => ∃ x n, xs = [x] ∧ LenV g.K x H n ∧ Q (.int n) H) lenF := by
  intro W σ wd H S vs xs Q hh r h
  unfold lenF at h
  split at h
  · obtain ⟨x, rfl, rv⟩ := rws1 r
    split at h
    · split at h
      · rename_i c
        have e := (rd_str rv).1
        subst e
        exact ⟨_, _, rfl, ⟨c, rfl⟩, h wd _ H (.refl _) hh rv_int⟩
      · exact h.elim
    · obtain ⟨a, vs, rfl, t, rr⟩ := tup_at hh rv rfl
      exact ⟨_, vs.length, rfl, .inr ⟨vs, t, rfl⟩, by rw [← rr.length]; exact h wd _ H (.refl _) hh rv_int⟩
    · split at h
      · rename_i l el
        obtain ⟨a, vs, rfl, t, rr⟩ := rdl_at hh rv el
        exact ⟨_, vs.length, rfl, .inl ⟨vs, t, rfl⟩, by rw [← rr.length]; exact h wd _ H (.refl _) hh rv_int⟩
      · exact h.elim
  · exact h.elim
theorem je_len {p : Pos} (hg : GlS g "len") (hm : g.mg "len" = none) (ha : JA g [e] Ts) (he : ∀ env, starEach [e] env = (false, eval e env) :: starEach [] env := by intro _; rfl) : JE g (.Call (.Name "len" p) [e] [] pos) (eCall lenF Ts) :=
  je_callB (fun X hX => hX.K ▸ call_len) call_lenD' hg hm PySem.boot_len ha (he := he)
/-- int of an int or a truth -/
def intF (vs : List Vl) (S : Sta) : Out Vl := match vs with
  | [.d (.int i)] => .ok (.d (.int i)) S
  | [.d (.bl k)] => .ok (.d (.int (if k then 1 else 0))) S
  | _ => .bad
theorem call_intD : CallD g (fun xs H Q => (∃ i, xs = [.int i] ∧ Q (.int i) H) ∨ ∃ k, xs = [.bl k] ∧ Q (.int (if k then 1 else 0)) H) intF := by
  intro W σ wd H S vs xs Q hh r h
  unfold intF at h
  split at h
  · obtain ⟨x, rfl, rv⟩ := rws1 r
    exact .inl ⟨_, by rw [rd_int rv], h wd _ H (.refl _) hh rv_int⟩
  · obtain ⟨x, rfl, rv⟩ := rws1 r
    exact .inr ⟨_, by rw [rd_bl rv], h wd _ H (.refl _) hh rv_int⟩
  · exact h.elim
theorem je_int1 {p : Pos} (hg : GlS g "int") (hm : g.mg "int" = none) (ha : JA g [e] Ts) (he : ∀ env, starEach [e] env = (false, eval e env) :: starEach [] env := by intro _; rfl) : JE g (.Call (.Name "int" p) [e] [] pos) (eCall intF Ts) :=
  je_callTy (fun X hX => call_int1) call_intD hg hm (by decide +kernel) ha (he := he)
/-- tuple of a list or a tuple -/
noncomputable def tupleF (vs : List Vl) (S : Sta) : Out Vl := match vs with
  | [v] => match v with
    | .d (.tup l) => .ok (.d (.tup l)) S
    | v => match rdlOf v S with
      | some l => .ok (.d (.tup l)) S
      | none => .bad
  | _ => .bad
theorem call_tupleD : CallD g (fun xs H Q => ∃ p ys, xs = [.ref p] ∧ ((SqL g.K H p ys ∧ ∀ l, H l = none → Q (.ref l) (upd H l (.tup ys))) ∨ (SqT g.K H p ys ∧ Q (.ref p) H))) tupleF := by
  intro W σ wd H S vs xs Q hh r h
  unfold tupleF at h
  split at h
  · obtain ⟨x, rfl, rv⟩ := rws1 r
    split at h
    · obtain ⟨a, vs, rfl, t, rr⟩ := tup_at hh rv rfl
      exact ⟨a, vs, rfl, .inr ⟨t, h wd _ H (.refl _) hh rv⟩⟩
    · split at h
      · rename_i l el
        obtain ⟨a, vs, rfl, t, rr⟩ := rdl_at hh rv el
        refine ⟨a, vs, rfl, .inl ⟨t, fun p hp => ?_⟩⟩
        obtain ⟨wd1, l1, h1, r1⟩ := hh.newTup hp rr
        exact h wd1 _ _ l1 h1 r1
      · exact h.elim
  · exact h.elim
theorem je_tuple {p : Pos} (hg : GlS g "tuple") (hm : g.mg "tuple" = none) (ha : JA g [e] Ts) (he : ∀ env, starEach [e] env = (false, eval e env) :: starEach [] env := by intro _; rfl) : JE g (.Call (.Name "tuple" p) [e] [] pos) (eCall tupleF Ts) :=
  je_callTy (fun X hX => hX.K ▸ call_tuple_of) call_tupleD hg hm (by decide +kernel) ha (he := he)
/-- list of a list or a tuple -/
noncomputable def listF (vs : List Vl) (S : Sta) : Out Vl := match vs with
  | [v] => match v with
    | .d (.tup l) => .ok (.new l) S
    | v => match rdlOf v S with
      | some l => .ok (.new l) S
      | none => .bad
  | _ => .bad
theorem call_listD : CallD g (fun xs H Q => ∃ p ys, xs = [.ref p] ∧ (SqL g.K H p ys ∨ SqT g.K H p ys) ∧ ∀ l, H l = none → Q (.ref l) (upd H l (.lst ys))) listF := by
  intro W σ wd H S vs xs Q hh r h
  unfold listF at h
  split at h
  · obtain ⟨x, rfl, rv⟩ := rws1 r
    split at h
    · obtain ⟨a, vs, rfl, t, rr⟩ := tup_at hh rv rfl
      refine ⟨a, vs, rfl, .inr t, fun p hp => ?_⟩
      obtain ⟨h1, r1⟩ := hh.newLst hp rr
      exact h wd _ _ (.refl _) h1 r1
    · split at h
      · rename_i l el
        obtain ⟨a, vs, rfl, t, rr⟩ := rdl_at hh rv el
        refine ⟨a, vs, rfl, .inl t, fun p hp => ?_⟩
        obtain ⟨h1, r1⟩ := hh.newLst hp rr
        exact h wd _ _ (.refl _) h1 r1
      · exact h.elim
  · exact h.elim
theorem je_list {p : Pos} (hg : GlS g "list") (hm : g.mg "list" = none) (ha : JA g [e] Ts) (he : ∀ env, starEach [e] env = (false, eval e env) :: starEach [] env := by intro _; rfl) : JE g (.Call (.Name "list" p) [e] [] pos) (eCall listF Ts) :=
  je_callTy (fun X hX => hX.K ▸ call_list_of) call_listD hg hm (by decide +kernel) ha (he := he)
/-- all, any of a list of truths -/
def blsOf : List D → Option (List Bool)
  | [] => some []
  | .bl b :: r => (blsOf r).map (b :: ·)
  | _ => none
theorem bls_v {K wd} : ∀ {l : List D} {vs : List V} {bs : List Bool}, RDs K wd l vs → blsOf l = some bs → vs = bs.map V.bl
  | [], vs, bs, r, e => by cases e; simpa [RDs] using r
  | x :: l, vs, bs, r, e => by
    simp only [RDs] at r
    obtain ⟨v, vr, rfl, r1, r2⟩ := r
    cases x <;> simp only [blsOf] at e <;> first | (cases e; done) | skip
    obtain ⟨bs', e1, rfl⟩ := Option.map_eq_some_iff.mp e
    simp only [RD] at r1
    rw [r1, bls_v r2 e1]; rfl
@[simp] theorem blsOf_map (bs : List Bool) : blsOf (bs.map D.bl) = some bs := by
  induction bs with
  | nil => rfl
  | cons b r ih => simp [blsOf, ih]
noncomputable def allF (vs : List Vl) (S : Sta) : Out Vl := match vs with
  | [v] => match rdlOf v S with
    | some l => match blsOf l with
      | some bs => .ok (.d (.bl (bs.all id))) S
      | none => .bad
    | none => .bad
  | _ => .bad
noncomputable def anyF (vs : List Vl) (S : Sta) : Out Vl := match vs with
  | [v] => match rdlOf v S with
    | some l => match blsOf l with
      | some bs => .ok (.d (.bl (bs.any id))) S
      | none => .bad
    | none => .bad
  | _ => .bad
theorem call_allD : CallD g (rAll g.K) allF := by
  intro W σ wd H S vs xs Q hh r h
  unfold allF at h
  split at h
  · obtain ⟨x, rfl, rv⟩ := rws1 r
    split at h
    · rename_i l el
      split at h
      · rename_i bs eb
        obtain ⟨a, vs, rfl, t, rr⟩ := rdl_at hh rv el
        exact ⟨a, bs, rfl, by rw [← bls_v rr eb]; exact t, h wd _ H (.refl _) hh rv_bl⟩
      · exact h.elim
    · exact h.elim
  · exact h.elim
theorem call_anyD : CallD g (rAny g.K) anyF := by
  intro W σ wd H S vs xs Q hh r h
  unfold anyF at h
  split at h
  · obtain ⟨x, rfl, rv⟩ := rws1 r
    split at h
    · rename_i l el
      split at h
      · rename_i bs eb
        obtain ⟨a, vs, rfl, t, rr⟩ := rdl_at hh rv el
        exact ⟨a, bs, rfl, by rw [← bls_v rr eb]; exact t, h wd _ H (.refl _) hh rv_bl⟩
      · exact h.elim
    · exact h.elim
  · exact h.elim
theorem je_all {p : Pos} (hg : GlS g "all") (hm : g.mg "all" = none) (ha : JA g [e] Ts) (he : ∀ env, starEach [e] env = (false, eval e env) :: starEach [] env := by intro _; rfl) : JE g (.Call (.Name "all" p) [e] [] pos) (eCall allF Ts) :=
  je_callB (fun X hX => hX.K ▸ cr_all hX.calm) call_allD hg hm (by decide +kernel) ha (he := he)
theorem je_any {p : Pos} (hg : GlS g "any") (hm : g.mg "any" = none) (ha : JA g [e] Ts) (he : ∀ env, starEach [e] env = (false, eval e env) :: starEach [] env := by intro _; rfl) : JE g (.Call (.Name "any" p) [e] [] pos) (eCall anyF Ts) :=
  je_callB (fun X hX => hX.K ▸ cr_any hX.calm) call_anyD hg hm (by decide +kernel) ha (he := he)
/-- isinstance(x, T), T a built-in class -/
noncomputable def tyN (v : Vl) (S : Sta) : Option String := match v with
  | .d .non => some "NoneType"
  | .d (.bl _) => some "bool"
  | .d (.int _) => some "int"
  | .d (.str _) => some "str"
  | .d (.tup _) => some "tuple"
  | .d (.scr _) => some "list"
  | .d (.obj i) => match S.P[i]? with
    | some (.dic _) => some "dict"
    | _ => none
  | v => match lstOf v S with
    | some _ => some "list"
    | none => none
@[simp] theorem tyN_non (S : Sta) : tyN (.d .non) S = some "NoneType" := rfl
@[simp] theorem tyN_bl (b) (S : Sta) : tyN (.d (.bl b)) S = some "bool" := rfl
@[simp] theorem tyN_int (b) (S : Sta) : tyN (.d (.int b)) S = some "int" := rfl
@[simp] theorem tyN_str (b) (S : Sta) : tyN (.d (.str b)) S = some "str" := rfl
@[simp] theorem tyN_tup (b) (S : Sta) : tyN (.d (.tup b)) S = some "tuple" := rfl
@[simp] theorem tyN_lst (b) (S : Sta) : tyN (.d (.lst b)) S = some "list" := rfl
@[simp] theorem tyN_new (b) (S : Sta) : tyN (.new b) S = some "list" := rfl
theorem tyx {K cls wd H S v x t} (hh : HR K cls wd S H) (r : RW K wd v x) (e : tyN v S = some t) : TyX K H x (.type t) := by
  unfold tyN at e
  split at e
  · cases e; rw [rd_non r]; exact .base .non
  · cases e; rw [rd_bl r]; exact .base (.bl _)
  · cases e; rw [rd_int r]; exact .base (.int _)
  · cases e; rw [(rd_str r).1]; exact .base (.str _)
  · cases e
    simp only [RW, RD] at r
    obtain ⟨a, vs, rfl, t, rr⟩ := r
    rcases t with t | ⟨o, its, n, t, c, _⟩
    · exact .base (.tup (hh.fz a _ t))
    · exact .kTuple t c
  · cases e
    simp only [RW, RD] at r
    obtain ⟨a, vs, rfl, t, rr⟩ := r
    rcases t with ⟨o, t⟩ | ⟨o, its, n, t, c, _⟩
    · exact .base (.frz (hh.fz a _ t))
    · exact .kList t c
  · split at e
    · rename_i i _ kvs ei
      cases e
      simp only [RW, RD] at r
      obtain ⟨a, rfl, ea⟩ := r
      obtain ⟨a', ea', vk, hx, _⟩ := hh.ob i _ ei
      rw [ea] at ea'; cases ea'
      exact .base (.dK hx)
    · cases e
  · split at e
    · rename_i l el
      cases e
      obtain ⟨a, vs, rfl, t, rr⟩ := lst_at hh r el
      exact .base (.lst t)
    · cases e
/-- the known answers -/
def isTab (a b : String) : Option Bool := match b with
  | "str" => match a with
    | "str" => some true
    | "NoneType" => some false
    | "bool" => some false
    | "int" => some false
    | "tuple" => some false
    | "list" => some false
    | "dict" => some false
    | _ => none
  | "tuple" => match a with
    | "tuple" => some true
    | "NoneType" => some false
    | "bool" => some false
    | "int" => some false
    | "str" => some false
    | "list" => some false
    | "dict" => some false
    | _ => none
  | "list" => match a with
    | "list" => some true
    | "NoneType" => some false
    | "bool" => some false
    | "int" => some false
    | "str" => some false
    | "tuple" => some false
    | "dict" => some false
    | _ => none
  | "bool" => match a with
    | "bool" => some true
    | "NoneType" => some false
    | "int" => some false
    | "str" => some false
    | "tuple" => some false
    | "list" => some false
    | "dict" => some false
    | _ => none
  | "int" => match a with
    | "int" => some true
    | "bool" => some true
    | "NoneType" => some false
    | "str" => some false
    | "tuple" => some false
    | "list" => some false
    | "dict" => some false
    | _ => none
  | _ => none
theorem isTab_ok {a b : String} {r : Bool} (h : isTab a b = some r) : kitB a b = some r := by
  unfold isTab at h
  split at h <;> first | (split at h <;> first | (cases h; decide +kernel) | cases h) | cases h
@[simp] noncomputable def eIsTy (n : String) (T : EV) : EV := eUn (fun v S => match tyN v S with
  | some t => match isTab t n with
    | some b => .ok (.d (.bl b)) S
    | none => .bad
  | none => .bad) T
theorem je_isTy {n : String} {x : Str} {p q : Pos} (hg : GlS g "isinstance") (hm : g.mg "isinstance" = none) (hg2 : GlS g x) (hm2 : g.mg x = none) (hv : bootBuiltins x = some (.type n)) (ha : JE g e T)
    (he : ∀ env, starEach [e, .Name x q] env = (false, eval e env) :: starEach [.Name x q] env := by intro _; rfl) (hn : x ≠ "__name__" := by decide) (hd : (x == ("__debug__" : Str)) = false := by decide) (hp : ∀ env, (backTo pos (starEach [.Name x q] env)).any (·.1) = false := by intro _; rfl)
    (he2 : ∀ env, starEach [.Name x q] env = (false, eval (.Name x q) env) :: starEach [] env := by intro _; rfl) :
    JE g (.Call (.Name "isinstance" p) [e, .Name x q] [] pos) (eIsTy n T) := fun X hX W tk =>
  (pe_callB call_isi (gl_of hX hg) (by rw [hX.mg]; exact hm) (by decide +kernel) (pa_cons (ha X hX W tk) (pa_cons (pe_bltn (gl_of hX hg2) (by rw [hX.mg]; exact hm2) hv (v := .ty n) rfl hn hd) pa_nil (he2 X.env)) (he X.env)) (by decide) (by decide) (he X.env) (hp X.env)).imp fun σ H Q h => by
    refine un_read (r := fun x H1 Q => rIsi X.K [x, .ty n] H1 Q) (fun W σ wd H S v x Q hh rv h => ?_) h
    split at h
    · rename_i t et
      split at h
      · rename_i b eb
        refine ⟨x, .ty n, .type t, .type n, b, rfl, .ty n, ?_, kit_ty (isTab_ok eb), h wd _ H (.refl _) hh rv_bl⟩
        rw [hX.K]; exact tyx hh rv et
      · exact h.elim
    · exact h.elim

/-! ### methods of lists and texts -/
theorem HR.setBox {K cls wd S H i l a vs l'} (h : HR K cls wd S H) (e : S.B[i]? = some (true, l)) (ea : wd.bx[i]? = some a) (r : RDs K wd l' vs) : HR K cls wd { S with B := S.B.set i (true, l') } (upd H a (.lst vs)) := by
  have hi : i < S.B.length := (List.getElem?_eq_some_iff.mp e).1
  obtain ⟨a', vs0, e1, e2, e3, _⟩ := h.live i l e
  rw [ea] at e1; cases e1
  have nfz : ∀ p o, wd.fz p = some o → p ≠ a := fun p o q z => by subst z; rw [e3] at q; cases q
  refine ⟨fun p o q => by rw [upd_ne (nfz p o q)]; exact h.fz p o q, by simpa using h.bn, fun j m q => ?_, fun j m q => ?_, h.bnd, h.on, h.ond, fun j o q => ?_, fun p hp => ?_, h.annd, h.nfz⟩
  · by_cases hj : j = i
    · subst hj; rw [List.getElem?_set_self hi] at q; cases q
      exact ⟨a, vs, ea, upd_same, e3, r⟩
    · rw [List.getElem?_set_ne (Ne.symm hj)] at q
      obtain ⟨b, us, q1, q2, q3, rr⟩ := h.live j m q
      refine ⟨b, us, q1, ?_, q3, rr⟩
      rw [upd_ne]; exact q2
      intro z; subst z; exact hj (nodupIx h.bnd q1 ea)
  · by_cases hj : j = i
    · subst hj; rw [List.getElem?_set_self hi] at q; cases q
    · rw [List.getElem?_set_ne (Ne.symm hj)] at q
      exact h.froz j m q
  · obtain ⟨b, q1, q2⟩ := h.ob j o q
    refine ⟨b, q1, q2.at_ne ?_⟩
    intro z; subst z
    cases o with
    | ins c fs => obtain ⟨dx, vfs, q3, _⟩ := q2; rw [e2] at q3; cases q3
    | dic kvs => obtain ⟨vk, q3, _⟩ := q2; rw [e2] at q3; cases q3
  · obtain ⟨q1, q2, q3⟩ := h.an p hp
    refine ⟨?_, q2, q3⟩
    rw [upd_ne]; exact q1
    intro z; rw [z] at q3; exact q3 (List.mem_of_getElem? ea)
@[simp] noncomputable def appendF (v u : Vl) (S : Sta) : Out Vl := match v with
  | .box i => match toD u S with
    | some (x, S2) => match S2.B[i]? with
      | some (true, l) => if l.length < sizeLine then .ok (.d .non) { S2 with B := S2.B.set i (true, l ++ [x]) } else .bad
      | _ => .bad
    | none => .bad
  | _ => .bad
@[simp] noncomputable def extendF (v u : Vl) (S : Sta) : Out Vl := match v with
  | .box i => match lstOf u S with
    | some m => match S.B[i]? with
      | some (true, l) => if l.length + m.length ≤ sizeLine then .ok (.d .non) { S with B := S.B.set i (true, l ++ m) } else .bad
      | _ => .bad
    | none => .bad
  | _ => .bad
noncomputable def boxOk (v : Vl) (S : Sta) : Bool := match v with
  | .box i => match S.B[i]? with
    | some _ => true
    | none => false
  | _ => false
/-- a method of a list in a box -/
@[simp] noncomputable def eLm (f : Vl → Vl → Sta → Out Vl) (To T : EV) : EV := fun σ S => (To σ S).bind fun v S1 => if boxOk v S1 = true then (T σ S1).bind fun u S2 => f (frz v) (frz u) S2 else .bad
theorem box_lst {K cls wd S H v x} (h : HR K cls wd S H) (r : RW K wd v x) (b : boxOk v S = true) : ∃ a vs, x = .ref a ∧ H a = some (.lst vs) := by
  unfold boxOk at b
  split at b
  · rename_i i
    obtain ⟨a, rfl, ea⟩ := r
    split at b
    · rename_i p e
      obtain ⟨k, l⟩ := p
      cases k with
      | true =>
        obtain ⟨a', vs, e1, e2, _⟩ := h.live i l e
        rw [ea] at e1; cases e1
        exact ⟨a, vs, rfl, e2⟩
      | false =>
        obtain ⟨a', vs, e1, e2, _⟩ := h.froz i l e
        rw [ea] at e1; cases e1
        exact ⟨a, vs, rfl, h.fz _ _ e2⟩
    · cases b
  · cases b
theorem je_lm {id : String} {name : Str} {apos cpos : Pos} {o : Expr} {To : EV} {r : V → List V → Hp → VK → Prop} {f} (slot : Slot "list" name id) (hty : typeOf (.builtin id) = pure (.type "method_descriptor")) (hm : ∀ X, Good g X → MtR X id r)
    (hf : OpD g (fun x y H Q => r x [y] H Q) f) (ho : JE g o To) (ha : JE g e T)
    (hbase : ∀ env, attributeBase o name env (eval o env) = eval o env := by intro _; rfl) (hline : (apos.endLine == cpos.line) = true := by rfl) (he : ∀ env, starEach [e] env = (false, eval e env) :: starEach [] env := by intro _; rfl) :
    JE g (.Call (.Attribute o name apos) [e] [] cpos) (eLm f To T) := fun X hX W tk => by
  have hall : (((backTo cpos (starEach [e] X.env)).all (fun x => !x.1) && (backToKw cpos (keywordEach [] X.env)).all fun x => x.1.isSome) && decide ([e].length + ([] : List Keyword).length + (if ([] : List Keyword).isEmpty = true then 0 else 1) < 30)) = true := by rw [he]; rfl
  refine (pe_bm PySem.F.plainAttrs_list slot hty (hm X hX) (ho X hX W tk) (pa_cons (ha X hX W tk) pa_nil (he X.env)) (hbase X.env) (by first | exact hall | (rw [he]; rfl)) hline (he X.env) (by rfl)).imp fun σ H Q h => ?_
  obtain ⟨wd, σ', S, hs, hh, h⟩ := h
  refine ⟨wd, σ', S, hs, hh, ?_⟩
  have h1 : OkE g.K g.cls W σ wd Q ((To σ' S).bind fun v S1 => if boxOk (frz v) S1 = true then (T σ' S1).bind fun u S2 => f (frz v) (frz u) S2 else .bad) := by
    unfold eLm at h
    revert h
    cases To σ' S with
    | ok v S1 => cases v <;> exact fun h => h
    | exc c fs S1 => exact fun h => h
    | bad => exact fun h => h
  have h1 := OkE_opd (F := fun v S1 => if boxOk v S1 = true then (T σ' S1).bind fun u S2 => f v (frz u) S2 else .bad) h1
  revert h1
  cases To σ' S with
  | ok v S1 =>
    intro h1 wd1 x H1 l hr rv
    obtain ⟨v', wd2, S2, l2, hr2, rw2, h2⟩ := h1 wd1 x H1 l hr rv
    split at h2
    · rename_i hb
      obtain ⟨a, vs, rfl, ha⟩ := box_lst hr2 rw2 hb
      refine ⟨.inl ⟨rfl, vs, .of ha⟩, ?_⟩
      refine ⟨wd2, σ', S2, hs.mono l2, hr2, ?_⟩
      have h3 := OkE_opd (F := fun u S2 => f v' u S2) h2
      revert h3
      cases T σ' S2 with
      | ok u S3 =>
        intro h3 wd3 y H3 l3 hr3 rv3
        obtain ⟨u', wd4, S4, l4, hr4, rw4, h4⟩ := h3 wd3 y H3 l3 hr3 rv3
        exact hf W σ wd4 H3 S4 v' u' _ y Q hr4 (rw2.mono l4) rw4 h4
      | exc c fs S3 => intro h3; exact h3
      | bad => intro h3; exact h3
    · exact h2.elim
  | exc c fs S1 => intro h1; exact h1
  | bad => intro h1; exact h1
theorem opd_append : OpD g (fun x y H Q => rAppend x [y] H Q) appendF := by
  intro W σ wd H S v u x y Q hh rv ru h
  unfold appendF at h
  split at h
  · rename_i i
    split at h
    · rename_i z S2 ez
      obtain ⟨wd1, l1, h1, r1⟩ := RW.toD hh ru ez
      split at h
      · rename_i l el
        split at h
        · rename_i hz
          obtain ⟨a, rfl, ea⟩ := rv.mono l1
          obtain ⟨a', vs, e1, e2, e3, rr⟩ := h1.live i l el
          rw [ea] at e1; cases e1
          refine ⟨a, vs, y, rfl, rfl, e2, by rw [← rr.length]; exact hz, ?_⟩
          exact h wd1 _ _ l1 (h1.setBox el ea (rr.append (.one r1))) rv_non
        · exact h.elim
      · exact h.elim
    · exact h.elim
  · exact h.elim
theorem opd_extend : OpD g (fun x y H Q => rExtend x [y] H Q) extendF := by
  intro W σ wd H S v u x y Q hh rv ru h
  unfold extendF at h
  split at h
  · rename_i i
    split at h
    · rename_i m em
      split at h
      · rename_i l el
        split at h
        · rename_i hz
          obtain ⟨a, rfl, ea⟩ := rv
          obtain ⟨a', vs, e1, e2, e3, rr⟩ := hh.live i l el
          rw [ea] at e1; cases e1
          obtain ⟨b, us, rfl, t, rr'⟩ := lst_at hh ru em
          refine ⟨a, b, vs, us, rfl, rfl, e2, t, by rw [← rr.length, ← rr'.length]; exact hz, ?_⟩
          exact h wd _ _ (.refl _) (hh.setBox el ea (rr.append rr')) rv_non
        · exact h.elim
      · exact h.elim
    · exact h.elim
  · exact h.elim
theorem je_append {apos cpos : Pos} {o : Expr} {To : EV} (ho : JE g o To) (ha : JE g e T) (hbase : ∀ env, attributeBase o "append" env (eval o env) = eval o env := by intro _; rfl) (hline : (apos.endLine == cpos.line) = true := by rfl) (he : ∀ env, starEach [e] env = (false, eval e env) :: starEach [] env := by intro _; rfl) :
    JE g (.Call (.Attribute o "append" apos) [e] [] cpos) (eLm appendF To T) := je_lm PySem.F.slot_list_append PySem.F.type_list_append (fun X hX => mt_append) opd_append ho ha hbase hline he
theorem je_extend {apos cpos : Pos} {o : Expr} {To : EV} (ho : JE g o To) (ha : JE g e T) (hbase : ∀ env, attributeBase o "extend" env (eval o env) = eval o env := by intro _; rfl) (hline : (apos.endLine == cpos.line) = true := by rfl) (he : ∀ env, starEach [e] env = (false, eval e env) :: starEach [] env := by intro _; rfl) :
    JE g (.Call (.Attribute o "extend" apos) [e] [] cpos) (eLm extendF To T) := je_lm PySem.F.slot_list_extend PySem.F.type_list_extend (fun X hX => mt_extend) opd_extend ho ha hbase hline he
/-- sep.join(texts) -/
def strsOf : List D → Option (List Str)
  | [] => some []
  | .str b :: r => (strsOf r).map (b :: ·)
  | _ => none
theorem strs_v {K wd} : ∀ {l : List D} {vs : List V} {bs : List Str}, RDs K wd l vs → strsOf l = some bs → vs = bs.map V.str ∧ ∀ b ∈ bs, PyData.strOk b = true
  | [], vs, bs, r, e => by cases e; simpa [RDs] using r
  | x :: l, vs, bs, r, e => by
    simp only [RDs] at r
    obtain ⟨v, vr, rfl, r1, r2⟩ := r
    cases x <;> simp only [strsOf] at e <;> first | (cases e; done) | skip
    obtain ⟨bs', e1, rfl⟩ := Option.map_eq_some_iff.mp e
    simp only [RD] at r1
    obtain ⟨i1, i2⟩ := strs_v r2 e1
    refine ⟨by rw [r1.1, i1]; rfl, fun b hb => ?_⟩
    rcases List.mem_cons.mp hb with rfl | hb
    · exact r1.2
    · exact i2 b hb
@[simp] theorem strsOf_map (bs : List Str) : strsOf (bs.map D.str) = some bs := by
  induction bs with
  | nil => rfl
  | cons b r ih => simp [strsOf, ih]
noncomputable def joinF (v u : Vl) (S : Sta) : Out Vl := match v with
  | .d (.str a) => match rdlOf u S with
    | some l => match strsOf l with
      | some ys => if (ys.map (·.length)).sum + ys.length * a.length ≤ 16777216 then .ok (.d (.str (Txt.join a ys))) S else .bad
      | none => .bad
    | none => .bad
  | _ => .bad
end
end Ev

set_option Elab.async false
set_option linter.all false
set_option maxRecDepth 100000
set_option maxHeartbeats 1000000
/-! Ev5: statements, loops. -/
namespace Ev
open PySem PySem.Spec PyProof.Rows L2
open Classical
@[simp] noncomputable def SOut.andThen (o : SOut) (f : SV) : SOut := match o with
  | .nxt σ S => f σ S
  | o => o
@[simp] noncomputable def Out.st (o : Out Vl) (σ : Sl) (f : Vl → Sta → SOut) : SOut := match o with
  | .ok v S => f v S
  | .exc c fs S => .exc c fs σ S
  | .bad => .bad
@[simp] noncomputable def Out.stB (o : Out Bool) (σ : Sl) (f : Bool → Sta → SOut) : SOut := match o with
  | .ok v S => f v S
  | .exc c fs S => .exc c fs σ S
  | .bad => .bad
section
variable {g : G} {pos : Pos} {a b e : Expr} {Ta Tb T : EV} {es : List Expr} {Ts : EVs} {st : Stmt} {rest : List Stmt} {A B : SV}
@[simp] def sNext : SV := fun σ S => .nxt σ S
@[simp] noncomputable def sSeq (A B : SV) : SV := fun σ S => (A σ S).andThen B
theorem OkS_andThen {W : WX} {wd : Wd} {E : Ends} {o : SOut} {f : SV} (h : OkS g.K g.cls W wd E (o.andThen f)) : OkS g.K g.cls W wd { E with nx := LS g.K g.cls W f E } o := by
  cases o with
  | nxt σ S => exact fun wd1 σ1 H1 l hs hr => ⟨wd1, σ, S, hs, hr, OkS.mono l h⟩
  | ret v S => exact h
  | brk σ S => exact h
  | cnt σ S => exact h
  | exc c fs σ S => exact h
  | bad => exact h
theorem jss_nil : JSs g [] sNext := fun X hX W tk => (pss_nil (X := X)).imp fun E σ H h => by
  obtain ⟨wd, σ', S, hs, hh, h⟩ := h
  exact h wd σ H (.refl _) hs hh
theorem jss_cons (h1 : JS g st A) (h2 : JSs g rest B) : JSs g (st :: rest) (sSeq A B) := fun X hX W tk => (pss_cons (h1 X hX W tk) (h2 X hX W tk)).imp fun E σ H h => by
  obtain ⟨wd, σ', S, hs, hh, h⟩ := h
  exact ⟨wd, σ', S, hs, hh, OkS_andThen h⟩
theorem jss_one (h1 : JS g st A) : JSs g [st] A := fun X hX W tk => pss_one (h1 X hX W tk)
@[simp] def sBad : SV := fun _ _ => .bad
theorem js_bad : JS g st sBad := fun X hX W tk => (ps_never (X := X)).imp fun E σ H h => by
  obtain ⟨wd, σ', S, hs, hh, h⟩ := h
  exact h
theorem js_pass : JS g (.Pass pos) sNext := fun X hX W tk => (ps_pass (X := X)).imp fun E σ H h => by
  obtain ⟨wd, σ', S, hs, hh, h⟩ := h
  exact h wd σ H (.refl _) hs hh
@[simp] def sBrk : SV := fun σ S => .brk σ S
@[simp] def sCnt : SV := fun σ S => .cnt σ S
theorem js_break : JS g (.Break pos) sBrk := fun X hX W tk => (ps_break (X := X)).imp fun E σ H h => by
  obtain ⟨wd, σ', S, hs, hh, h⟩ := h
  exact h wd σ H (.refl _) hs hh
theorem js_cont : JS g (.Continue pos) sCnt := fun X hX W tk => (ps_continue (X := X)).imp fun E σ H h => by
  obtain ⟨wd, σ', S, hs, hh, h⟩ := h
  exact h wd σ H (.refl _) hs hh
/-- from an expression's run to a statement's -/
theorem st_read {W : WX} {wd : Wd} {E : Ends} {σ' : Sl} {σ : St} {o : Out Vl} {f : Vl → Sta → SOut} (hs : SR g.K wd σ' σ) (h : OkS g.K g.cls W wd E (o.st σ' f)) :
    OkE g.K g.cls W σ wd (fun x H1 => ∃ v wd1 S1, wd.Le wd1 ∧ HR g.K g.cls wd1 S1 H1 ∧ RV g.K wd1 H1 v x ∧ OkS g.K g.cls W wd1 E (f v S1)) o := by
  cases o with
  | ok v S => exact fun wd1 x H1 l hr rv => ⟨v, wd1, S, l, hr, rv, OkS.mono l h⟩
  | exc c fs S => exact fun wd1 H1 cv d l hr hx => h wd1 σ H1 cv d l (hs.mono l) hr hx
  | bad => exact h
theorem stB_read {W : WX} {wd : Wd} {E : Ends} {σ' : Sl} {σ : St} {o : Out Bool} {f : Bool → Sta → SOut} (hs : SR g.K wd σ' σ) (h : OkS g.K g.cls W wd E (o.stB σ' f)) :
    OkT g.K g.cls W σ wd (fun b H1 => ∃ wd1 S1, wd.Le wd1 ∧ HR g.K g.cls wd1 S1 H1 ∧ OkS g.K g.cls W wd1 E (f b S1)) o := by
  cases o with
  | ok v S => exact fun wd1 H1 l hr => ⟨wd1, S, l, hr, OkS.mono l h⟩
  | exc c fs S => exact fun wd1 H1 cv d l hr hx => h wd1 σ H1 cv d l (hs.mono l) hr hx
  | bad => exact h
@[simp] noncomputable def sExpr (T : EV) : SV := fun σ S => (T σ S).st σ fun _ S1 => .nxt σ S1
theorem js_expr (h : JE g e T) (hs : ∀ env, swapsWith e none pos.line env = pure false := by intro _; rfl) : JS g (.Expr e pos) (sExpr T) := fun X hX W tk => (ps_expr (h X hX.toGood W tk) (hs X.env)).imp fun E σ H h => by
  obtain ⟨wd, σ', S, hs, hh, h⟩ := h
  refine ⟨wd, σ', S, hs, hh, ?_⟩
  have h1 := st_read hs h
  revert h1
  cases T σ' S with
  | ok v S1 =>
    intro h1 wd1 x H1 l hr rv
    obtain ⟨v', wd2, S2, l2, hr2, rw2, h2⟩ := h1 wd1 x H1 l hr rv
    exact h2 wd2 σ H1 (.refl _) (hs.mono l2) hr2
  | exc c fs S1 => intro h1; exact h1
  | bad => intro h1; exact h1
theorem js_doc {x j} {p : Pos} : JS g (.Expr (.Constant (.str x) j p) pos) sNext := fun X hX W tk => (ps_doc (X := X)).imp fun E σ H h => by
  obtain ⟨wd, σ', S, hs, hh, h⟩ := h
  exact h wd σ H (.refl _) hs hh
@[simp] noncomputable def sRet (T : EV) : SV := fun σ S => (T σ S).st σ fun v S1 => .ret v S1
theorem js_ret (h : JE g e T) : JS g (.Return (some e) pos) (sRet T) := fun X hX W tk => (ps_ret (h X hX.toGood W tk)).imp fun E σ H h => by
  obtain ⟨wd, σ', S, hs, hh, h⟩ := h
  refine ⟨wd, σ', S, hs, hh, ?_⟩
  have h1 := st_read hs h
  revert h1
  cases T σ' S with
  | ok v S1 =>
    intro h1 wd1 x H1 l hr rv
    obtain ⟨v', wd2, S2, l2, hr2, rw2, h2⟩ := h1 wd1 x H1 l hr rv
    exact h2 wd2 x H1 (.refl _) hr2 rw2
  | exc c fs S1 => intro h1; exact h1
  | bad => intro h1; exact h1
@[simp] def sRetN : SV := fun _ S => .ret (.d .non) S
theorem js_retN : JS g (.Return none pos) sRetN := fun X hX W tk => (ps_retN (X := X)).imp fun E σ H h => by
  obtain ⟨wd, σ', S, hs, hh, h⟩ := h
  exact h wd .non H (.refl _) hh (by simp [RV, RD])
@[simp] noncomputable def sIf (TA : TV) (A B : SV) : SV := fun σ S => (TA σ S).stB σ fun k S1 => if k = true then A σ S1 else B σ S1
theorem js_if {c : Expr} {p q : List Stmt} {TA : TV} (hc : JT g c TA) (ha : JSs g p A) (hb : JSs g q B) : JS g (.If c p q pos) (sIf TA A B) := fun X hX W tk => (ps_if (hc X hX.toGood W tk) (ha X hX W tk) (hb X hX W tk)).imp fun E σ H h => by
  obtain ⟨wd, σ', S, hs, hh, h⟩ := h
  refine ⟨wd, σ', S, hs, hh, ?_⟩
  have h1 := stB_read hs h
  revert h1
  cases TA σ' S with
  | ok v S1 =>
    intro h1 wd1 H1 l hr
    obtain ⟨wd2, S2, l2, hr2, h2⟩ := h1 wd1 H1 l hr
    cases v with
    | true => exact ⟨wd2, σ', S2, hs.mono l2, hr2, h2⟩
    | false => exact ⟨wd2, σ', S2, hs.mono l2, hr2, h2⟩
  | exc c fs S1 => intro h1; exact h1
  | bad => intro h1; exact h1

/-! ### names are set -/
theorem SR.set {K wd σ' σ} (h : SR K wd σ' σ) (i : Nat) {v x} (r : RW K wd v x) (hl : σ'.length = σ.length) : SR K wd (σ'.set i (some v)) (σ.set i (some x)) := fun j w e => by
  by_cases hj : j = i
  · subst hj
    have hlt : j < σ'.length := by
      have := (List.getElem?_eq_some_iff.mp e).1
      simpa using this
    rw [List.getElem?_set_self hlt] at e
    cases e
    exact ⟨x, by rw [List.getElem?_set_self (by omega)], r⟩
  · rw [List.getElem?_set_ne (Ne.symm hj)] at e
    obtain ⟨y, e1, r1⟩ := h j w e
    exact ⟨y, by rw [List.getElem?_set_ne (Ne.symm hj)]; exact e1, r1⟩
/-- slot i gets a value: nothing is said where the plain slots are short -/
def putS (σ : Sl) (i : Nat) (v : Vl) : Sl := σ.set i (some v)
theorem SR.put {K wd σ' σ} (h : SR K wd σ' σ) (i : Nat) {v x} (r : RW K wd v x) (hi : i < σ.length) : SR K wd (putS σ' i v) (σ.set i (some x)) := fun j w e => by
  unfold putS at e
  by_cases hj : j = i
  · subst hj
    have hlt : j < σ'.length := by
      have := (List.getElem?_eq_some_iff.mp e).1
      simpa using this
    rw [List.getElem?_set_self hlt] at e
    cases e
    exact ⟨x, by rw [List.getElem?_set_self hi], r⟩
  · rw [List.getElem?_set_ne (Ne.symm hj)] at e
    obtain ⟨y, e1, r1⟩ := h j w e
    exact ⟨y, by rw [List.getElem?_set_ne (Ne.symm hj)]; exact e1, r1⟩
/-- a name whose slot is not there in the frame: σ.set leaves all as it is; then the name is no name of N. To be sure the frame's slots are as many as N tells -/
def LenOk (g : G) (σ : St) : Prop := σ.length = g.N.length
@[simp] noncomputable def sSet (i : Nat) (T : EV) : SV := fun σ S => (T σ S).st σ fun v S1 => .nxt (σ.set i (some (frz v))) S1
/-- .. a list gets a box -/
@[simp] noncomputable def boxIn (σ : Sl) (i : Nat) (v : Vl) (S1 : Sta) : SOut := match v with
  | .new l => .nxt (σ.set i (some (.box S1.B.length))) { S1 with B := S1.B ++ [(true, l)] }
  | v => .nxt (σ.set i (some v)) S1
@[simp] noncomputable def sSetB (i : Nat) (T : EV) : SV := fun σ S => (T σ S).st σ fun v S1 => boxIn σ i v S1
/-- statements whose frame has the right number of slots -/
theorem _root_.L2.PS.len {X : Cx} {e : Stmt} {t t' : TS} (h : PS X e t) (i : ∀ E σ H, σ.length = X.N.length → t' E σ H → t E σ H) : PS X e t' := ⟨fun pins s σ H E I q => h.run pins s σ H E I (i E σ H I.len q)⟩
theorem HR.pushBox {K cls wd S H l a vs} (h : HR K cls wd S H) (e : H a = some (.lst vs)) (n : wd.fz a = none) (nb : a ∉ wd.bx) (na : a ∉ wd.an.map (·.1)) (r : RDs K wd l vs) :
    wd.Le { wd with bx := wd.bx ++ [a] } ∧ HR K cls { wd with bx := wd.bx ++ [a] } { S with B := S.B ++ [(true, l)] } H := by
  have le : wd.Le { wd with bx := wd.bx ++ [a] } := ⟨fun _ _ q => q, List.prefix_append _ _, List.prefix_refl _, rfl⟩
  refine ⟨le, ⟨h.fz, by simp [h.bn], fun i m q => ?_, fun i m q => ?_, ?_, h.on, h.ond, fun i o q => ?_, fun p hp => ?_, h.annd, h.nfz⟩⟩
  · by_cases hi : i < S.B.length
    · rw [List.getElem?_append_left hi] at q
      obtain ⟨b, us, e1, e2, e3, rr⟩ := h.live i m q
      exact ⟨b, us, pre_get le.bx e1, e2, e3, RDs.mono _ le _ _ rr⟩
    · have hi' : i = S.B.length := by
        have := (List.getElem?_eq_some_iff.mp q).1
        simp at this; omega
      subst hi'
      have q' : l = m := by simpa using q
      subst q'
      exact ⟨a, vs, by rw [h.bn]; simp, e, n, RDs.mono _ le _ _ r⟩
  · by_cases hi : i < S.B.length
    · rw [List.getElem?_append_left hi] at q
      obtain ⟨b, us, e1, e2, rr⟩ := h.froz i m q
      exact ⟨b, us, pre_get le.bx e1, e2, RDs.mono _ le _ _ rr⟩
    · have hi' : i = S.B.length := by
        have := (List.getElem?_eq_some_iff.mp q).1
        simp at this; omega
      subst hi'
      simp at q
  · exact List.nodup_append.mpr ⟨h.bnd, by simp, fun x hx y hy z => by
      have : y = a := by simpa using hy
      subst this; subst z; exact nb hx⟩
  · obtain ⟨b, e1, r1⟩ := h.ob i o q
    exact ⟨b, e1, r1.mono le⟩
  · obtain ⟨e1, e2, e3⟩ := h.an p hp
    refine ⟨e1, e2, fun z => ?_⟩
    rcases List.mem_append.mp z with z | z
    · exact e3 z
    · have z' : p.1 = a := by simpa using z
      exact na (z' ▸ List.mem_map_of_mem hp)
theorem js_set (i : Nat) {x : Str} {p : Pos} (h : JE g e T) (hi : g.N[i]? = some x := by rfl) (hx : Loc g.sc x := by first | exact Or.inl rfl | exact Or.inr rfl) (hs : ∀ env, env.scope = g.sc → swapsWith e (some (.Name x p)) pos.line env = pure false := by intro _ _; rfl)
    (hf : g.own x = true ∨ g.sc.names.lookup x = some .local := by first | exact .inl rfl | exact .inr rfl) :
    JS g (.Assign [.Name x p] e pos) (sSet i T) := fun X hX W tk => (ps_set (X := X) (i := i) (by rw [hX.N]; exact hX.nd) (by rw [hX.N]; exact hi) (by rw [hX.sc]; exact hx) (h X hX.toGood W tk) (hs X.env hX.sc) (hf.imp (hX.fn x) (fun q => by rw [hX.sc]; exact q))).len fun E σ H hl h => by
  obtain ⟨wd, σ', S, hs, hh, h⟩ := h
  refine ⟨wd, σ', S, hs, hh, ?_⟩
  have hlt : i < σ.length := by rw [hl, hX.N]; exact (List.getElem?_eq_some_iff.mp hi).1
  have h1 := st_read hs h
  revert h1
  cases T σ' S with
  | ok v S1 =>
    intro h1 wd1 x H1 l hr rv
    obtain ⟨v', wd2, S2, l2, hr2, rw2, h2⟩ := h1 wd1 x H1 l hr rv
    obtain ⟨wd3, l3, hr3, r3⟩ := rw2.frz hr2
    exact h2 wd3 _ H1 l3 ((hs.mono (l2.trans l3)).put i r3 hlt) hr3
  | exc c fs S1 => intro h1; exact h1
  | bad => intro h1; exact h1
theorem setB_read {W : WX} {wd : Wd} {E : Ends} {σ' : Sl} {σ : St} {i : Nat} {H : Hp} {S : Sta} {v : Vl} {x : V} (hs : SR g.K wd σ' σ) (hh : HR g.K g.cls wd S H) (rv : RV g.K wd H v x) (hlt : i < σ.length)
    (h : OkS g.K g.cls W wd E (boxIn σ' i v S)) : E.nx (σ.set i (some x)) H := by
  cases v with
  | new l =>
    obtain ⟨a, vs, rfl, e, n, nb, na, r⟩ := rv
    obtain ⟨le, hr⟩ := hh.pushBox e n nb na r
    exact h _ _ H le ((hs.mono le).put i (v := .box S.B.length) ⟨a, rfl, by rw [hh.bn]; simp⟩ hlt) hr
  | d y => exact h wd _ H (.refl _) (hs.put i (v := .d y) rv hlt) hh
  | box j => exact h wd _ H (.refl _) (hs.put i (v := .box j) rv hlt) hh
theorem js_setB (i : Nat) {x : Str} {p : Pos} (h : JE g e T) (hi : g.N[i]? = some x := by rfl) (hx : Loc g.sc x := by first | exact Or.inl rfl | exact Or.inr rfl) (hs : ∀ env, env.scope = g.sc → swapsWith e (some (.Name x p)) pos.line env = pure false := by intro _ _; rfl)
    (hf : g.own x = true ∨ g.sc.names.lookup x = some .local := by first | exact .inl rfl | exact .inr rfl) :
    JS g (.Assign [.Name x p] e pos) (sSetB i T) := fun X hX W tk => (ps_set (X := X) (i := i) (by rw [hX.N]; exact hX.nd) (by rw [hX.N]; exact hi) (by rw [hX.sc]; exact hx) (h X hX.toGood W tk) (hs X.env hX.sc) (hf.imp (hX.fn x) (fun q => by rw [hX.sc]; exact q))).len fun E σ H hl h => by
  obtain ⟨wd, σ', S, hs, hh, h⟩ := h
  refine ⟨wd, σ', S, hs, hh, ?_⟩
  have hlt : i < σ.length := by rw [hl, hX.N]; exact (List.getElem?_eq_some_iff.mp hi).1
  have h1 := st_read hs h
  revert h1
  cases T σ' S with
  | ok v S1 =>
    intro h1 wd1 x H1 l hr rv
    obtain ⟨v', wd2, S2, l2, hr2, rw2, h2⟩ := h1 wd1 x H1 l hr rv
    exact setB_read (hs.mono l2) hr2 rw2 hlt h2
  | exc c fs S1 => intro h1; exact h1
  | bad => intro h1; exact h1

/-! ### targets -/
abbrev GV := D → Sl → Option Sl
def LG (K : PySem.W.Frag) (cls : String → Addr) (T : GV) (ix : List Nat) : TG := fun v σ H Q => ∃ wd σ' S x, SR K wd σ' σ ∧ HR K cls wd S H ∧ RD K wd x v ∧ ∃ σ1', T x σ' = some σ1' ∧ ∀ σ1, SR K wd σ1' σ1 → σ1.length = σ.length → (∀ i : Nat, i ∉ ix → σ1[i]? = σ[i]?) → Q σ1 H
def JG (g : G) (tg : Expr) (T : GV) (ix : List Nat) : Prop := ∀ X, Good g X → PG X tg (LG g.K g.cls T ix)
@[simp] def gNm (i : Nat) : GV := fun x σ => some (σ.set i (some (.d x)))
theorem jg_name (i : Nat) {x : Str} (hi : g.N[i]? = some x := by rfl) (hx : Loc g.sc x := by first | exact Or.inl rfl | exact Or.inr rfl) (hf : g.own x = true ∨ g.sc.names.lookup x = some .local := by first | exact .inl rfl | exact .inr rfl) : JG g (.Name x pos) (gNm i) [i] := fun X hX => by
  have hp := pg_name (X := X) (pos := pos) (i := i) (x := x) (by rw [hX.N]; exact hX.nd) (by rw [hX.N]; exact hi) (by rw [hX.sc]; exact hx) (hf.imp (hX.fn x) (fun q => by rw [hX.sc]; exact q))
  refine ⟨fun pins s σ H v u Q I r h => hp.run pins s σ H v u Q I r ?_⟩
  obtain ⟨wd, σ', S, y, hs, hh, rd, σ1', e, q⟩ := h
  cases e
  refine q _ (hs.put i (v := .d y) rd ?_) (by simp) fun j hj => List.getElem?_set_ne (fun z => hj (by simp [z]))
  rw [I.len, hX.N]; exact (List.getElem?_eq_some_iff.mp hi).1
abbrev GVs := List D → Sl → Option Sl
def LGs (K : PySem.W.Frag) (cls : String → Addr) (T : GVs) (ix : List Nat) : TGs := fun v σ H Q => ∃ wd σ' S x, SR K wd σ' σ ∧ HR K cls wd S H ∧ RDs K wd x v ∧ ∃ σ1', T x σ' = some σ1' ∧ ∀ σ1, SR K wd σ1' σ1 → σ1.length = σ.length → (∀ i : Nat, i ∉ ix → σ1[i]? = σ[i]?) → Q σ1 H
def JGs (g : G) (tg : List Expr) (T : GVs) (ix : List Nat) : Prop := ∀ X, Good g X → PGs X tg (LGs g.K g.cls T ix)
@[simp] def gNone : GVs := fun xs σ => match xs with
  | [] => some σ
  | _ => none
@[simp] def gMore (T : GV) (Ts : GVs) : GVs := fun xs σ => match xs with
  | x :: r => match T x σ with
    | some σ1 => Ts r σ1
    | none => none
  | [] => none
theorem jgs_nil : JGs g [] gNone [] := fun X hX => by
  refine ⟨fun pins s σ H v u Q I r h => (pgs_nil (X := X)).run pins s σ H v u Q I r ?_⟩
  obtain ⟨wd, σ', S, y, hs, hh, rd, σ1', e, q⟩ := h
  unfold gNone at e
  split at e
  · cases e
    exact ⟨by simpa [RDs] using rd, q σ hs rfl fun _ _ => rfl⟩
  · cases e
theorem jgs_cons {tgs : List Expr} {t : Expr} {T : GV} {Ts : GVs} {ix jx : List Nat} (h1 : JG g t T ix) (h2 : JGs g tgs Ts jx) (hs : ∀ env, (assignEach (t :: tgs) env).map (·.2) = assign t env :: (assignEach tgs env).map (·.2) := by intro _; rfl) : JGs g (t :: tgs) (gMore T Ts) (ix ++ jx) := fun X hX => by
  refine ⟨fun pins s σ H v u Q I r h => (pgs_cons (h1 X hX) (h2 X hX) (hs X.env)).run pins s σ H v u Q I r ?_⟩
  obtain ⟨wd, σ', S, y, hs, hh, rd, σ1', e, q⟩ := h
  unfold gMore at e
  split at e
  · rename_i z zs
    split at e
    · rename_i σ2 e2
      simp only [RDs] at rd
      obtain ⟨w, wr, rfl, r1, r2⟩ := rd
      exact ⟨w, wr, rfl, wd, σ', S, z, hs, hh, r1, σ2, e2, fun σ3 hs3 hl3 hx3 => ⟨wd, σ2, S, zs, hs3, hh, r2, σ1', e, fun σ4 hs4 hl4 hx4 => q σ4 hs4 (hl4.trans hl3) fun i hi => by rw [hx4 i (fun z => hi (List.mem_append_right _ z)), hx3 i (fun z => hi (List.mem_append_left _ z))]⟩⟩
    · cases e
  · cases e
@[simp] def gTp (n : Nat) (Ts : GVs) : GV := fun x σ => match x with
  | .tup l => if l.length = n then Ts l σ else none
  | _ => none
theorem jg_tup {tgs : List Expr} {k n : Nat} {Ts : GVs} {ix : List Nat} (h : JGs g tgs Ts ix) (hn : ∀ env, (assignEach tgs env).length = n := by intro _; rfl) (hst : ∀ env, (assignEach tgs env).findIdx? (·.1) = none := by intro _; rfl) : JG g (.Tuple tgs k pos) (gTp n Ts) ix := fun X hX => by
  have hp := pg_tup (pos := pos) (k := k) (n := n) hX.calm (h X hX) (hn X.env) (hst X.env)
  refine ⟨fun pins s σ H v u Q I r h => hp.run pins s σ H v u Q I r ?_⟩
  obtain ⟨wd, σ', S, y, hs, hh, rd, σ1', e, q⟩ := h
  unfold gTp at e
  split at e
  · rename_i l
    split at e
    · rename_i hl
      obtain ⟨a, vs, rfl, t, rr⟩ := tup_at hh (v := .d (.tup l)) rd rfl
      exact ⟨a, vs, rfl, by rw [hX.K]; exact t, by rw [← rr.length]; exact hl, wd, σ', S, l, hs, hh, rr, σ1', e, q⟩
    · cases e
  · cases e
/-- target = value, the target a tuple of names -/
@[simp] noncomputable def sUnp (G : GV) (T : EV) : SV := fun σ S => (T σ S).st σ fun v S1 => match toD (frz v) S1 with
  | some (x, S2) => match G x σ with
    | some σ1 => .nxt σ1 S2
    | none => .bad
  | none => .bad
theorem js_unp {tg : Expr} {Gt : GV} {ix : List Nat} (h : JE g e T) (hg : JG g tg Gt ix) (hs : ∀ env, swapsWithSole [tg] e pos.line env = pure false := by intro _; rfl) (hw : ∀ env, swappedStores [tg] e env = pure none := by intro _; rfl) (h1 : ∀ env, (assignEach [tg] env).map (·.2) = [assign tg env] := by intro _; rfl) :
    JS g (.Assign [tg] e pos) (sUnp Gt T) := fun X hX W tk => (ps_asg (h X hX.toGood W tk) (hg X hX.toGood) (hs X.env) (hw X.env) (h1 X.env)).imp fun E σ H h => by
  obtain ⟨wd, σ', S, hs, hh, h⟩ := h
  refine ⟨wd, σ', S, hs, hh, ?_⟩
  have h1 := st_read hs h
  revert h1
  cases T σ' S with
  | ok v S1 =>
    intro h1 wd1 x H1 l hr rv
    obtain ⟨v', wd2, S2, l2, hr2, rw2, h2⟩ := h1 wd1 x H1 l hr rv
    obtain ⟨wd3, l3, hr3, r3⟩ := rw2.frz hr2
    split at h2
    · rename_i y S3 ey
      obtain ⟨wd4, l4, hr4, r4⟩ := RW.toD hr3 r3 ey
      split at h2
      · rename_i σ1 e1
        refine ⟨wd4, σ', S3, y, ((hs.mono l2).mono l3).mono l4, hr4, r4, σ1, e1, fun σ2 hs2 _ _ => h2 wd4 σ2 H1 (l3.trans l4) hs2 hr4⟩
      · exact h2.elim
    · exact h2.elim
  | exc c fs S1 => intro h1; exact h1
  | bad => intro h1; exact h1

/-! ### for -/
/-- what a loop walks: the items, and what must stand at each turn -/
abbrev IV := Sl → Sta → Out (List D × (Sta → Bool))
/-- .. whatever lists are in the making -/
structure LeX (a b : Wd) : Prop where
  fz : ∀ p o, a.fz p = some o → b.fz p = some o
  bx : a.bx <+: b.bx
  ob : a.ob <+: b.ob
theorem Wd.Le.x {a b : Wd} (h : a.Le b) : LeX a b := ⟨h.fz, h.bx, h.ob⟩
theorem LeX.le {a b : Wd} (h : LeX a b) : a.Le { b with an := a.an } := ⟨h.fz, h.bx, h.ob, rfl⟩
theorem RW.x {K a b v x} (r : RW K a v x) (h : LeX a b) : RW K b v x := by
  have r1 := r.mono h.le
  cases v with
  | d y => exact RD.same (wd := { b with an := a.an }) (wd' := b) rfl rfl y x r1
  | box i => exact r1
  | new l => exact r1
def ItOk (K : PySem.W.Frag) (cls : String → Addr) (wd : Wd) (J : It) (p : List D × (Sta → Bool)) : Prop :=
  ∀ wd2 S H, LeX wd wd2 → HR K cls wd2 S H → p.2 S = true → J.stop p.1.length H ∧
    ∀ (i : Nat) x, p.1[i]? = some x → J.go i H ∧ ∀ v H', J.yld i H v H' → ∃ wd3, wd2.Le wd3 ∧ HR K cls wd3 S H' ∧ RD K wd3 x v
def OkI (K : PySem.W.Frag) (cls : String → Addr) (W : WX) (σ : St) (wd : Wd) (R : It → Hp → Prop) : Out (List D × (Sta → Bool)) → Prop
  | .ok p S1 => ∀ wd1 H1 J, wd.Le wd1 → HR K cls wd1 S1 H1 → ItOk K cls wd1 J p → R J H1
  | .exc c fs S1 => ∀ wd1 H1 cv d, wd.Le wd1 → HR K cls wd1 S1 H1 → XR K cls wd1 H1 c fs cv d → W cv d σ H1
  | .bad => False
def LI (K : PySem.W.Frag) (cls : String → Addr) (W : WX) (I : IV) : TI := fun σ H R => ∃ wd σ' S, SR K wd σ' σ ∧ HR K cls wd S H ∧ OkI K cls W σ wd R (I σ' S)
def JI (g : G) (tg it : Expr) (I : IV) : Prop := ∀ X, Good g X → ∀ W, Takes X W → PI X tg it (LI g.K g.cls W I)
theorem _root_.L2.PI.imp {X : Cx} {tg e : Expr} {t t' : TI} (h : PI X tg e t) (i : ∀ σ H Q, t' σ H Q → t σ H Q) : PI X tg e t' := ⟨fun pins s σ H Q I q => h.run pins s σ H Q I (i σ H Q q)⟩
/-- a list, whose items stay -/
noncomputable def itemsL (v : Vl) (S : Sta) : Out (List D × (Sta → Bool)) := match rdlOf v S with
  | some l => .ok (l, fun S1 => decide (rdlOf v S1 = some l)) S
  | none => .bad
def itemsT (v : Vl) (S : Sta) : Out (List D × (Sta → Bool)) := match v with
  | .d (.tup l) => .ok (l, fun _ => true) S
  | _ => .bad
@[simp] noncomputable def iOf (f : Vl → Sta → Out (List D × (Sta → Bool))) (T : EV) : IV := fun σ S => (T σ S).bind fun v S1 => f (frz v) S1
theorem OkI_opd {W : WX} {σ : St} {wd : Wd} {o : Out Vl} {F : Vl → Sta → Out (List D × (Sta → Bool))} {R : It → Hp → Prop} (h : OkI g.K g.cls W σ wd R (o.bind fun v S1 => F (frz v) S1)) :
    OkE g.K g.cls W σ wd (fun x H1 => ∃ v wd1 S1, wd.Le wd1 ∧ HR g.K g.cls wd1 S1 H1 ∧ RW g.K wd1 v x ∧ OkI g.K g.cls W σ wd1 R (F v S1)) o := by
  cases o with
  | ok v S1 =>
    refine fun wd1 x H1 l hr rv => ?_
    obtain ⟨wd2, l2, hr2, rw2⟩ := rv.frz hr
    refine ⟨frz v, wd2, S1, l.trans l2, hr2, rw2, ?_⟩
    have h' : OkI g.K g.cls W σ wd R (F (frz v) S1) := h
    revert h'
    cases F (frz v) S1 with
    | ok p S2 => exact fun h wd3 H3 J l3 => h wd3 H3 J ((l.trans l2).trans l3)
    | exc c fs S2 => exact fun h wd3 H3 cv d l3 => h wd3 H3 cv d ((l.trans l2).trans l3)
    | bad => exact fun h => h
  | exc c fs S1 => exact h
  | bad => exact h
theorem ji_list {tg : Expr} (h : JE g e T) : JI g tg e (iOf itemsL T) := fun X hX W tk => (pi_list (h X hX W tk)).imp fun σ H R h => by
  obtain ⟨wd, σ', S, hs, hh, h⟩ := h
  refine ⟨wd, σ', S, hs, hh, ?_⟩
  have h1 := OkI_opd (F := itemsL) h
  revert h1
  cases T σ' S with
  | ok v S1 =>
    intro h1 wd1 x H1 l hr rv
    obtain ⟨v', wd2, S2, l2, hr2, rw2, h2⟩ := h1 wd1 x H1 l hr rv
    unfold itemsL at h2
    split at h2
    · rename_i m em
      obtain ⟨a, vs, rfl, t, rr⟩ := rdl_at hr2 rw2 em
      refine ⟨a, rfl, ⟨vs, by rw [hX.K]; exact t⟩, h2 wd2 H1 _ (.refl _) hr2 ?_⟩
      intro wd3 S3 H3 l3 hr3 hc
      have ec : rdlOf v' S3 = some m := of_decide_eq_true hc
      obtain ⟨a', us, e1, t3, rr3⟩ := rdl_at hr3 (rw2.x l3) ec
      cases e1
      rw [hX.K]
      refine ⟨⟨us, t3, by rw [← rr3.length]; exact Nat.le_refl _⟩, fun i y ey => ?_⟩
      obtain ⟨w, ew, rw'⟩ := rr3.get' ey
      refine ⟨⟨us, w, t3, ew⟩, fun v2 H2 hy => ?_⟩
      obtain ⟨rfl, hy⟩ := hy
      have e2 := hy us t3
      rw [ew] at e2; cases e2
      exact ⟨wd3, .refl _, hr3, rw'⟩
    · exact h2.elim
  | exc c fs S1 => intro h1; exact h1
  | bad => intro h1; exact h1
theorem ji_tup {tg : Expr} (h : JE g e T) : JI g tg e (iOf itemsT T) := fun X hX W tk => (pi_tup (h X hX W tk)).imp fun σ H R h => by
  obtain ⟨wd, σ', S, hs, hh, h⟩ := h
  refine ⟨wd, σ', S, hs, hh, ?_⟩
  have h1 := OkI_opd (F := itemsT) h
  revert h1
  cases T σ' S with
  | ok v S1 =>
    intro h1 wd1 x H1 l hr rv
    obtain ⟨v', wd2, S2, l2, hr2, rw2, h2⟩ := h1 wd1 x H1 l hr rv
    unfold itemsT at h2
    split at h2
    · rename_i m
      obtain ⟨a, vs, rfl, t, rr⟩ := tup_at hr2 rw2 rfl
      refine ⟨a, rfl, ⟨vs, by rw [hX.K]; exact t⟩, h2 wd2 H1 _ (.refl _) hr2 ?_⟩
      intro wd3 S3 H3 l3 hr3 hc
      obtain ⟨a', us, e1, t3, rr3⟩ := tup_at hr3 (rw2.x l3) rfl
      cases e1
      rw [hX.K]
      refine ⟨⟨us, t3, by rw [← rr3.length]; exact Nat.le_refl _⟩, fun i y ey => ?_⟩
      obtain ⟨w, ew, rw'⟩ := rr3.get' ey
      refine ⟨⟨us, w, t3, ew⟩, fun v2 H2 hy => ?_⟩
      obtain ⟨rfl, hy⟩ := hy
      have e2 := hy us t3
      rw [ew] at e2; cases e2
      exact ⟨wd3, .refl _, hr3, rw'⟩
    · exact h2.elim
  | exc c fs S1 => intro h1; exact h1
  | bad => intro h1; exact h1
/-- range(n), range(m, n) -/
noncomputable def itemsR1 (vs : List Vl) (S : Sta) : Out (List D × (Sta → Bool)) := match vs with
  | [.d (.int j)] => if -(2 ^ 62) ≤ j ∧ j < 2 ^ 62 then .ok ((List.range j.toNat).map fun k => D.int (0 + ((k : Nat) : Int)), fun _ => true) S else .bad
  | _ => .bad
noncomputable def itemsR2 (vs : List Vl) (S : Sta) : Out (List D × (Sta → Bool)) := match vs with
  | [.d (.int i), .d (.int j)] => if (-(2 ^ 62) ≤ i ∧ i < 2 ^ 62) ∧ -(2 ^ 62) ≤ j ∧ j < 2 ^ 62 then .ok ((List.range (j - i).toNat).map fun k => D.int (i + ((k : Nat) : Int)), fun _ => true) S else .bad
  | _ => .bad
@[simp] noncomputable def iRan1 (Ts : EVs) : IV := fun σ S => (Ts σ S).bind itemsR1
@[simp] noncomputable def iRan2 (Ts : EVs) : IV := fun σ S => (Ts σ S).bind itemsR2
theorem OkI_bindA {W : WX} {σ : St} {wd : Wd} {o : Out (List Vl)} {F : List Vl → Sta → Out (List D × (Sta → Bool))} {R : It → Hp → Prop} (h : OkI g.K g.cls W σ wd R (o.bind F)) :
    OkA g.K g.cls W σ wd (fun x H1 => ∃ v wd1 S1, wd.Le wd1 ∧ HR g.K g.cls wd1 S1 H1 ∧ RWs g.K wd1 v x ∧ OkI g.K g.cls W σ wd1 R (F v S1)) o := by
  cases o with
  | ok v S1 =>
    refine fun wd1 x H1 l hr rv => ⟨v, wd1, S1, l, hr, rv, ?_⟩
    have h' : OkI g.K g.cls W σ wd R (F v S1) := h
    revert h'
    cases F v S1 with
    | ok p S2 => exact fun h wd3 H3 J l3 => h wd3 H3 J (l.trans l3)
    | exc c fs S2 => exact fun h wd3 H3 cv d l3 => h wd3 H3 cv d (l.trans l3)
    | bad => exact fun h => h
  | exc c fs S1 => exact h
  | bad => exact h
theorem range_ok {K cls wd} {lo : Int} {n : Nat} {l : List D} (hl : l.length = n) (h : ∀ i : Nat, i < n → l[i]? = some (D.int (lo + ((i : Nat) : Int)))) : ItOk K cls wd (Itr lo n) (l, fun _ => true) := by
  intro wd2 S H _ hr _
  refine ⟨Nat.le_of_eq hl.symm, fun i x e => ?_⟩
  have hi : i < n := by rw [← hl]; exact (List.getElem?_eq_some_iff.mp e).1
  refine ⟨hi, fun v H' hy => ?_⟩
  obtain ⟨rfl, rfl⟩ := hy
  rw [h i hi] at e; cases e
  exact ⟨wd2, .refl _, hr, by simp [RD]⟩
theorem ji_range1 {tg : Expr} {p : Pos} (hg : GlS g "range") (hm : g.mg "range" = none) (ha : JA g [e] Ts) (he : ∀ env, starEach [e] env = [(false, eval e env)] := by intro _; rfl) : JI g tg (.Call (.Name "range" p) [e] [] pos) (iRan1 Ts) := fun X hX W tk =>
  (pi_range1 (gl_of hX hg) (by rw [hX.mg]; exact hm) (ha X hX W tk) (he X.env)).imp fun σ H R h => by
  obtain ⟨wd, σ', S, hs, hh, h⟩ := h
  refine ⟨wd, σ', S, hs, hh, ?_⟩
  have h1 := OkI_bindA (F := itemsR1) h
  revert h1
  cases Ts σ' S with
  | ok v S1 =>
    intro h1 wd1 x H1 l hr rv
    obtain ⟨v', wd2, S2, l2, hr2, rw2, h2⟩ := h1 wd1 x H1 l hr rv
    unfold itemsR1 at h2
    split at h2
    · rename_i j
      split at h2
      · rename_i c
        obtain ⟨z, rfl, rz⟩ := rws1 rw2
        exact ⟨j, by rw [rd_int rz], c.1, c.2, h2 wd2 H1 _ (.refl _) hr2 (range_ok (by simp) fun i hi => by simp [hi])⟩
      · exact h2.elim
    · exact h2.elim
  | exc c fs S1 => intro h1; exact h1
  | bad => intro h1; exact h1
theorem rws2 {K wd v u xs} (r : RWs K wd [v, u] xs) : ∃ x y, xs = [x, y] ∧ RW K wd v x ∧ RW K wd u y := by
  obtain ⟨x, xr, rfl, r1, r2⟩ := r
  obtain ⟨y, rfl, r3⟩ := rws1 r2
  exact ⟨x, y, rfl, r1, r3⟩
theorem ji_range2 {tg : Expr} {p : Pos} (hg : GlS g "range") (hm : g.mg "range" = none) (ha : JA g [a, b] Ts) (he : ∀ env, starEach [a, b] env = [(false, eval a env), (false, eval b env)] := by intro _; rfl) (he2 : ∀ env, starEach [b] env = [(false, eval b env)] := by intro _; rfl) : JI g tg (.Call (.Name "range" p) [a, b] [] pos) (iRan2 Ts) := fun X hX W tk =>
  (pi_range2 (gl_of hX hg) (by rw [hX.mg]; exact hm) (ha X hX W tk) (he X.env) (he2 X.env)).imp fun σ H R h => by
  obtain ⟨wd, σ', S, hs, hh, h⟩ := h
  refine ⟨wd, σ', S, hs, hh, ?_⟩
  have h1 := OkI_bindA (F := itemsR2) h
  revert h1
  cases Ts σ' S with
  | ok v S1 =>
    intro h1 wd1 x H1 l hr rv
    obtain ⟨v', wd2, S2, l2, hr2, rw2, h2⟩ := h1 wd1 x H1 l hr rv
    unfold itemsR2 at h2
    split at h2
    · rename_i i j
      split at h2
      · rename_i c
        obtain ⟨z, y, rfl, rz, ry⟩ := rws2 rw2
        exact ⟨i, j, by rw [rd_int rz, rd_int ry], ⟨c.1.1, c.1.2, c.2.1, c.2.2⟩, h2 wd2 H1 _ (.refl _) hr2 (range_ok (by simp) fun i hi => by simp [hi])⟩
      · exact h2.elim
    · exact h2.elim
  | exc c fs S1 => intro h1; exact h1
  | bad => intro h1; exact h1
/-- the loop over the items -/
noncomputable def forL (chk : Sta → Bool) (tg : GV) (body : SV) : List D → SV
  | [], σ, S => if chk S = true then .nxt σ S else .bad
  | x :: r, σ, S => if chk S = true then match tg x σ with
    | none => .bad
    | some σ1 => match body σ1 S with
      | .nxt σ2 S2 => forL chk tg body r σ2 S2
      | .cnt σ2 S2 => forL chk tg body r σ2 S2
      | .brk σ2 S2 => .nxt σ2 S2
      | o => o
    else .bad
@[simp] noncomputable def sFor (I : IV) (tg : GV) (body : SV) : SV := fun σ S => match I σ S with
  | .ok p S1 => forL p.2 tg body p.1 σ S1
  | .exc c fs S1 => .exc c fs σ S1
  | .bad => .bad
theorem js_for {tg it : Expr} {I : IV} {Gt : GV} {ix : List Nat} {bd : List Stmt} {B : SV} (hi : JI g tg it I) (hg : JG g tg Gt ix) (hb : JSs g bd B) (hs : ∀ env x, foldedSetIterable it env x = pure x := by intro _ _; rfl) : JS g (.For tg it bd [] pos) (sFor I Gt B) := fun X hX W tk =>
  (ps_for hX.own hX.calm (hi X hX.toGood W tk) (hg X hX.toGood) (hb X hX W tk) (hs X.env)).imp fun E σ H h => by
  obtain ⟨wd, σ', S, hs, hh, h⟩ := h
  refine ⟨wd, σ', S, hs, hh, ?_⟩
  unfold sFor at h
  revert h
  cases I σ' S with
  | exc c fs S1 => exact fun h wd1 H1 cv d l hr hx => h wd1 σ H1 cv d l (hs.mono l) hr hx
  | bad => exact fun h => h
  | ok p S1 =>
    intro h wd1 H1 J l1 hr1 hJ
    obtain ⟨items, chk⟩ := p
    refine ⟨fun i m σ2 H2 => ∃ wd2 σ2' S2, wd1.Le wd2 ∧ SR g.K wd2 σ2' σ2 ∧ HR g.K g.cls wd2 S2 H2 ∧ m = items.length - i ∧ i ≤ items.length ∧ OkS g.K g.cls W wd2 E (forL chk Gt B (items.drop i) σ2' S2),
      ⟨items.length, wd1, σ', S1, .refl _, hs.mono l1, hr1, by simp, Nat.zero_le _, OkS.mono l1 h⟩, ?_⟩
    rintro i m σ2 H2 ⟨wd2, σ2', S2, l2, hs2, hr2, rfl, hi, h2⟩
    by_cases hlt : i < items.length
    · obtain ⟨x, ex⟩ : ∃ x, items[i]? = some x := ⟨_, List.getElem?_eq_getElem hlt⟩
      have ed : items.drop i = x :: items.drop (i + 1) := by
        rw [List.drop_eq_getElem_cons hlt]
        have := List.getElem?_eq_getElem hlt
        rw [ex] at this; cases this; rfl
      rw [ed] at h2
      unfold forL at h2
      split at h2
      · rename_i hc
        obtain ⟨_, hgo⟩ := hJ wd2 S2 H2 l2.x hr2 hc
        obtain ⟨go, hy⟩ := hgo i x ex
        refine .inr ⟨go, fun σ3 H3 => ∃ m', m' < items.length - i ∧ ∃ wd3 σ3' S3, wd1.Le wd3 ∧ SR g.K wd3 σ3' σ3 ∧ HR g.K g.cls wd3 S3 H3 ∧ m' = items.length - (i + 1) ∧ i + 1 ≤ items.length ∧ OkS g.K g.cls W wd3 E (forL chk Gt B (items.drop (i + 1)) σ3' S3), fun σ3 H3 q => q, fun v H3 y => ?_⟩
        obtain ⟨wd3, l3, hr3, rd⟩ := hy v H3 y
        split at h2
        · exact h2.elim
        · rename_i σ4 e4
          refine ⟨wd3, σ2', S2, x, hs2.mono l3, hr3, rd, σ4, e4, fun σ5 hs5 _ _ => ⟨wd3, σ4, S2, hs5, hr3, ?_⟩⟩
          have h3 := OkS.mono l3 h2
          revert h3
          cases B σ4 S2 with
          | nxt σ6 S6 => exact fun h3 wd7 σ7 H7 l7 hs7 hr7 => ⟨items.length - (i + 1), by omega, wd7, σ6, S6, (l2.trans l3).trans l7, hs7, hr7, rfl, hlt, OkS.mono l7 h3⟩
          | cnt σ6 S6 => exact fun h3 wd7 σ7 H7 l7 hs7 hr7 => ⟨items.length - (i + 1), by omega, wd7, σ6, S6, (l2.trans l3).trans l7, hs7, hr7, rfl, hlt, OkS.mono l7 h3⟩
          | brk σ6 S6 => exact fun h3 => h3
          | ret v S6 => exact fun h3 => h3
          | exc c fs σ6 S6 => exact fun h3 => h3
          | bad => exact fun h3 => h3
      · exact h2.elim
    · have e : i = items.length := by omega
      subst e
      rw [List.drop_length] at h2
      unfold forL at h2
      split at h2
      · rename_i hc
        obtain ⟨st, _⟩ := hJ wd2 S2 H2 l2.x hr2 hc
        exact .inl ⟨st, h2 wd2 σ2 H2 (.refl _) hs2 hr2⟩
      · exact h2.elim
/-- while, by so many turns at most -/
noncomputable def whileN (TA : TV) (body : SV) : Nat → SV
  | 0, σ, S => .bad
  | n + 1, σ, S => (TA σ S).stB σ fun k S1 => if k = true then match body σ S1 with
      | .nxt σ2 S2 => whileN TA body n σ2 S2
      | .cnt σ2 S2 => whileN TA body n σ2 S2
      | .brk σ2 S2 => .nxt σ2 S2
      | o => o
    else .nxt σ S1
/-- some number of turns is enough; the number is no matter -/
noncomputable def sWhile (TA : TV) (body : SV) : SV := fun σ S => if h : ∃ n, whileN TA body n σ S ≠ .bad then whileN TA body h.choose σ S else .bad
theorem whileN_mono (TA : TV) (body : SV) : ∀ (n : Nat) (σ : Sl) (S : Sta), whileN TA body n σ S ≠ .bad → whileN TA body (n + 1) σ S = whileN TA body n σ S
  | 0, σ, S, h => absurd rfl h
  | n + 1, σ, S, h => by
    unfold whileN at h ⊢
    cases hT : TA σ S with
    | ok k S1 =>
      rw [hT] at h
      simp only [Out.stB] at h ⊢
      cases k with
      | false => rfl
      | true =>
        simp only [if_true] at h ⊢
        cases hB : body σ S1 with
        | nxt σ2 S2 => rw [hB] at h; exact whileN_mono TA body n σ2 S2 h
        | cnt σ2 S2 => rw [hB] at h; exact whileN_mono TA body n σ2 S2 h
        | _ => rfl
    | exc c fs S1 => rfl
    | bad => rfl
theorem whileN_more (TA : TV) (body : SV) {n : Nat} {σ : Sl} {S : Sta} (h : whileN TA body n σ S ≠ .bad) (k : Nat) : whileN TA body (n + k) σ S = whileN TA body n σ S := by
  induction k with
  | zero => rfl
  | succ k ih => rw [← Nat.add_assoc, whileN_mono TA body (n + k) σ S (by rw [ih]; exact h), ih]
theorem sWhile_eq (TA : TV) (body : SV) {n : Nat} {σ : Sl} {S : Sta} (h : whileN TA body n σ S ≠ .bad) : sWhile TA body σ S = whileN TA body n σ S := by
  unfold sWhile
  have ex : ∃ n, whileN TA body n σ S ≠ .bad := ⟨n, h⟩
  rw [dif_pos ex]
  have e1 := whileN_more TA body h ex.choose
  have e2 := whileN_more TA body ex.choose_spec n
  rw [Nat.add_comm] at e2
  rw [← e2, e1]
theorem js_while {c : Expr} {bd : List Stmt} {TA : TV} {B : SV} (hc : JT g c TA) (hb : JSs g bd B) : JS g (.While c bd [] pos) (sWhile TA B) := fun X hX W tk =>
  (ps_while hX.own (hc X hX.toGood W tk) (hb X hX W tk)).imp fun E σ H h => by
  obtain ⟨wd, σ', S, hs, hh, h⟩ := h
  unfold sWhile at h
  split at h
  · rename_i ex
    refine ⟨fun m σ2 H2 => ∃ wd2 σ2' S2, SR g.K wd2 σ2' σ2 ∧ HR g.K g.cls wd2 S2 H2 ∧ OkS g.K g.cls W wd2 E (whileN TA B m σ2' S2), ⟨_, wd, σ', S, hs, hh, h⟩, ?_⟩
    rintro m σ2 H2 ⟨wd2, σ2', S2, hs2, hr2, h2⟩
    cases m with
    | zero => exact h2.elim
    | succ n =>
      unfold whileN at h2
      refine ⟨wd2, σ2', S2, hs2, hr2, ?_⟩
      have h3 := stB_read hs2 h2
      revert h3
      cases TA σ2' S2 with
      | exc c fs S3 => exact fun h => h
      | bad => exact fun h => h
      | ok k S3 =>
        intro h3 wd3 H3 l3 hr3
        obtain ⟨wd4, S4, l4, hr4, h4⟩ := h3 wd3 H3 l3 hr3
        cases k with
        | false =>
          rw [if_neg Bool.false_ne_true]
          exact h4 wd4 σ2 H3 (.refl _) (hs2.mono l4) hr4
        | true =>
          rw [if_pos rfl]
          refine ⟨fun σ5 H5 => ∃ wd5 σ5' S5, SR g.K wd5 σ5' σ5 ∧ HR g.K g.cls wd5 S5 H5 ∧ OkS g.K g.cls W wd5 E (whileN TA B n σ5' S5), fun σ5 H5 q => ⟨n, Nat.lt_succ_self _, q⟩, wd4, σ2', S4, hs2.mono l4, hr4, ?_⟩
          simp only [if_true] at h4
          revert h4
          cases B σ2' S4 with
          | nxt σ6 S6 => exact fun h4 wd7 σ7 H7 l7 hs7 hr7 => ⟨wd7, σ6, S6, hs7, hr7, OkS.mono l7 h4⟩
          | cnt σ6 S6 => exact fun h4 wd7 σ7 H7 l7 hs7 hr7 => ⟨wd7, σ6, S6, hs7, hr7, OkS.mono l7 h4⟩
          | brk σ6 S6 => exact fun h4 => h4
          | ret v S6 => exact fun h4 => h4
          | exc c fs σ6 S6 => exact fun h4 => h4
          | bad => exact fun h4 => h4
  · exact h.elim
end
end Ev

set_option Elab.async false
set_option linter.all false
set_option maxRecDepth 100000
set_option maxHeartbeats 1000000
/-! Ev6: defs and their calls, methods, constructors, fields. -/
namespace Ev
open PySem PySem.Spec PyProof.Rows L2
open Classical
section
variable {K : PySem.W.Frag} {cls : String → Addr}
/-! ### a frame's own boxes go -/
def Wd.cutB (wd : Wd) (n : Nat) : Wd := { wd with bx := wd.bx.take n }
theorem RD.cut_ {wd : Wd} {n x v} (h : RD K wd x v) : RD K (wd.cutB n) x v := RD.same (wd := wd) (wd' := wd.cutB n) rfl rfl x v h
theorem RDs.cut_ {wd : Wd} {n x v} (h : RDs K wd x v) : RDs K (wd.cutB n) x v := RDs.same (wd := wd) (wd' := wd.cutB n) rfl rfl x v h
def cutB (n : Nat) (S : Sta) : Sta := { S with B := S.B.take n }
theorem HR.cutB {wd S H} (h : HR K cls wd S H) (n : Nat) : HR K cls (wd.cutB n) (Ev.cutB n S) H := by
  have get : ∀ {i : Nat} {x}, (S.B.take n)[i]? = some x → i < n ∧ S.B[i]? = some x := fun {i x} e => by
    have hi : i < (S.B.take n).length := (List.getElem?_eq_some_iff.mp e).1
    have hn : i < n := by rw [List.length_take] at hi; omega
    exact ⟨hn, by rwa [List.getElem?_take_of_lt hn] at e⟩
  have bget : ∀ {i : Nat} {a : Addr}, i < n → wd.bx[i]? = some a → (wd.bx.take n)[i]? = some a := fun {i a} hi e => by rw [List.getElem?_take_of_lt hi]; exact e
  refine ⟨h.fz, by simp [Ev.cutB, Wd.cutB, h.bn], fun i l e => ?_, fun i l e => ?_, h.bnd.sublist (List.take_sublist _ _), h.on, h.ond, fun i o e => ?_, fun p hp => ?_, h.annd, h.nfz⟩
  · obtain ⟨hi, e⟩ := get e
    obtain ⟨a, vs, e1, e2, e3, r⟩ := h.live i l e
    exact ⟨a, vs, bget hi e1, e2, e3, r.cut_⟩
  · obtain ⟨hi, e⟩ := get e
    obtain ⟨a, vs, e1, e2, r⟩ := h.froz i l e
    exact ⟨a, vs, bget hi e1, e2, r.cut_⟩
  · obtain ⟨a, e1, r⟩ := h.ob i o e
    exact ⟨a, e1, ObAt.same (wd := wd) rfl rfl r⟩
  · obtain ⟨e1, e2, e3⟩ := h.an p hp
    exact ⟨e1, e2, fun z => e3 (List.mem_of_mem_take z)⟩
theorem Le.cutB {wd0 wd : Wd} (l : wd0.Le wd) {n : Nat} (hn : wd0.bx.length = n) : wd0.Le (wd.cutB n) := by
  refine ⟨l.fz, ?_, l.ob, l.an⟩
  obtain ⟨t, e⟩ := l.bx
  show wd0.bx <+: wd.bx.take n
  rw [← e, ← hn, List.take_left']
  · exact List.prefix_refl _
  · rfl
theorem XR.same {wd wd' : Wd} {H c fs cv d} (hf : wd'.fz = wd.fz) (ho : wd'.ob = wd.ob) (h : XR K cls wd H c fs cv d) : XR K cls wd' H c fs cv d := by
  obtain ⟨e, h⟩ := h
  refine ⟨e, ?_⟩
  cases fs with
  | none => exact h
  | some fs =>
    obtain ⟨a, vfs, e1, e2, h⟩ := h
    exact ⟨a, vfs, e1, e2, fun f x q => let ⟨v, q1, q2⟩ := h f x q; ⟨v, q1, RD.same hf ho _ _ q2⟩⟩
/-- how a body's end is the call's -/
noncomputable def fin (n : Nat) (o : SOut) : Out Vl := match o with
  | .nxt _ S => .ok (.d .non) (cutB n S)
  | .ret v S => match v with
    | .d x => .ok (.d x) (cutB n S)
    | .new l => .ok (.new l) (cutB n S)
    | .box i => if i < n then .ok (.box i) (cutB n S) else match S.B[i]? with
      | some (true, l) => .ok (.new l) (cutB n S)
      | some (false, l) => .ok (.d (.lst l)) (cutB n S)
      | none => .bad
  | .exc c fs _ S => .exc c fs (cutB n S)
  | .brk _ _ => .bad
  | .cnt _ _ => .bad
  | .bad => .bad
abbrev FV := List Vl → Sta → Out Vl
noncomputable def mkFn (n m : Nat) (T : SV) : FV := fun args S => if args.length = n then fin S.B.length (T (args.map some ++ List.replicate m none) S) else .bad
def OkC (K : PySem.W.Frag) (cls : String → Addr) (wd : Wd) (Q : VK) (E : XK) : Out Vl → Prop
  | .ok v S1 => ∀ wd1 x H1, wd.Le wd1 → HR K cls wd1 S1 H1 → RV K wd1 H1 v x → Q x H1
  | .exc c fs S1 => ∀ wd1 H1 cv d, wd.Le wd1 → HR K cls wd1 S1 H1 → XR K cls wd1 H1 c fs cv d → E cv d H1
  | .bad => False
/-- the promise of a def, from its run -/
def spF (K : PySem.W.Frag) (cls : String → Addr) (n : Nat) (F : FV) : Sp := fun vs H Q E => vs.length = n ∧ ∃ wd args S, HR K cls wd S H ∧ RWs K wd args vs ∧ OkC K cls wd Q E (F args S)
theorem RWs.length : ∀ {wd} {as : List Vl} {vs : List V}, RWs K wd as vs → as.length = vs.length
  | wd, [], vs, h => by
    have h' : vs = [] := h
    rw [h']; rfl
  | wd, x :: r, vs, h => by
    obtain ⟨v, vr, rfl, _, h2⟩ := h
    simp [RWs.length h2]
theorem RWs.get : ∀ {wd} {as : List Vl} {vs : List V} {i : Nat} {a : Vl}, RWs K wd as vs → as[i]? = some a → ∃ v, vs[i]? = some v ∧ RW K wd a v
  | wd, [], vs, i, a, h, e => by simp at e
  | wd, x :: r, vs, i, a, h, e => by
    obtain ⟨v, vr, rfl, h1, h2⟩ := h
    cases i with
    | zero => simp at e; subst e; exact ⟨v, rfl, h1⟩
    | succ i => simpa using RWs.get (i := i) h2 (by simpa using e)
theorem RWs.append : ∀ {wd} {as bs : List Vl} {vs us : List V}, RWs K wd as vs → RWs K wd bs us → RWs K wd (as ++ bs) (vs ++ us)
  | wd, [], bs, vs, us, h, k => by
    have h' : vs = [] := h
    rw [h']; exact k
  | wd, x :: r, bs, vs, us, h, k => by
    obtain ⟨v, vr, rfl, h1, h2⟩ := h
    exact ⟨v, _, rfl, h1, RWs.append h2 k⟩
theorem RWs.ofD : ∀ {wd} {l : List D} {vs : List V}, RDs K wd l vs → RWs K wd (l.map .d) vs
  | wd, [], vs, h => by
    have h' : vs = [] := by simpa [RDs] using h
    exact h'
  | wd, x :: r, vs, h => by
    simp only [RDs] at h
    obtain ⟨v, vr, rfl, h1, h2⟩ := h
    exact ⟨v, vr, rfl, h1, RWs.ofD h2⟩
theorem sr_start {wd : Wd} {N : List Str} {args : List Vl} {vs : List V} (r : RWs K wd args vs) : SR K wd (args.map some ++ List.replicate (N.length - args.length) none) (L2.start N vs) := fun i v e => by
  by_cases hi : i < args.length
  · rw [List.getElem?_append_left (by simpa using hi), List.getElem?_map] at e
    obtain ⟨a, ea, rfl⟩ : ∃ a, args[i]? = some a ∧ a = v := by
      cases q : args[i]? with
      | none => rw [q] at e; cases e
      | some b => rw [q] at e; cases e; exact ⟨_, rfl, rfl⟩
    obtain ⟨x, ex, rx⟩ := r.get ea
    refine ⟨x, ?_, rx⟩
    unfold L2.start
    rw [List.getElem?_append_left (by rw [List.length_map, ← r.length]; exact hi), List.getElem?_map, ex]; rfl
  · rw [List.getElem?_append_right (by simpa using hi)] at e
    have := List.mem_of_getElem? e
    rw [List.mem_replicate] at this
    exact absurd this.2 (by simp)
end
section
variable {g : G} {x qual : Str} {params : Arguments} {body : List Stmt} {scope : Scope} {dvs : List V} {kws : List (Str × V)} {f : Addr} {fd : FuncData} {N ps : List Str} {T : SV} {k : Nat}
abbrev G.at_ (g : G) (k : Nat) (N : List Str) (sc : Scope) : G := { g with k := k, N := N, sc := sc, own := fun _ => true }
theorem fn_ok (F : FunD g.K x qual params body scope dvs kws f fd) (S : FnScope N ps scope) (hT : JSs (g.at_ k N scope) body T) :
    FnOk g.P g.w g.K g.mg g.base (L2.CX g.P g.w) (k + 1) f fd ps (spF g.K g.cls ps.length (mkFn ps.length (N.length - ps.length) T)) := by
  refine F.ok S (fun vs H Q E h => h.1) (fun cdv A outer s H vs Q E hr h => ?_)
  obtain ⟨hl, wd, args, S0, hh, rw_, ok⟩ := h
  let X := cxOf (L2.CX g.P g.w) g.P g.w g.K g.mg g.base N qual scope f cdv A outer s H E
  have tk : Takes X (fun cv d _ H => E cv d H) := takes_of rfl rfl rfl rfl
  have po : PassesOwn (model X.prog X.w) X.A X.env X.xe := passes_of rfl
  have gd : GoodS (g.at_ k N scope) X := ⟨⟨rfl, rfl, rfl, rfl, rfl, rfl, rfl, S.nd, rfl, hr, fun _ _ => rfl⟩, rfl, rfl, S.kind, po⟩
  refine ⟨LS g.K g.cls (fun cv d _ H => E cv d H) T, hT X gd _ tk, ?_⟩
  have la : args.length = ps.length := by rw [rw_.length, hl]
  refine ⟨wd, args.map some ++ List.replicate (N.length - args.length) none, S0, sr_start rw_, hh, ?_⟩
  unfold mkFn at ok
  rw [if_pos la, ← la] at ok
  revert ok
  have hn : wd.bx.length = S0.B.length := hh.bn.symm
  cases T (args.map some ++ List.replicate (N.length - args.length) none) S0 with
  | nxt σ1 S1 => exact fun ok wd1 σ2 H1 l hs hr => ok _ .non H1 (Le.cutB l hn) (hr.cutB _) (by simp [RV, RD])
  | ret v S1 =>
    intro ok wd1 y H1 l hr rv
    cases v with
    | d z => exact ok _ y H1 (Le.cutB l hn) (hr.cutB _) (RD.cut_ (x := z) rv)
    | new m =>
      obtain ⟨a, vs, rfl, e, n, nb, na, r⟩ := rv
      exact ok _ _ H1 (Le.cutB l hn) (hr.cutB _) ⟨a, vs, rfl, e, n, fun z => nb (List.mem_of_mem_take z), na, r.cut_⟩
    | box i =>
      obtain ⟨a, rfl, ea⟩ := rv
      have ok : OkC g.K g.cls wd Q E (if i < S0.B.length then .ok (.box i) (cutB S0.B.length S1) else match S1.B[i]? with
        | some (true, l) => .ok (.new l) (cutB S0.B.length S1)
        | some (false, l) => .ok (.d (.lst l)) (cutB S0.B.length S1)
        | none => .bad) := ok
      split at ok
      · rename_i hi
        exact ok _ _ H1 (Le.cutB l hn) (hr.cutB _) ⟨a, rfl, by show (wd1.bx.take _)[i]? = _; rw [List.getElem?_take_of_lt hi]; exact ea⟩
      · rename_i hi
        have nb : a ∉ wd1.bx.take S0.B.length := fun z => by
          obtain ⟨j, hj⟩ := List.getElem?_of_mem z
          have hj1 : j < (wd1.bx.take S0.B.length).length := (List.getElem?_eq_some_iff.mp hj).1
          have hj2 : j < S0.B.length := by rw [List.length_take] at hj1; omega
          rw [List.getElem?_take_of_lt hj2] at hj
          have := nodupIx hr.bnd hj ea
          omega
        split at ok
        · rename_i m eb
          obtain ⟨a', vs, e1, e2, e3, r⟩ := hr.live i m eb
          rw [ea] at e1; cases e1
          refine ok _ _ H1 (Le.cutB l hn) (hr.cutB _) ⟨a, vs, rfl, e2, e3, nb, fun z => ?_, r.cut_⟩
          obtain ⟨p, hp, e⟩ := List.mem_map.mp z
          exact (hr.an p hp).2.2 (by rw [e]; exact List.mem_of_getElem? ea)
        · rename_i m eb
          obtain ⟨a', vs, e1, e2, r⟩ := hr.froz i m eb
          rw [ea] at e1; cases e1
          refine ok _ _ H1 (Le.cutB l hn) (hr.cutB _) ?_
          show RD g.K _ (.lst m) _
          simp only [RD]
          exact ⟨a, vs, rfl, e2, r.cut_⟩
        · exact ok.elim
  | brk σ1 S1 => exact fun ok => ok.elim
  | cnt σ1 S1 => exact fun ok => ok.elim
  | exc c fs σ1 S1 => exact fun ok wd1 σ2 H1 cv d l hs hr hx => ok _ H1 cv d (Le.cutB l hn) (hr.cutB _) (XR.same (wd := wd1) rfl rfl hx)
  | bad => exact fun ok => ok.elim
end

/-! ### calls -/
/-- a def that may be called here: dfl are its defaults that are not written -/
structure FnJ (g : G) (f : Addr) (dfl : List D) (F : FV) : Prop where
  ex : ∃ fd ps k ds dvs, FnOk g.P g.w g.K g.mg g.base (L2.CX g.P g.w) k f fd ps (spF g.K g.cls ps.length F) ∧ k ≤ g.k ∧ PySem.W.keepIn g.K (.ref f) = true ∧ L2.Binds g.K fd ps ds ∧ Vals dvs ds ∧ (∀ wd, RDs g.K wd dfl dvs) ∧ ∀ args S, args.length ≠ ps.length → F args S = .bad
section
variable {g : G} {f : Addr} {dfl : List D} {F : FV} {pos apos p : Pos} {e o : Expr} {es : List Expr} {Ts : EVs} {T To : EV} {x : Str}
@[simp] noncomputable def eCallF (F : FV) (dfl : List D) (Ts : EVs) : EV := fun σ S => (Ts σ S).bind fun vs S1 => F (vs ++ dfl.map .d) S1
theorem FnOk.to {X : Cx} {CX : CXT} {k : Nat} {fd : FuncData} {ps : List Str} {sp : Sp} (hX : Good g X) (h : FnOk g.P g.w g.K g.mg g.base CX k f fd ps sp) : FnOk X.prog X.w X.K X.mg X.base CX k f fd ps sp := by
  rw [hX.P, hX.w, hX.K, hX.mg, hX.base]; exact h
theorem okE_C {W : WX} {σ : St} {wd : Wd} {Q : VK} {o : Out Vl} (h : OkE g.K g.cls W σ wd Q o) : OkC g.K g.cls wd Q (WE W σ) o := by
  cases o with
  | ok v S => exact h
  | exc c fs S => exact h
  | bad => exact h
/-- f(a, ..) -/
theorem je_call (h : FnJ g f dfl F) (hg : GlS g x) (hm : g.mg x = some (.ref f)) (ha : JA g (e :: es) Ts) (hdb : (x == ("__debug__" : Str)) = false := by decide)
    (he : ∀ env, starEach (e :: es) env = (false, eval e env) :: starEach es env := by intro _; rfl) (hpl : ∀ env, (backTo pos (starEach es env)).any (·.1) = false := by intro _; rfl) : JE g (.Call (.Name x p) (e :: es) [] pos) (eCallF F dfl Ts) := fun X hX W tk => by
  obtain ⟨fd, ps, k, ds, dvs, hF, hk, kp, hb, hd, hr, har⟩ := h.ex
  have tk' : ∀ σ, PassesAt (L2.CX g.P g.w) X σ (WE W σ) := fun σ => by
    have := passAt tk σ
    rw [hX.P, hX.w] at this; exact this
  refine (pe_callSD (E := WE W) (FnOk.to hX hF) (hX.room.mono hk) (gl_of hX hg) (by rw [hX.mg]; exact hm) (by rw [hX.K]; exact kp) (by rw [hX.K]; exact hb) hd tk' (ha X hX W tk) hdb (he X.env) (hpl X.env)).imp fun σ H Q h => ?_
  obtain ⟨wd, σ', S, hs, hh, h⟩ := h
  refine ⟨wd, σ', S, hs, hh, ?_⟩
  have h1 := OkA_bindE h
  revert h1
  cases Ts σ' S with
  | ok v S1 =>
    intro h1 wd1 xs H1 l hr1 rv
    obtain ⟨v', wd2, S2, l2, hr2, rw2, h2⟩ := h1 wd1 xs H1 l hr1 rv
    have r3 := rw2.append (RWs.ofD (hr wd2))
    refine ⟨?_, wd2, _, S2, hr2, r3, okE_C h2⟩
    rw [← r3.length]
    refine Decidable.byContradiction fun hn => ?_
    rw [har _ _ hn] at h2
    exact h2
  | exc c fs S1 => intro h1; exact h1
  | bad => intro h1; exact h1
end
end Ev

set_option Elab.async false
set_option linter.all false
set_option maxRecDepth 100000
set_option maxHeartbeats 1000000
/-! Ev7: comprehensions. -/
namespace Ev
open PySem PySem.Spec PyProof.Rows L2
open Classical
/-! ### slots forgotten -/
def wipeV (σ : Sl) : List Nat → Sl
  | [] => σ
  | v :: vs => (wipeV σ vs).set v none
theorem wipeV_some {σ : Sl} {i : Nat} {x : Vl} : ∀ {vs : List Nat}, (wipeV σ vs)[i]? = some (some x) → σ[i]? = some (some x) ∧ i ∉ vs
  | [], h => ⟨h, by simp⟩
  | v :: vs, h => by
    unfold wipeV at h
    by_cases hi : v = i
    · subst hi
      by_cases hv : v < (wipeV σ vs).length
      · rw [List.getElem?_set_self hv] at h; cases h
      · rw [List.getElem?_eq_none (by simpa using hv)] at h; cases h
    · rw [List.getElem?_set_ne hi] at h
      obtain ⟨h1, h2⟩ := wipeV_some h
      exact ⟨h1, by simp only [List.mem_cons, not_or]; exact ⟨fun e => hi e.symm, h2⟩⟩
theorem wipe_get (σ : L2.St) : ∀ (vs : List Nat) (i : Nat), (wipe σ vs)[i]? = if i ∈ vs ∧ i < σ.length then some none else σ[i]?
  | [], i => by simp [wipe]
  | v :: vs, i => by
    unfold wipe
    by_cases hi : v = i
    · subst hi
      by_cases hv : v < σ.length
      · rw [List.getElem?_set_self (by rw [wipe_length]; exact hv)]; simp [hv]
      · rw [List.getElem?_eq_none (by simp [wipe_length]; omega), if_neg (by simp [hv]), List.getElem?_eq_none (by omega)]
    · rw [List.getElem?_set_ne hi, wipe_get σ vs i]
      have : (i ∈ v :: vs) ↔ i ∈ vs := by simp [Ne.symm hi]
      simp only [this]
theorem wipe_eq {σ σ2 : L2.St} {vs : List Nat} (hl : σ2.length = σ.length) (h : ∀ i : Nat, i ∉ vs → σ2[i]? = σ[i]?) : wipe σ2 vs = wipe σ vs := by
  refine List.ext_getElem? fun i => ?_
  rw [wipe_get, wipe_get, hl]
  by_cases hi : i ∈ vs
  · by_cases hl2 : i < σ.length
    · rw [if_pos ⟨hi, hl2⟩, if_pos ⟨hi, hl2⟩]
    · rw [if_neg (fun z => hl2 z.2), if_neg (fun z => hl2 z.2), List.getElem?_eq_none (by omega), List.getElem?_eq_none (by omega)]
  · rw [if_neg (fun z => hi z.1), if_neg (fun z => hi z.1), h i hi]
theorem SR.wipe {K wd σ' σ} (h : SR K wd σ' σ) (vs : List Nat) : SR K wd (wipeV σ' vs) (L2.wipe σ vs) := fun i v e => by
  obtain ⟨e1, e2⟩ := wipeV_some e
  obtain ⟨x, ex, r⟩ := h i v e1
  exact ⟨x, by rw [wipe_out e2]; exact ex, r⟩
/-! ### a list in the making -/
def Wd.push (wd : Wd) (a : Addr) (vs : List V) : Wd := { wd with an := (a, vs) :: wd.an }
section
variable {K : PySem.W.Frag} {cls : String → Addr} {wd : Wd} {S : Sta} {H : Hp} {a : Addr} {vs : List V}
theorem RD.an {x v} {l : List (Addr × List V)} (h : RD K wd x v) : RD K { wd with an := l } x v := RD.same (wd := wd) (wd' := { wd with an := l }) rfl rfl x v h
theorem RDs.an {x v} {l : List (Addr × List V)} (h : RDs K wd x v) : RDs K { wd with an := l } x v := RDs.same (wd := wd) (wd' := { wd with an := l }) rfl rfl x v h
theorem HR.anew (h : HR K cls wd S H) {l : List (Addr × List V)} (h1 : ∀ p ∈ l, H p.1 = some (.lst p.2) ∧ wd.fz p.1 = none ∧ p.1 ∉ wd.bx) (h2 : (l.map (·.1)).Nodup) : HR K cls { wd with an := l } S H :=
  ⟨h.fz, h.bn, fun i m e => let ⟨a, vs, e1, e2, e3, r⟩ := h.live i m e; ⟨a, vs, e1, e2, e3, r.an⟩, fun i m e => let ⟨a, vs, e1, e2, r⟩ := h.froz i m e; ⟨a, vs, e1, e2, r.an⟩, h.bnd, h.on, h.ond,
    fun i o e => let ⟨a, e1, r⟩ := h.ob i o e; ⟨a, e1, ObAt.same (wd := wd) rfl rfl r⟩, h1, h2, h.nfz⟩
theorem HR.pushAn (h : HR K cls wd S H) (n : H a = none) : HR K cls (wd.push a []) S (upd H a (.lst [])) := by
  refine HR.anew (wd := wd) (h.lay n) (fun p hp => ?_) ?_
  · rcases List.mem_cons.mp hp with rfl | hp
    · exact ⟨upd_same, h.fz_none n, h.bx_none n⟩
    · obtain ⟨e1, e2, e3⟩ := h.an p hp
      exact ⟨by rw [upd_ne (ne_of_none e1 n)]; exact e1, e2, e3⟩
  · rw [List.map_cons, List.nodup_cons]; exact ⟨h.an_none n, h.annd⟩
theorem HR.popAn (h : HR K cls (wd.push a vs) S H) : HR K cls wd S H ∧ H a = some (.lst vs) ∧ wd.fz a = none ∧ a ∉ wd.bx ∧ a ∉ wd.an.map (·.1) := by
  have h0 := h.an (a, vs) (List.mem_cons_self ..)
  refine ⟨HR.anew (wd := wd.push a vs) (l := wd.an) h (fun p hp => h.an p (List.mem_cons_of_mem _ hp)) ?_, h0.1, h0.2.1, h0.2.2, ?_⟩
  · have := h.annd
    exact (List.nodup_cons.mp (by simpa [Wd.push] using this)).2
  · have := h.annd
    have h2 := (List.nodup_cons.mp (show (a :: wd.an.map (·.1)).Nodup from by simpa [Wd.push] using this)).1
    exact h2
theorem HR.setAn {us : List V} (h : HR K cls (wd.push a vs) S H) : HR K cls (wd.push a us) S (upd H a (.lst us)) := by
  obtain ⟨h1, e1, e2, e3, e4⟩ := h.popAn
  have nb : ∀ (i : Nat) (b : Addr), wd.bx[i]? = some b → b ≠ a := fun i b q z => e3 (z ▸ List.mem_of_getElem? q)
  have base : HR K cls wd S (upd H a (.lst us)) := by
    refine ⟨fun p o q => ?_, h1.bn, fun i m q => ?_, h1.froz, h1.bnd, h1.on, h1.ond, fun i o q => ?_, fun p hp => ?_, h1.annd, h1.nfz⟩
    · rw [upd_ne (fun z => by subst z; rw [e2] at q; cases q)]; exact h1.fz p o q
    · obtain ⟨b, ws, q1, q2, q3, r⟩ := h1.live i m q
      exact ⟨b, ws, q1, by rw [upd_ne (nb i b q1)]; exact q2, q3, r⟩
    · obtain ⟨b, q1, r⟩ := h1.ob i o q
      refine ⟨b, q1, r.at_ne ?_⟩
      intro z; subst z
      cases o with
      | ins c fs => obtain ⟨dx, vfs, q3, _⟩ := r; rw [e1] at q3; cases q3
      | dic kvs => obtain ⟨vk, q3, _⟩ := r; rw [e1] at q3; cases q3
    · obtain ⟨q1, q2, q3⟩ := h1.an p hp
      refine ⟨?_, q2, q3⟩
      rw [upd_ne]; exact q1
      intro z; exact e4 (z ▸ List.mem_map_of_mem hp)
  refine HR.anew (wd := wd) base (fun p hp => ?_) ?_
  · rcases List.mem_cons.mp hp with rfl | hp
    · exact ⟨upd_same, e2, e3⟩
    · exact base.an p hp
  · rw [List.map_cons, List.nodup_cons]; exact ⟨e4, h1.annd⟩
/-- a world that keeps the list in the making is one's own with it -/
theorem Le.unpush {wd' : Wd} (l : (wd.push a vs).Le wd') : ∃ w, wd.Le w ∧ wd' = w.push a vs := by
  refine ⟨{ wd' with an := wd.an }, ⟨l.fz, l.bx, l.ob, rfl⟩, ?_⟩
  have := l.an
  unfold Wd.push at this ⊢
  simp only at this
  rw [← this]
end

/-- the tests of a clause -/
def JTs (g : G) (ifs : List Expr) (T : TV) : Prop := ∀ X, Good g X → ∀ W, Takes X W → PTs X ifs (LT g.K g.cls W T)
@[simp] def tTrue : TV := fun _ S => .ok true S
section
variable {g : G} {pos : Pos} {elt tg it c : Expr} {T : EV} {TA : TV} {I : IV} {Gt : GV} {ix : List Nat} {scope : Scope} {own : List (Str × Nat)} {ifs : List Expr}
theorem jts_nil : JTs g [] tTrue := fun X hX W tk => ⟨fun pins s σ H Q I h => (pts_nil (X := X)).run pins s σ H Q I (by
  obtain ⟨wd, σ', S, hs, hh, h⟩ := h
  exact h wd H (.refl _) hh)⟩
theorem jts_one (h : JT g c TA) : JTs g [c] TA := fun X hX W tk => pts_one (h X hX W tk)
abbrev G.blk (g : G) (scope : Scope) : G := { g with sc := relS scope g.sc, own := fun x => scope.names.lookup x == some .cell }
theorem good_blk {X : Cx} (hX : Good g X) (s : Shared) (H : Hp) (C : Addr) (cl : List (Str × Addr)) (fp : List Addr) : Good (g.blk scope) (X.blk s H scope (compEnvC scope cl C X.env) fp) :=
  ⟨hX.P, hX.w, hX.K, hX.mg, hX.base, hX.N, by show relS scope X.env.scope = _; rw [hX.sc], hX.nd, hX.calm, hX.room, fun x h => h⟩
/-- the loop of a comprehension: a step for each item, over the list so far -/
noncomputable def loopL (chk : Sta → Bool) (tg : GV) (step : Sl → List D → Sta → Out (List D)) (σ : Sl) : List D → List D → Sta → Out (List D)
  | [], acc, S => if chk S = true then .ok acc S else .bad
  | x :: r, acc, S => if chk S = true then match tg x σ with
    | none => .bad
    | some σ1 => match step σ1 acc S with
      | .ok acc2 S2 => loopL chk tg step σ r acc2 S2
      | _ => .bad
    else .bad
@[simp] noncomputable def appD (acc : List D) (v : Vl) (S : Sta) : Out (List D) := match toD (frz v) S with
  | some (y, S3) => if acc.length < sizeLine then .ok (acc ++ [y]) S3 else .bad
  | none => .bad
@[simp] noncomputable def eltStep (TA : TV) (T : EV) : Sl → List D → Sta → Out (List D) := fun σ1 acc S => match TA σ1 S with
  | .ok true S1 => match T σ1 S1 with
    | .ok v S2 => appD acc v S2
    | _ => .bad
  | .ok false S1 => .ok acc S1
  | _ => .bad
@[simp] noncomputable def eLc (vs : List Nat) (I : IV) (Gt : GV) (TA : TV) (T : EV) : EV := fun σ S => match I σ S with
  | .ok p S1 => match loopL p.2 Gt (eltStep TA T) (wipeV σ vs) p.1 [] S1 with
    | .ok l S2 => .ok (.new l) S2
    | _ => .bad
  | .exc c fs S1 => .exc c fs S1
  | .bad => .bad
def OkL (K : PySem.W.Frag) (cls : String → Addr) (wd : Wd) (Q : VK) : Out (List D) → Prop
  | .ok l S3 => ∀ wd3 x H3, wd.Le wd3 → HR K cls wd3 S3 H3 → RV K wd3 H3 (.new l) x → Q x H3
  | _ => False
theorem OkL.mono {K cls wd wd' Q} (l : wd.Le wd') : ∀ {o : Out (List D)}, OkL K cls wd Q o → OkL K cls wd' Q o
  | .ok _ _, h => fun w1 x H1 l1 => h w1 x H1 (l.trans l1)
  | .exc _ _ _, h => h
  | .bad, h => h
abbrev W0 : WX := fun _ _ _ _ => False
/-- an element is put behind the list in the making -/
theorem app_read {w : Wd} {D0 : Addr} {vacc : List V} {acc : List D} {S S3 : Sta} {H : Hp} {v : Vl} {y : V} {l2 : List D} (hr : HR g.K g.cls (w.push D0 vacc) S H) (rv : RV g.K (w.push D0 vacc) H v y) (ra : RDs g.K w acc vacc) (e : appD acc v S = .ok l2 S3) :
    H D0 = some (.lst vacc) ∧ vacc.length < sizeLine ∧ ∃ w3, w.Le w3 ∧ HR g.K g.cls (w3.push D0 (vacc ++ [y])) S3 (upd H D0 (.lst (vacc ++ [y]))) ∧ RDs g.K w3 l2 (vacc ++ [y]) := by
  unfold appD at e
  split at e
  · rename_i z S4 ez
    split at e
    · rename_i hz
      cases e
      obtain ⟨w1, l1, h1, r1⟩ := rv.frz hr
      obtain ⟨w2, l2, h2, r2⟩ := RW.toD h1 r1 ez
      obtain ⟨w3, l3, rfl⟩ := Le.unpush (l1.trans l2)
      refine ⟨h2.popAn.2.1, by rw [← ra.length]; exact hz, w3, l3, h2.setAn, ?_⟩
      have r2' : RD g.K w3 z y := RD.same (wd := w3.push D0 vacc) (wd' := w3) rfl rfl z y r2
      exact (RDs.mono _ l3 _ _ ra).append (.one r2')
    · cases e
  · cases e
theorem lc_read {vs : List Nat} {W : WX} {σ : L2.St} {H : Hp} {Q : VK} (hix : ∀ i ∈ ix, i ∈ vs) (h : LE g.K g.cls W (eLc vs I Gt TA T) σ H Q) :
    tLc (LI g.K g.cls W I) (LG g.K g.cls Gt ix) (LT g.K g.cls W0 TA) (LE g.K g.cls W0 T) vs σ H Q := by
  obtain ⟨wd, σ', S, hs, hh, h⟩ := h
  refine ⟨wd, σ', S, hs, hh, ?_⟩
  unfold eLc at h
  revert h
  cases I σ' S with
  | exc c fs S1 => exact fun h => h
  | bad => exact fun h => h
  | ok p S1 =>
    intro h wd1 H1 J l1 hr1 hJ D0 hD
    obtain ⟨items, chk⟩ := p
    have h' : OkL g.K g.cls wd Q (loopL chk Gt (eltStep TA T) (wipeV σ' vs) items [] S1) := by
      revert h
      dsimp only
      cases loopL chk Gt (eltStep TA T) (wipeV σ' vs) items [] S1 with
      | ok l S2 => exact fun h => h
      | exc c fs S2 => exact fun h => h.elim
      | bad => exact fun h => h.elim
    refine ⟨fun i m H2 => ∃ w S2 acc vacc, wd1.Le w ∧ HR g.K g.cls (w.push D0 vacc) S2 H2 ∧ RDs g.K w acc vacc ∧ m = items.length - i ∧ i ≤ items.length ∧ OkL g.K g.cls w Q (loopL chk Gt (eltStep TA T) (wipeV σ' vs) (items.drop i) acc S2),
      ⟨items.length, wd1, S1, [], [], .refl _, hr1.pushAn hD, by simp [RDs], by simp, Nat.zero_le _, OkL.mono l1 h'⟩, ?_⟩
    rintro i m H2 ⟨w, S2, acc, vacc, lw, hr2, ra, rfl, hi, h2⟩
    have lx : LeX wd1 (w.push D0 vacc) := ⟨lw.fz, lw.bx, lw.ob⟩
    by_cases hlt : i < items.length
    · obtain ⟨x, ex⟩ : ∃ x, items[i]? = some x := ⟨_, List.getElem?_eq_getElem hlt⟩
      have ed : items.drop i = x :: items.drop (i + 1) := by
        rw [List.drop_eq_getElem_cons hlt]
        have := List.getElem?_eq_getElem hlt
        rw [ex] at this; cases this; rfl
      rw [ed] at h2
      unfold loopL at h2
      split at h2
      · rename_i hc
        obtain ⟨_, hgo⟩ := hJ _ S2 H2 lx hr2 hc
        obtain ⟨go, hy⟩ := hgo i x ex
        refine .inr ⟨go, fun H3 => ∃ w S2 acc vacc, wd1.Le w ∧ HR g.K g.cls (w.push D0 vacc) S2 H3 ∧ RDs g.K w acc vacc ∧ i + 1 ≤ items.length ∧ OkL g.K g.cls w Q (loopL chk Gt (eltStep TA T) (wipeV σ' vs) (items.drop (i + 1)) acc S2),
          fun H3 ⟨w, S2, acc, vacc, q1, q2, q3, q4, q5⟩ => ⟨items.length - (i + 1), by omega, w, S2, acc, vacc, q1, q2, q3, rfl, q4, q5⟩, fun v H3 y => ?_⟩
        obtain ⟨wd3, l3, hr3, rd⟩ := hy v H3 y
        obtain ⟨w3, l3', rfl⟩ := Le.unpush l3
        split at h2
        · exact h2.elim
        · rename_i σ4 e4
          refine ⟨w3.push D0 vacc, wipeV σ' vs, S2, x, ?_, hr3, rd, σ4, e4, fun σ5 hs5 hl5 hx5 => ⟨?_, ?_⟩⟩
          · refine SR.wipe (fun j z ez => ?_) _
            obtain ⟨q, eq, rq⟩ := (hs.mono (l1.trans lw)).mono l3' j z ez
            exact ⟨q, eq, RW.x rq ⟨fun _ _ q => q, List.prefix_refl _, List.prefix_refl _⟩⟩
          · rw [wipe_eq hl5 (fun j hj => hx5 j fun z => hj (hix j z))]
            refine wipe_eq (by rw [wipe_length]) fun j hj => wipe_out hj
          · refine ⟨w3.push D0 vacc, σ4, S2, hs5, hr3, ?_⟩
            unfold eltStep at h2
            revert h2
            cases TA σ4 S2 with
            | exc c fs S3 => exact fun h => h.elim
            | bad => exact fun h => h.elim
            | ok b S3 =>
              intro h2 wd4 H4 l4 hr4
              obtain ⟨w4, l4', rfl⟩ := Le.unpush l4
              cases b with
              | false =>
                rw [if_neg Bool.false_ne_true]
                exact ⟨w4, S3, acc, vacc, (lw.trans l3').trans l4', hr4, RDs.mono _ (l3'.trans l4') _ _ ra, hlt, OkL.mono (l3'.trans l4') h2⟩
              | true =>
                rw [if_pos rfl]
                refine ⟨w4.push D0 vacc, σ4, S3, hs5.mono l4, hr4, ?_⟩
                revert h2
                dsimp only
                cases T σ4 S3 with
                | exc c fs S5 => exact fun h => h.elim
                | bad => exact fun h => h.elim
                | ok v5 S5 =>
                  intro h2 wd5 y5 H5 l5 hr5 rv5
                  obtain ⟨w5, l5', rfl⟩ := Le.unpush l5
                  dsimp only at h2
                  split at h2
                  · rename_i acc6 S6 e6
                    obtain ⟨q1, q2, w6, l6, q3, q4⟩ := app_read hr5 rv5 (RDs.mono _ ((l3'.trans l4').trans l5') _ _ ra) e6
                    exact ⟨vacc, q1, q2, w6, S6, acc6, _, (((lw.trans l3').trans l4').trans l5').trans l6, q3, q4, hlt, OkL.mono (((l3'.trans l4').trans l5').trans l6) h2⟩
                  · exact h2.elim
      · exact h2.elim
    · have e : i = items.length := by omega
      subst e
      rw [List.drop_length] at h2
      unfold loopL at h2
      split at h2
      · rename_i hc
        obtain ⟨st, _⟩ := hJ _ S2 H2 lx hr2 hc
        obtain ⟨p1, p2, p3, p4, p5⟩ := hr2.popAn
        exact .inl ⟨st, h2 w _ H2 (.refl _) p1 ⟨D0, vacc, rfl, p2, p3, p4, p5, ra⟩⟩
      · exact h2.elim

theorem je_lc (hi : JI g tg it I) (hg : JG (g.blk scope) tg Gt ix) (ht : JTs (g.blk scope) ifs TA) (he : JE (g.blk scope) elt T) (ok : BlkOk g.N g.sc scope own) (hix : ∀ i ∈ ix, i ∈ own.map (·.2) := by decide) (hs : ∀ env x, foldedSetIterable it env x = pure x := by intro _ _; rfl) :
    JE g (.ListComp elt [⟨tg, it, ifs, 0⟩] scope pos) (eLc (own.map (·.2)) I Gt TA T) := fun X hX W tk =>
  (pe_lc hX.calm (by rw [hX.N]; exact hX.nd) (hi X hX W tk) (by rw [hX.N, hX.sc]; exact ok) (fun s H C cl fp => hg _ (good_blk hX s H C cl fp)) (fun s H C cl fp => ht _ (good_blk hX s H C cl fp) W0 takes0) (fun s H C cl fp => he _ (good_blk hX s H C cl fp) W0 takes0) (hs X.env)).imp fun σ H Q h => lc_read hix h
end
end Ev

set_option Elab.async false
set_option linter.all false
set_option maxRecDepth 100000
set_option maxHeartbeats 1000000
/-! Ev8: two clauses; a comprehension that is given to a name; fields; methods; makers. -/
namespace Ev
open PySem PySem.Spec PyProof.Rows L2
open Classical
section
variable {g : G} {pos spos : Pos} {elt tg it c tg1 it1 : Expr} {T : EV} {TA TA1 : TV} {I I1 : IV} {Gt Gt1 : GV} {ix ix1 : List Nat} {scope : Scope} {own : List (Str × Nat)} {ifs ifs1 : List Expr} {vs1 : List Nat}
@[simp] noncomputable def innerStep (TA : TV) (vs1 : List Nat) (I1 : IV) (Gt1 : GV) (TA1 : TV) (T : EV) : Sl → List D → Sta → Out (List D) := fun σ1 acc S => match TA σ1 S with
  | .ok true S1 => match I1 σ1 S1 with
    | .ok p S2 => loopL p.2 Gt1 (eltStep TA1 T) (wipeV σ1 vs1) p.1 acc S2
    | _ => .bad
  | .ok false S1 => .ok acc S1
  | _ => .bad
@[simp] noncomputable def eLc2 (vs : List Nat) (I : IV) (Gt : GV) (TA : TV) (vs1 : List Nat) (I1 : IV) (Gt1 : GV) (TA1 : TV) (T : EV) : EV := fun σ S => match I σ S with
  | .ok p S1 => match loopL p.2 Gt (innerStep TA vs1 I1 Gt1 TA1 T) (wipeV σ vs) p.1 [] S1 with
    | .ok l S2 => .ok (.new l) S2
    | _ => .bad
  | .exc c fs S1 => .exc c fs S1
  | .bad => .bad
theorem drop_at {α : Type} {l : List α} {i : Nat} {x : α} (h : i < l.length) (e : l[i]? = some x) : l.drop i = x :: l.drop (i + 1) := by
  rw [List.drop_eq_getElem_cons h]
  have := List.getElem?_eq_getElem h
  rw [e] at this; cases this; rfl
theorem lc2_read {vs : List Nat} {W : WX} {σ : L2.St} {H : Hp} {Q : VK} (hix : ∀ i ∈ ix, i ∈ vs) (hix1 : ∀ i ∈ ix1, i ∈ vs1) (h : LE g.K g.cls W (eLc2 vs I Gt TA vs1 I1 Gt1 TA1 T) σ H Q) :
    tLc2 (LI g.K g.cls W I) (LG g.K g.cls Gt ix) (LT g.K g.cls W0 TA) (LI g.K g.cls W0 I1) (LG g.K g.cls Gt1 ix1) (LT g.K g.cls W0 TA1) (LE g.K g.cls W0 T) vs vs1 σ H Q := by
  obtain ⟨wd, σ', S, hs, hh, h⟩ := h
  refine ⟨wd, σ', S, hs, hh, ?_⟩
  unfold eLc2 at h
  revert h
  cases I σ' S with
  | exc c fs S1 => exact fun h => h
  | bad => exact fun h => h
  | ok p S1 =>
    intro h wd1 H1 J l1 hr1 hJ D0 hD
    obtain ⟨items, chk⟩ := p
    generalize hst : innerStep TA vs1 I1 Gt1 TA1 T = st at h
    have h' : OkL g.K g.cls wd Q (loopL chk Gt st (wipeV σ' vs) items [] S1) := by
      revert h
      dsimp only
      cases loopL chk Gt st (wipeV σ' vs) items [] S1 with
      | ok l S2 => exact fun h => h
      | exc c fs S2 => exact fun h => h.elim
      | bad => exact fun h => h.elim
    refine ⟨fun i m H2 => ∃ w S2 acc vacc, wd1.Le w ∧ HR g.K g.cls (w.push D0 vacc) S2 H2 ∧ RDs g.K w acc vacc ∧ m = items.length - i ∧ i ≤ items.length ∧ OkL g.K g.cls w Q (loopL chk Gt st (wipeV σ' vs) (items.drop i) acc S2),
      ⟨items.length, wd1, S1, [], [], .refl _, hr1.pushAn hD, by simp [RDs], by simp, Nat.zero_le _, OkL.mono l1 h'⟩, ?_⟩
    rintro i m H2 ⟨w, S2, acc, vacc, lw, hr2, ra, rfl, hi, h2⟩
    have lx : LeX wd1 (w.push D0 vacc) := ⟨lw.fz, lw.bx, lw.ob⟩
    by_cases hlt : i < items.length
    · obtain ⟨x, ex⟩ : ∃ x, items[i]? = some x := ⟨_, List.getElem?_eq_getElem hlt⟩
      rw [drop_at hlt ex] at h2
      unfold loopL at h2
      split at h2
      · rename_i hc
        obtain ⟨_, hgo⟩ := hJ _ S2 H2 lx hr2 hc
        obtain ⟨go, hy⟩ := hgo i x ex
        refine .inr ⟨go, fun H3 => ∃ w S2 acc vacc, wd1.Le w ∧ HR g.K g.cls (w.push D0 vacc) S2 H3 ∧ RDs g.K w acc vacc ∧ i + 1 ≤ items.length ∧ OkL g.K g.cls w Q (loopL chk Gt st (wipeV σ' vs) (items.drop (i + 1)) acc S2),
          fun H3 ⟨w, S2, acc, vacc, q1, q2, q3, q4, q5⟩ => ⟨items.length - (i + 1), by omega, w, S2, acc, vacc, q1, q2, q3, rfl, q4, q5⟩, fun v H3 y => ?_⟩
        obtain ⟨wd3, l3, hr3, rd⟩ := hy v H3 y
        obtain ⟨w3, l3', rfl⟩ := Le.unpush l3
        split at h2
        · exact h2.elim
        · rename_i σ4 e4
          have hsw : SR g.K (w3.push D0 vacc) (wipeV σ' vs) (wipe σ vs) := by
            refine SR.wipe (fun j z ez => ?_) _
            obtain ⟨q, eq, rq⟩ := (hs.mono (l1.trans lw)).mono l3' j z ez
            exact ⟨q, eq, RW.x rq ⟨fun _ _ q => q, List.prefix_refl _, List.prefix_refl _⟩⟩
          refine ⟨w3.push D0 vacc, wipeV σ' vs, S2, x, hsw, hr3, rd, σ4, e4, fun σ5 hs5 hl5 hx5 => ⟨?_, ?_⟩⟩
          · rw [wipe_eq hl5 (fun j hj => hx5 j fun z => hj (hix j z))]
            refine wipe_eq (by rw [wipe_length]) fun j hj => wipe_out hj
          · refine ⟨w3.push D0 vacc, σ4, S2, hs5, hr3, ?_⟩
            have hs4 : st σ4 acc S2 = (match TA σ4 S2 with
              | .ok true S1 => match I1 σ4 S1 with
                | .ok p S2 => loopL p.2 Gt1 (eltStep TA1 T) (wipeV σ4 vs1) p.1 acc S2
                | _ => .bad
              | .ok false S1 => .ok acc S1
              | _ => .bad) := by rw [← hst]; rfl
            rw [hs4] at h2
            clear hs4
            generalize loopL chk Gt st (wipeV σ' vs) (items.drop (i + 1)) = R at h2 ⊢
            revert h2
            cases TA σ4 S2 with
            | exc c fs S3 => exact fun h => h.elim
            | bad => exact fun h => h.elim
            | ok b S3 =>
              intro h2 wd4 H4 l4 hr4
              obtain ⟨w4, l4', rfl⟩ := Le.unpush l4
              cases b with
              | false =>
                rw [if_neg Bool.false_ne_true]
                exact ⟨w4, S3, acc, vacc, (lw.trans l3').trans l4', hr4, RDs.mono _ (l3'.trans l4') _ _ ra, hlt, OkL.mono (l3'.trans l4') h2⟩
              | true =>
                rw [if_pos rfl]
                refine ⟨w4.push D0 vacc, σ4, S3, hs5.mono l4, hr4, ?_⟩
                revert h2
                dsimp only
                cases I1 σ4 S3 with
                | exc c fs S5 => exact fun h => h.elim
                | bad => exact fun h => h.elim
                | ok p5 S5 =>
                  obtain ⟨items1, chk1⟩ := p5
                  intro h2 wd5 H5 J1 l5 hr5 hJ1
                  obtain ⟨w5, l5', rfl⟩ := Le.unpush l5
                  dsimp only at h2
                  refine ⟨fun j k H6 => ∃ w6 S6 acc6 vacc6, w5.Le w6 ∧ HR g.K g.cls (w6.push D0 vacc6) S6 H6 ∧ RDs g.K w6 acc6 vacc6 ∧ k = items1.length - j ∧ j ≤ items1.length ∧
                    OkL g.K g.cls w6 Q (match loopL chk1 Gt1 (eltStep TA1 T) (wipeV σ4 vs1) (items1.drop j) acc6 S6 with
                      | .ok acc2 S2 => R acc2 S2
                      | _ => .bad), ⟨items1.length, w5, S5, acc, vacc, .refl _, hr5, RDs.mono _ ((l3'.trans l4').trans l5') _ _ ra, by simp, Nat.zero_le _, ?_⟩, ?_⟩
                  · exact OkL.mono ((l3'.trans l4').trans l5') h2
                  rintro j k H6 ⟨w6, S6, acc6, vacc6, l6, hr6, ra6, rfl, hj, h6⟩
                  have lx6 : LeX (w5.push D0 vacc) (w6.push D0 vacc6) := ⟨l6.fz, l6.bx, l6.ob⟩
                  by_cases hjt : j < items1.length
                  · obtain ⟨x6, ex6⟩ : ∃ x, items1[j]? = some x := ⟨_, List.getElem?_eq_getElem hjt⟩
                    rw [drop_at hjt ex6] at h6
                    unfold loopL at h6
                    split at h6
                    · rename_i acc7 S7 e7
                      split at e7
                      · rename_i hc6
                        obtain ⟨_, hgo6⟩ := hJ1 _ S6 H6 lx6 hr6 hc6
                        obtain ⟨go6, hy6⟩ := hgo6 j x6 ex6
                        refine .inr ⟨go6, fun H7 => ∃ w6 S6 acc6 vacc6, w5.Le w6 ∧ HR g.K g.cls (w6.push D0 vacc6) S6 H7 ∧ RDs g.K w6 acc6 vacc6 ∧ j + 1 ≤ items1.length ∧
                          OkL g.K g.cls w6 Q (match loopL chk1 Gt1 (eltStep TA1 T) (wipeV σ4 vs1) (items1.drop (j + 1)) acc6 S6 with
                            | .ok acc2 S2 => R acc2 S2
                            | _ => .bad), fun H7 ⟨w6, S6, acc6, vacc6, q1, q2, q3, q4, q5⟩ => ⟨items1.length - (j + 1), by omega, w6, S6, acc6, vacc6, q1, q2, q3, rfl, q4, q5⟩, fun v7 H7 y7 => ?_⟩
                        obtain ⟨wd7, l7, hr7, rd7⟩ := hy6 v7 H7 y7
                        obtain ⟨w7, l7', rfl⟩ := Le.unpush l7
                        split at e7
                        · cases e7
                        · rename_i σ7 et7
                          have hs7 : SR g.K (w7.push D0 vacc6) (wipeV σ4 vs1) (wipe σ5 vs1) := by
                            refine SR.wipe (fun jj z ez => ?_) _
                            obtain ⟨q, eq, rq⟩ := (hs5.mono l4).mono l5 jj z ez
                            exact ⟨q, eq, RW.x rq ⟨fun p o q => l7'.fz _ _ (l6.fz _ _ q), l6.bx.trans l7'.bx, l6.ob.trans l7'.ob⟩⟩
                          refine ⟨w7.push D0 vacc6, wipeV σ4 vs1, S6, x6, hs7, hr7, rd7, σ7, et7, fun σ8 hs8 hl8 hx8 => ⟨?_, ?_⟩⟩
                          · rw [wipe_eq hl8 (fun jj hjj => hx8 jj fun z => hjj (hix1 jj z))]
                            refine wipe_eq (by rw [wipe_length]) fun jj hjj => wipe_out hjj
                          · refine ⟨w7.push D0 vacc6, σ7, S6, hs8, hr7, ?_⟩
                            -- the element's step
                            have key : OkL g.K g.cls w6 Q (match (match eltStep TA1 T σ7 acc6 S6 with
                                | .ok acc2 S2 => loopL chk1 Gt1 (eltStep TA1 T) (wipeV σ4 vs1) (items1.drop (j + 1)) acc2 S2
                                | _ => .bad) with
                              | .ok acc2 S2 => R acc2 S2
                              | _ => .bad) := by
                              have e7' : (match eltStep TA1 T σ7 acc6 S6 with
                                | .ok acc2 S2 => loopL chk1 Gt1 (eltStep TA1 T) (wipeV σ4 vs1) (items1.drop (j + 1)) acc2 S2
                                | _ => .bad) = .ok acc7 S7 := e7
                              rw [e7']; exact h6
                            have hs9 : eltStep TA1 T σ7 acc6 S6 = (match TA1 σ7 S6 with
                                | .ok true S1 => match T σ7 S1 with
                                  | .ok v S2 => appD acc6 v S2
                                  | _ => .bad
                                | .ok false S1 => .ok acc6 S1
                                | _ => .bad) := rfl
                            rw [hs9] at key
                            clear hs9
                            revert key
                            cases TA1 σ7 S6 with
                            | exc c fs S3 => exact fun h => h.elim
                            | bad => exact fun h => h.elim
                            | ok b8 S8 =>
                              intro key wd8 H8 l8 hr8
                              obtain ⟨w8, l8', rfl⟩ := Le.unpush l8
                              cases b8 with
                              | false =>
                                rw [if_neg Bool.false_ne_true]
                                exact ⟨w8, S8, acc6, vacc6, (l6.trans l7').trans l8', hr8, RDs.mono _ (l7'.trans l8') _ _ ra6, hjt, OkL.mono (l7'.trans l8') key⟩
                              | true =>
                                rw [if_pos rfl]
                                refine ⟨w8.push D0 vacc6, σ7, S8, hs8.mono l8, hr8, ?_⟩
                                revert key
                                dsimp only
                                cases T σ7 S8 with
                                | exc c fs S9 => exact fun h => h.elim
                                | bad => exact fun h => h.elim
                                | ok v9 S9 =>
                                  intro key wd9 y9 H9 l9 hr9 rv9
                                  obtain ⟨w9, l9', rfl⟩ := Le.unpush l9
                                  dsimp only at key
                                  cases e10 : appD acc6 v9 S9 with
                                  | exc c fs S10 => rw [e10] at key; exact key.elim
                                  | bad => rw [e10] at key; exact key.elim
                                  | ok acc10 S10 =>
                                    rw [e10] at key
                                    obtain ⟨q1, q2, w10, l10, q3, q4⟩ := app_read hr9 rv9 (RDs.mono _ ((l7'.trans l8').trans l9') _ _ ra6) e10
                                    exact ⟨vacc6, q1, q2, w10, S10, acc10, _, (((l6.trans l7').trans l8').trans l9').trans l10, q3, q4, hjt, OkL.mono (((l7'.trans l8').trans l9').trans l10) key⟩
                      · cases e7
                    · exact h6.elim
                  · have e : j = items1.length := by omega
                    subst e
                    rw [List.drop_length] at h6
                    unfold loopL at h6
                    by_cases hc6 : chk1 S6 = true
                    · rw [if_pos hc6] at h6
                      obtain ⟨st6, _⟩ := hJ1 _ S6 H6 lx6 hr6 hc6
                      exact .inl ⟨st6, w6, S6, acc6, vacc6, (((lw.trans l3').trans l4').trans l5').trans l6, hr6, ra6, hlt, h6⟩
                    · rw [if_neg hc6] at h6
                      exact h6.elim
      · exact h2.elim
    · have e : i = items.length := by omega
      subst e
      rw [List.drop_length] at h2
      unfold loopL at h2
      split at h2
      · rename_i hc
        obtain ⟨st, _⟩ := hJ _ S2 H2 lx hr2 hc
        obtain ⟨p1, p2, p3, p4, p5⟩ := hr2.popAn
        exact .inl ⟨st, h2 w _ H2 (.refl _) p1 ⟨D0, vacc, rfl, p2, p3, p4, p5, ra⟩⟩
      · exact h2.elim
theorem je_lc2 (hi : JI g tg it I) (hg : JG (g.blk scope) tg Gt ix) (ht : JTs (g.blk scope) ifs TA) (hi1 : JI (g.blk scope) tg1 it1 I1) (hg1 : JG (g.blk scope) tg1 Gt1 ix1) (ht1 : JTs (g.blk scope) ifs1 TA1) (he : JE (g.blk scope) elt T) (ok : BlkOk g.N g.sc scope own)
    (hv : ∀ i ∈ vs1, i ∈ own.map (·.2) := by decide) (hix : ∀ i ∈ ix, i ∈ own.map (·.2) := by decide) (hix1 : ∀ i ∈ ix1, i ∈ vs1 := by decide) (hs : ∀ env x, foldedSetIterable it env x = pure x := by intro _ _; rfl) (hs1 : ∀ env x, foldedSetIterable it1 env x = pure x := by intro _ _; rfl) :
    JE g (.ListComp elt [⟨tg, it, ifs, 0⟩, ⟨tg1, it1, ifs1, 0⟩] scope pos) (eLc2 (own.map (·.2)) I Gt TA vs1 I1 Gt1 TA1 T) := fun X hX W tk =>
  (pe_lc2 (vs1 := vs1) hX.calm (by rw [hX.N]; exact hX.nd) (hi X hX W tk) (by rw [hX.N, hX.sc]; exact ok) hv (fun s H C cl fp => hg _ (good_blk hX s H C cl fp)) (fun s H C cl fp => ht _ (good_blk hX s H C cl fp) W0 takes0) (fun s H C cl fp => hi1 _ (good_blk hX s H C cl fp) W0 takes0)
    (fun s H C cl fp => hg1 _ (good_blk hX s H C cl fp)) (fun s H C cl fp => ht1 _ (good_blk hX s H C cl fp) W0 takes0) (fun s H C cl fp => he _ (good_blk hX s H C cl fp) W0 takes0) (hs X.env) hs1).imp fun σ H Q h => lc2_read hix hix1 h
/-! ### y = [..] -/
theorem set_read {W : WX} {E : Ends} {i : Nat} {σ : L2.St} {H : Hp} (hlt : i < σ.length) (h : LS g.K g.cls W (sSet i T) E σ H) : LE g.K g.cls W T σ H fun x H1 => E.nx (σ.set i (some x)) H1 := by
  obtain ⟨wd, σ', S, hs, hh, h⟩ := h
  refine ⟨wd, σ', S, hs, hh, ?_⟩
  have h1 := st_read hs h
  revert h1
  cases T σ' S with
  | ok v S1 =>
    intro h1 wd1 x H1 l hr rv
    obtain ⟨v', wd2, S2, l2, hr2, rw2, h2⟩ := h1 wd1 x H1 l hr rv
    obtain ⟨wd3, l3, hr3, r3⟩ := rw2.frz hr2
    exact h2 wd3 _ H1 l3 ((hs.mono (l2.trans l3)).put i r3 hlt) hr3
  | exc c fs S1 => intro h1; exact h1
  | bad => intro h1; exact h1
theorem setB_read' {W : WX} {E : Ends} {i : Nat} {σ : L2.St} {H : Hp} (hlt : i < σ.length) (h : LS g.K g.cls W (sSetB i T) E σ H) : LE g.K g.cls W T σ H fun x H1 => E.nx (σ.set i (some x)) H1 := by
  obtain ⟨wd, σ', S, hs, hh, h⟩ := h
  refine ⟨wd, σ', S, hs, hh, ?_⟩
  have h1 := st_read hs h
  revert h1
  cases T σ' S with
  | ok v S1 =>
    intro h1 wd1 x H1 l hr rv
    obtain ⟨v', wd2, S2, l2, hr2, rw2, h2⟩ := h1 wd1 x H1 l hr rv
    exact setB_read (hs.mono l2) hr2 rw2 hlt h2
  | exc c fs S1 => intro h1; exact h1
  | bad => intro h1; exact h1
/-- a statement of the form y = [..]: how a list that a comprehension makes comes to a name -/
def SetLc (g : G) (i : Nat) (st : Stmt) (T : EV) : Prop := ∀ X, GoodS g X → ∀ W, Takes X W → ∃ t : TE, PS X st (tAsg t (gName i)) ∧ (∀ σ H Q, LE g.K g.cls W T σ H Q → t σ H Q) ∧ i < X.N.length
theorem js_setL {i : Nat} {st : Stmt} (h : SetLc g i st T) : JS g st (sSet i T) := fun X hX W tk => by
  obtain ⟨t, h1, h2, h3⟩ := h X hX W tk
  exact h1.len fun E σ H hl q => h2 _ _ _ (set_read (by rw [hl]; exact h3) q)
theorem js_setLB {i : Nat} {st : Stmt} (h : SetLc g i st T) : JS g st (sSetB i T) := fun X hX W tk => by
  obtain ⟨t, h1, h2, h3⟩ := h X hX W tk
  exact h1.len fun E σ H hl q => h2 _ _ _ (setB_read' (by rw [hl]; exact h3) q)
theorem set_lc (i : Nat) {y : Str} {py : Pos} (hi : JI g tg it I) (hg : JG (g.blk scope) tg Gt ix) (ht : JTs (g.blk scope) ifs TA) (he : JE (g.blk scope) elt T) (ok : BlkOk g.N g.sc scope own) (hN : g.N[i]? = some y := by rfl) (hy : g.sc.names.lookup y = some .local := by rfl)
    (hl : (py.line == pos.line) = true := by rfl) (ha : (scope.names.any fun (n, k) => n == y && (k == .local || k == .cell)) = false := by decide +kernel)
    (hix : ∀ i ∈ ix, i ∈ own.map (·.2) := by decide) (hs : ∀ env x, foldedSetIterable it env x = pure x := by intro _ _; rfl) : SetLc g i (.Assign [.Name y py] (.ListComp elt [⟨tg, it, ifs, 0⟩] scope pos) spos) (eLc (own.map (·.2)) I Gt TA T) := fun X hX W tk =>
  ⟨_, ps_setLc (i := i) hX.calm (by rw [hX.N]; exact hX.nd) (by rw [hX.N]; exact hN) (by rw [hX.sc]; exact hy) (sw_true (by have := hX.kind_; exact this) (by rw [hX.sc]; exact hy) hl ha) (hi X hX.toGood W tk) (by rw [hX.N, hX.sc]; exact ok)
    (fun s H C cl fp => hg _ (good_blk hX.toGood s H C cl fp)) (fun s H C cl fp => ht _ (good_blk hX.toGood s H C cl fp) W0 takes0) (fun s H C cl fp => he _ (good_blk hX.toGood s H C cl fp) W0 takes0) (hs X.env), fun σ H Q h => lc_read hix h, by rw [hX.N]; exact (List.getElem?_eq_some_iff.mp hN).1⟩
theorem set_lc2 (i : Nat) {y : Str} {py : Pos} (hi : JI g tg it I) (hg : JG (g.blk scope) tg Gt ix) (ht : JTs (g.blk scope) ifs TA) (hi1 : JI (g.blk scope) tg1 it1 I1) (hg1 : JG (g.blk scope) tg1 Gt1 ix1) (ht1 : JTs (g.blk scope) ifs1 TA1) (he : JE (g.blk scope) elt T) (ok : BlkOk g.N g.sc scope own)
    (hN : g.N[i]? = some y := by rfl) (hy : g.sc.names.lookup y = some .local := by rfl)
    (hl : (py.line == pos.line) = true := by rfl) (ha : (scope.names.any fun (n, k) => n == y && (k == .local || k == .cell)) = false := by decide +kernel)
    (hv : ∀ i ∈ vs1, i ∈ own.map (·.2) := by decide) (hix : ∀ i ∈ ix, i ∈ own.map (·.2) := by decide) (hix1 : ∀ i ∈ ix1, i ∈ vs1 := by decide) (hs : ∀ env x, foldedSetIterable it env x = pure x := by intro _ _; rfl) (hs1 : ∀ env x, foldedSetIterable it1 env x = pure x := by intro _ _; rfl) :
    SetLc g i (.Assign [.Name y py] (.ListComp elt [⟨tg, it, ifs, 0⟩, ⟨tg1, it1, ifs1, 0⟩] scope pos) spos) (eLc2 (own.map (·.2)) I Gt TA vs1 I1 Gt1 TA1 T) := fun X hX W tk =>
  ⟨_, ps_setLc2 (vs1 := vs1) (i := i) hX.calm (by rw [hX.N]; exact hX.nd) (by rw [hX.N]; exact hN) (by rw [hX.sc]; exact hy) (sw_true (by have := hX.kind_; exact this) (by rw [hX.sc]; exact hy) hl ha) (hi X hX.toGood W tk) (by rw [hX.N, hX.sc]; exact ok) hv
    (fun s H C cl fp => hg _ (good_blk hX.toGood s H C cl fp)) (fun s H C cl fp => ht _ (good_blk hX.toGood s H C cl fp) W0 takes0) (fun s H C cl fp => hi1 _ (good_blk hX.toGood s H C cl fp) W0 takes0)
    (fun s H C cl fp => hg1 _ (good_blk hX.toGood s H C cl fp)) (fun s H C cl fp => ht1 _ (good_blk hX.toGood s H C cl fp) W0 takes0) (fun s H C cl fp => he _ (good_blk hX.toGood s H C cl fp) W0 takes0) (hs X.env) hs1,
    fun σ H Q h => lc2_read hix hix1 h, by rw [hX.N]; exact (List.getElem?_eq_some_iff.mp hN).1⟩
end
end Ev

set_option Elab.async false
set_option linter.all false
set_option maxRecDepth 100000
set_option maxHeartbeats 1000000
/-! Ev9: fields; methods; makers; keywords; join; the signs of a text; xs[i] = v. -/
namespace Ev
open PySem PySem.Spec PyProof.Rows L2
open Classical
/-! ### fields of instances -/
section
variable {K : PySem.W.Frag} {cls : String → Addr} {wd : Wd} {H : Hp} {S : Sta}
theorem enc_beq (f g : String) : (enc f == enc g) = (f == g) := by
  by_cases h : f = g
  · subst h; rw [beq_self_eq_true, beq_self_eq_true]
  · rw [beq_eq_false_iff_ne.mpr h, beq_eq_false_iff_ne.mpr fun e => h (enc_inj e)]
theorem RFs.look : ∀ {fs : List (String × D)} {vs : List (Str × V)} {f : String}, RFs K wd fs vs → (∀ x, fs.lookup f = some x → ∃ v, vs.lookup (enc f) = some v ∧ RD K wd x v) ∧ (fs.lookup f = none → vs.lookup (enc f) = none)
  | [], vs, f, h => by
    have h' : vs = [] := h
    subst h'
    exact ⟨fun x e => by simp at e, fun _ => rfl⟩
  | (k, y) :: r, vs, f, h => by
    obtain ⟨⟨k', v⟩, vr, rfl, e1, r1, r2⟩ := h
    dsimp only at e1 r1
    subst e1
    have ih := RFs.look (f := f) r2
    simp only [List.lookup_cons, enc_beq]
    cases hb : (f == k) with
    | true => exact ⟨fun x e => ⟨v, rfl, by cases e; exact r1⟩, fun e => by cases e⟩
    | false => exact ih
def putFs (f : String) (x : D) : List (String × D) → List (String × D)
  | [] => [(f, x)]
  | (g, y) :: r => if g = f then (g, x) :: r else (g, y) :: putFs f x r
theorem RFs.put {f : String} {x : D} {v : V} (rx : RD K wd x v) : ∀ {fs : List (String × D)} {vs : List (Str × V)}, RFs K wd fs vs → RFs K wd (putFs f x fs) (putF (enc f) v vs)
  | [], vs, h => by
    have h' : vs = [] := h
    subst h'
    exact ⟨(enc f, v), [], rfl, rfl, rx, rfl⟩
  | (k, y) :: r, vs, h => by
    obtain ⟨⟨k', v'⟩, vr, rfl, e1, r1, r2⟩ := h
    dsimp only at e1 r1
    subst e1
    unfold putFs putF
    by_cases hk : k = f
    · subst hk
      rw [if_pos rfl, if_pos rfl]
      exact ⟨(enc k, v), vr, rfl, rfl, rx, r2⟩
    · rw [if_neg hk, if_neg fun e => hk (enc_inj e)]
      exact ⟨(enc k, v'), _, rfl, rfl, r1, RFs.put rx r2⟩
theorem RFs.len : ∀ {fs : List (String × D)} {vs : List (Str × V)}, RFs K wd fs vs → fs.length = vs.length
  | [], vs, h => by
    have h' : vs = [] := h
    subst h'; rfl
  | (k, y) :: r, vs, h => by
    obtain ⟨q, vr, rfl, e1, r1, r2⟩ := h
    simp [RFs.len r2]
/-- an object of P is another one -/
theorem HR.setOb (h : HR K cls wd S H) {i : Nat} {o o' : Ob} {a : Addr} {u : HO} (e : S.P[i]? = some o) (ea : wd.ob[i]? = some a) (hu : ObAt K cls wd (upd H a u) a o') (nl : ∀ b us, H b = some (.lst us) → b ≠ a) (nf : ∀ p q, wd.fz p = some q → p ≠ a) :
    HR K cls wd { S with P := S.P.set i o' } (upd H a u) := by
  have hi : i < S.P.length := (List.getElem?_eq_some_iff.mp e).1
  refine ⟨fun p q z => by rw [upd_ne (nf p q z)]; exact h.fz p q z, h.bn, fun j l z => ?_, h.froz, h.bnd, by simpa using h.on, h.ond, fun j q z => ?_, fun p hp => ?_, h.annd, h.nfz⟩
  · obtain ⟨b, us, q1, q2, q3, rr⟩ := h.live j l z
    exact ⟨b, us, q1, by rw [upd_ne (nl b us q2)]; exact q2, q3, rr⟩
  · by_cases hj : j = i
    · subst hj
      dsimp only at z
      rw [List.getElem?_set_self hi] at z
      cases z
      exact ⟨a, ea, hu⟩
    · dsimp only at z
      rw [List.getElem?_set_ne (Ne.symm hj)] at z
      obtain ⟨b, q1, q2⟩ := h.ob j q z
      refine ⟨b, q1, q2.at_ne ?_⟩
      intro w
      subst w
      exact hj (nodupIx h.ond q1 ea)
  · obtain ⟨q1, q2, q3⟩ := h.an p hp
    exact ⟨by rw [upd_ne (nl _ _ q1)]; exact q1, q2, q3⟩
end
section
variable {g : G} {pos apos p : Pos} {e o i : Expr} {es : List Expr} {T To Ti : EV} {Ts : EVs} {c f : String} {F : Str}
noncomputable def fldF (c f : String) (v : Vl) (S : Sta) : Out Vl := match v with
  | .d (.obj i) => match S.P[i]? with
    | some (.ins c' fs) => if c' = c then match fs.lookup f with
      | some x => .ok (.d x) S
      | none => .bad else .bad
    | _ => .bad
  | _ => .bad
theorem je_fld (c f : String) (hc : Cls g.K (g.cls c)) (hf : NoAttr g.K (g.cls c) F) (he : JE g e T) (ef : F = enc f := by decide +kernel) (hb : ∀ env, attributeBase e F env (eval e env) = eval e env := by intro _; rfl) : JE g (.Attribute e F pos) (eUn (fldF c f) T) := fun X hX W tk =>
  (pe_fld (he X hX W tk) (hb X.env)).imp fun σ H Q h => un_read (r := fun x H1 Q => ∃ a C dx fs v, x = .ref a ∧ H1 a = some (.ins C dx fs) ∧ Cls X.K C ∧ NoAttr X.K C F ∧ fs.lookup F = some v ∧ Q v H1) (fun W σ wd H S v x Q hh rv h' => by
    unfold fldF at h'
    split at h'
    · rename_i i
      split at h'
      · rename_i c' fs ei
        split at h'
        · rename_i ec
          subst ec
          split at h'
          · rename_i y ey
            simp only [RW, RD] at rv
            obtain ⟨a, rfl, ea⟩ := rv
            obtain ⟨a', ea', dx, vfs, hx, rf⟩ := hh.ob i _ ei
            rw [ea] at ea'; cases ea'
            obtain ⟨w, e1, e2⟩ := (rf.look (f := f)).1 y ey
            subst ef
            exact ⟨a, _, dx, vfs, w, rfl, hx, by rw [hX.K]; exact hc, by rw [hX.K]; exact hf, e1, h' wd _ H (.refl _) hh e2⟩
          · exact h'.elim
        · exact h'.elim
      · exact h'.elim
    · exact h'.elim) h
/-- o.f = e -/
noncomputable def setFld (c f : String) (v : Vl) (x : D) (σ : Sl) (S : Sta) : SOut := match v with
  | .d (.obj i) => match S.P[i]? with
    | some (.ins c' fs) => if c' = c ∧ fs.length < 1000 then .nxt σ { S with P := S.P.set i (.ins c (putFs f x fs)) } else .bad
    | _ => .bad
  | _ => .bad
@[simp] noncomputable def sFldS (c f : String) (To T : EV) : SV := fun σ S => (T σ S).st σ fun v S1 => match toD (frz v) S1 with
  | some (x, S2) => (To σ S2).st σ fun o S3 => setFld c f (frz o) x σ S3
  | none => .bad
theorem js_fld (c f : String) {ap : Pos} (hc : Cls g.K (g.cls c)) (hf : NoAttr g.K (g.cls c) F) (ho : JE g o To) (he : JE g e T) (ef : F = enc f := by decide +kernel) (hs : ∀ env, swapsWith e (some (.Attribute o F ap)) pos.line env = pure false := by intro _; rfl) : JS g (.Assign [.Attribute o F ap] e pos) (sFldS c f To T) := fun X hX W tk =>
  (ps_fld (ho X hX.toGood W tk) (he X hX.toGood W tk) (hs X.env)).imp fun E σ H h => by
  obtain ⟨wd, σ', S, hs, hh, h⟩ := h
  refine ⟨wd, σ', S, hs, hh, ?_⟩
  have h1 := st_read hs h
  revert h1
  cases T σ' S with
  | exc c fs S1 => intro h1; exact h1
  | bad => intro h1; exact h1
  | ok v S1 =>
    intro h1 wd1 y H1 l hr rv
    obtain ⟨v', wd2, S2, l2, hr2, rw2, h2⟩ := h1 wd1 y H1 l hr rv
    obtain ⟨wd3, l3, hr3, r3⟩ := rw2.frz hr2
    split at h2
    · rename_i z S3 ey
      obtain ⟨wd4, l4, hr4, r4⟩ := RW.toD hr3 r3 ey
      have hs4 := ((hs.mono l2).mono l3).mono l4
      refine ⟨wd4, σ', S3, hs4, hr4, ?_⟩
      have h3 := st_read hs4 (OkS.mono (l3.trans l4) h2)
      revert h3
      cases To σ' S3 with
      | exc c fs S5 => intro h3; exact h3
      | bad => intro h3; exact h3
      | ok v5 S5 =>
        intro h3 wd5 y5 H5 l5 hr5 rv5
        obtain ⟨v6, wd6, S6, l6, hr6, rw6, h6⟩ := h3 wd5 y5 H5 l5 hr5 rv5
        obtain ⟨wd7, l7, hr7, r7⟩ := rw6.frz hr6
        have h7 := OkS.mono l7 h6
        unfold setFld at h7
        split at h7
        · rename_i i ev
          split at h7
          · rename_i c' fs ei
            split at h7
            · rename_i ec
              obtain ⟨ec, hlen⟩ := ec
              subst ec
              rw [ev] at r7
              simp only [RW, RD] at r7
              obtain ⟨a, rfl, ea⟩ := r7
              obtain ⟨a', ea', dx, vfs, hx, rf⟩ := hr7.ob i _ ei
              rw [ea] at ea'; cases ea'
              have rz := RD.mono g.K (l6.trans l7) _ _ r4
              subst ef
              refine ⟨a, _, dx, vfs, rfl, hx, by rw [hX.K]; exact hc, by rw [hX.K]; exact hf, by rw [← rf.len]; exact hlen, ?_⟩
              refine h7 wd7 σ _ (.refl _) (hs4.mono (l6.trans l7)) (hr7.setOb ei ea ⟨dx, _, upd_same, rf.put rz⟩ (fun b us q w => ?_) fun p q z w => ?_)
              · subst w; rw [hx] at q; cases q
              · subst w
                have q2 := hr7.fz _ _ z
                rw [hx] at q2
                cases q2
                exact absurd (hr7.nfz _ _ z) (by intro q3; cases q3)
            · exact h7.elim
          · exact h7.elim
        · exact h7.elim
    · exact h2.elim
end
end Ev

set_option Elab.async false
set_option linter.all false
set_option maxRecDepth 100000
set_option maxHeartbeats 1000000
/-! Ev10: methods; makers; keywords; join; the signs of a text; xs[i] = v. -/
namespace Ev
open PySem PySem.Spec PyProof.Rows L2
open Classical
/-! ### calls whose wish of exceptions knows the slots: methods, makers -/
def tMeS (C : Addr) (m : Str) (sp : Sp) (dvs : List V) (E : L2.St → XK) (to : TE) (t : TA) : TE := fun σ H Q => to σ H fun x H1 => ∃ a dx fs, x = .ref a ∧ H1 a = some (.ins C dx fs) ∧ fs.lookup m = none ∧ t σ H1 fun vs H2 => sp (x :: (vs ++ dvs)) H2 Q (E σ)
/-- the tree of o.m(es) -/
def MethTree (o : Expr) (m : Str) (apos pos : Pos) (es : List Expr) (pl : Sem Bool) (env : Env) : Prop := eval (.Call (.Attribute o m apos) es [] pos) env = (do
  let own ← eval o env
  standAt apos.atName
  let (fn, head) ← holding [own] (getMethod own m pl)
  callWith pos fn head (backTo pos (starEach es env)) (backToKw pos (keywordEach [] env)))
/-- C(..): the new object -/
def tMkS (C : Addr) (sp : Sp) (dvs : List V) (E : L2.St → XK) (t : TA) : TE := fun σ H Q => t σ H fun vs H1 => ∀ x dx, H1 x = none → H1 dx = none → dx ≠ x → sp (.ref x :: (vs ++ dvs)) (upd (upd H1 dx (.own x)) x (.ins C dx [])) (fun v H2 => v = .non ∧ Q (.ref x) H2) (E σ)
def tMkK (C : Addr) (n m : Nat) (sp : Sp) (gV : List V → List V → List V) (E : L2.St → XK) (t tk : TA) : TE := fun σ H Q => t σ H fun vs H1 => tk σ H1 fun zs H2 => vs.length = n ∧ zs.length = m ∧
  ∀ x dx, H2 x = none → H2 dx = none → dx ≠ x → sp (gV (.ref x :: vs) zs) (upd (upd H2 dx (.own x)) x (.ins C dx [])) (fun v H3 => v = .non ∧ Q (.ref x) H3) (E σ)
section
variable {X : Cx} {CX : CXT} {k n : Nat} {f C : Addr} {fd : FuncData} {ps : List Str} {sp : Sp} {dvs : List V} {ds : List Value} {E : L2.St → XK} {x m : Str} {p pos apos : Pos} {e o : Expr} {es : List Expr} {to : TE} {t tk : TA} {pl : Sem Bool} {kws : List Keyword} {ks : List Str} {gg : List Value → List Value → List Value} {gV : List V → List V → List V}
theorem pe_meS (ho : PE X o to) (hc : Cls X.K C) (hm : Meth X.K C m f) (F : FnOk X.prog X.w X.K X.mg X.base CX k f fd ps sp) (room : Room k X.A) (bnd : Binds X.K fd ps ds) (hd : Vals dvs ds) (hx : ∀ σ, PassesAt CX X σ (E σ)) (hargs : PA X (e :: es) t)
    (h1 : starEach (e :: es) X.env = (false, eval e X.env) :: starEach es X.env) (h2 : (backTo pos (starEach es X.env)).any (·.1) = false) (ht : MethTree o m apos pos (e :: es) pl X.env) : PE X (.Call (.Attribute o m apos) (e :: es) [] pos) (tMeS C m sp dvs E to t) :=
  ⟨fun pins s σ H Q I hq => PySem.W.methodCall_KW (pl := pl) (thn (ho.run pins s σ H _ I hq) fun own s1 ⟨x, H1, I1, rx, a, dx, fs, ex, ea, l, q1⟩ => by
    subst ex
    obtain rfl : own = Value.ref a := rx
    exact getmeth_ok I1 ea hc hm l (PySem.W.callWith_K (first := [.ref a]) (h₀ := X.base) I1.ok.mod.kin hm.kp (thn (hargs.run pos pins s1 σ H1 _ I1 q1) fun us s2 ⟨vs, H2, I2, r2, q2⟩ => ⟨I2.kIn,
      run_fnSD (us := .ref a :: us) (vs := .ref a :: vs) F room bnd hd (hx σ) I2 (.cons rfl r2) q2⟩) h1 h2)) ht⟩
theorem pe_meS0 (ho : PE X o to) (hc : Cls X.K C) (hm : Meth X.K C m f) (F : FnOk X.prog X.w X.K X.mg X.base CX k f fd ps sp) (room : Room k X.A) (bnd : Binds X.K fd ps ds) (hd : Vals dvs ds) (hx : ∀ σ, PassesAt CX X σ (E σ))
    (ht : MethTree o m apos pos [] pl X.env) : PE X (.Call (.Attribute o m apos) [] [] pos) (tMeS C m sp dvs E to tNil) :=
  ⟨fun pins s σ H Q I hq => PySem.W.methodCall_KW (pl := pl) (thn (ho.run pins s σ H _ I hq) fun own s1 ⟨x, H1, I1, rx, a, dx, fs, ex, ea, l, q1⟩ => by
    subst ex
    obtain rfl : own = Value.ref a := rx
    exact getmeth_ok I1 ea hc hm l (PySem.W.callWith_K0 (first := [.ref a]) I1.kIn hm.kp (run_fnSD (us := [.ref a]) (vs := [.ref a]) F room bnd hd (hx σ) I1 (.cons rfl .nil) q1))) ht⟩
/-- a new object: __init__ runs on it -/
theorem run_mk {pins : List (Addr × Obj)} {σ : L2.St} {H : Hp} {s : Shared} {Q : VK} {args : Args} {us : List Value} {vs : List V} {Ex : XK} (M : Mk X.K C f) (F : FnOk X.prog X.w X.K X.mg X.base CX k f fd ps sp) (room : Room (k + 1) X.A) (hx : PassesAt CX X σ Ex) (I : Inv X pins σ H s)
    (bnd : ∀ s1 : Shared, X.K.In s1.heap → BindsTo s1 fd ⟨.ref (s.heap.objs.size + 1) :: args.pos, args.kw⟩ (ps.zip (.ref (s.heap.objs.size + 1) :: us))) (r : Vals vs us)
    (h : ∀ x dx, H x = none → H dx = none → dx ≠ x → sp (.ref x :: vs) (upd (upd H dx (.own x)) x (.ins C dx [])) (fun v H2 => v = .non ∧ Q (.ref x) H2) Ex) : wpAny (model X.prog X.w) X.A (call (.ref C) args.pos args.kw) (EP X pins σ Q) X.xe s := by
  have q0 := h (s.heap.objs.size + 1) s.heap.objs.size (I.hok.fresh (Nat.le_succ _)) (I.hok.fresh (Nat.le_refl _)) (Nat.ne_of_lt (Nat.lt_succ_self _))
  have I2 : Inv X pins σ _ _ := Inv.made (C := C) I
  have r2 : Vals (V.ref (s.heap.objs.size + 1) :: vs) (Value.ref (s.heap.objs.size + 1) :: us) := .cons rfl r
  have step := F.run _ X.stack _ _ ⟨.ref (s.heap.objs.size + 1) :: args.pos, args.kw⟩ _ _ _ Ex (room.make C args.pos args.kw) (I2.env0.make C args.pos args.kw) (bnd _ I2.kIn) r2 q0
  refine wpAny_call (make_map (f := f) I.kIn M.makes M.init (beq_iff_eq.mp M.fn) (codeAny_mono step fun res s3 h3 => ?_))
  match res, h3 with
  | .error err, h3 => exact hx pins _ _ err s3 I2 h3
  | .ok (.ret u), h3 =>
    obtain ⟨v, H4, I4, rv, rfl, q4⟩ := I2.after h3
    exact ⟨rv, .ref (s.heap.objs.size + 1), H4, I4, rfl, q4⟩
  | .ok .next, h3 => exact h3.elim
  | .ok .brk, h3 => exact h3.elim
  | .ok .cont, h3 => exact h3.elim
theorem pe_mkS (M : Mk X.K C f) (F : FnOk X.prog X.w X.K X.mg X.base CX k f fd ps sp) (room : Room (k + 1) X.A) (hg : Gl X x) (hm : X.mg x = some (.ref C)) (bnd : Binds X.K fd ps ds) (hd : Vals dvs ds) (hx : ∀ σ, PassesAt CX X σ (E σ)) (hargs : PA X (e :: es) t)
    (hdb : (x == ("__debug__" : Str)) = false) (h1 : starEach (e :: es) X.env = (false, eval e X.env) :: starEach es X.env) (h2 : (backTo pos (starEach es X.env)).any (·.1) = false) : PE X (.Call (.Name x p) (e :: es) [] pos) (tMkS C sp dvs E t) :=
  ⟨fun pins s σ H Q I hq => wpAny_Call_Name_kw (ld_glob I hg hm (PySem.W.callWith_K (h₀ := X.base) I.ok.mod.kin M.kp (thn (hargs.run pos pins s σ H _ I hq) fun us s1 ⟨vs, H1, I1, r, q1⟩ => ⟨I1.kIn, by
    have hq1 := q1 (s1.heap.objs.size + 1) s1.heap.objs.size (I1.hok.fresh (Nat.le_succ _)) (I1.hok.fresh (Nat.le_refl _)) (Nat.ne_of_lt (Nat.lt_succ_self _))
    have hl : ((us ++ ds).length + 1) = ps.length := by
      have := F.len _ _ _ _ hq1
      rw [← (r.append hd).length]; simpa using this
    exact run_mk (args := ⟨us, []⟩) M F room (hx σ) I1 (fun s2 k2 => bnd s2 (.ref (s1.heap.objs.size + 1) :: us) k2 (by simpa using hl)) (r.append hd) q1⟩) h1 h2) hdb)⟩
theorem pe_mkS0 (M : Mk X.K C f) (F : FnOk X.prog X.w X.K X.mg X.base CX k f fd ps sp) (room : Room (k + 1) X.A) (hg : Gl X x) (hm : X.mg x = some (.ref C)) (bnd : Binds X.K fd ps ds) (hd : Vals dvs ds) (hx : ∀ σ, PassesAt CX X σ (E σ))
    (hdb : (x == ("__debug__" : Str)) = false) : PE X (.Call (.Name x p) [] [] pos) (tMkS C sp dvs E tNil) :=
  ⟨fun pins s σ H Q I q1 => wpAny_Call_Name_kw (ld_glob I hg hm (PySem.W.callWith_K0 I.kIn M.kp (by
    have hq1 := q1 (s.heap.objs.size + 1) s.heap.objs.size (I.hok.fresh (Nat.le_succ _)) (I.hok.fresh (Nat.le_refl _)) (Nat.ne_of_lt (Nat.lt_succ_self _))
    have hl : (ds.length + 1) = ps.length := by
      have := F.len _ _ _ _ hq1
      rw [← hd.length]; simpa using this
    exact run_mk (args := ⟨[], []⟩) M F room (hx σ) I (fun s2 k2 => bnd s2 [.ref (s.heap.objs.size + 1)] k2 (by simpa using hl)) (show Vals ([] ++ dvs) ds from hd) q1)) hdb)⟩
/-- keywords: gg puts the values in the parameters' order; the new object stays ahead -/
structure KPut (K : PySem.W.Frag) (fd : FuncData) (ps : List Str) (n : Nat) (ks : List Str) (gg : List Value → List Value → List Value) (gV : List V → List V → List V) : Prop where
  to : ∀ (s : Shared) (u : Value) (us ws : List Value), K.In s.heap → us.length = n → ws.length = ks.length → BindsTo s fd ⟨u :: us, ks.zip ws⟩ (ps.zip (u :: gg us ws))
  rel : ∀ {vs : List V} {us : List Value} {zs : List V} {ws : List Value}, Vals vs us → Vals zs ws → Vals (gV vs zs) (gg us ws)
def tMkP (C : Addr) (n m : Nat) (sp : Sp) (gV : List V → List V → List V) (E : L2.St → XK) (t tk : TA) : TE := fun σ H Q => t σ H fun vs H1 => tk σ H1 fun zs H2 => vs.length = n ∧ zs.length = m ∧
  ∀ x dx, H2 x = none → H2 dx = none → dx ≠ x → sp (.ref x :: gV vs zs) (upd (upd H2 dx (.own x)) x (.ins C dx [])) (fun v H3 => v = .non ∧ Q (.ref x) H3) (E σ)
theorem pe_mkP (M : Mk X.K C f) (F : FnOk X.prog X.w X.K X.mg X.base CX k f fd ps sp) (room : Room (k + 1) X.A) (hg : Gl X x) (hm : X.mg x = some (.ref C)) (bnd : KPut X.K fd ps n ks gg gV) (hx : ∀ σ, PassesAt CX X σ (E σ)) (hargs : PA X (e :: es) t) (hkw : PK X kws tk)
    (hall : (backToKw pos (keywordEach kws X.env)).all (·.1.isSome) = true) (hks : (backToKw pos (keywordEach kws X.env)).filterMap (·.1) = ks) (hdb : (x == ("__debug__" : Str)) = false) (h1 : starEach (e :: es) X.env = (false, eval e X.env) :: starEach es X.env)
    (h2 : ((backTo pos (starEach (e :: es) X.env)).any (·.1) || (backToKw pos (keywordEach kws X.env)).any (·.1.isNone)) = false) : PE X (.Call (.Name x p) (e :: es) kws pos) (tMkP C n ks.length sp gV E t tk) :=
  ⟨fun pins s σ H Q I hq => wpAny_Call_Name_kw (ld_glob I hg hm (PySem.W.callWith_KW (h₀ := X.base) I.ok.mod.kin M.kp hall (thn (hargs.run pos pins s σ H _ I hq) fun us s1 ⟨vs, H1, I1, r, q1⟩ => thn (hkw.run pos pins s1 σ H1 _ I1 q1) fun ws s2 ⟨zs, H2, I2, rz, l1, l2, q2⟩ => ⟨I2.kIn, by
    rw [hks]
    exact run_mk (args := ⟨us, ks.zip ws⟩) M F room (hx σ) I2 (fun s3 k3 => bnd.to s3 _ us ws k3 (r.length.symm.trans l1) (rz.length.symm.trans l2)) (bnd.rel r rz) q2⟩) h2 h1) hdb)⟩
theorem pe_mkP0 (M : Mk X.K C f) (F : FnOk X.prog X.w X.K X.mg X.base CX k f fd ps sp) (room : Room (k + 1) X.A) (hg : Gl X x) (hm : X.mg x = some (.ref C)) (bnd : KPut X.K fd ps 0 ks gg gV) (hx : ∀ σ, PassesAt CX X σ (E σ)) (hkw : PK X kws tk)
    (hall : (backToKw pos (keywordEach kws X.env)).all (·.1.isSome) = true) (hks : (backToKw pos (keywordEach kws X.env)).filterMap (·.1) = ks) (hdb : (x == ("__debug__" : Str)) = false)
    (h2 : ((backTo pos (starEach [] X.env)).any (·.1) || (backToKw pos (keywordEach kws X.env)).any (·.1.isNone)) = false) : PE X (.Call (.Name x p) [] kws pos) (tMkP C 0 ks.length sp gV E tNil tk) :=
  ⟨fun pins s σ H Q I hq => wpAny_Call_Name_kw (ld_glob I hg hm (PySem.W.callWith_KW0 (h₀ := X.base) I.ok.mod.kin M.kp hall (thn (hkw.run pos pins s σ H _ I hq) fun ws s2 ⟨zs, H2, I2, rz, l1, l2, q2⟩ => ⟨I2.kIn, by
    rw [hks]
    exact run_mk (args := ⟨[], ks.zip ws⟩) M F room (hx σ) I2 (fun s3 k3 => bnd.to s3 _ [] ws k3 rfl (rz.length.symm.trans l2)) (bnd.rel .nil rz) q2⟩) h2) hdb)⟩
end
/-! ### my readings -/
section
variable {g : G} {C : Addr} {f : Addr} {dfl : List D} {F : FV} {pos apos p kpos : Pos} {e o i : Expr} {es : List Expr} {Ts Tk : EVs} {T To Ti : EV} {x m : Str} {c mn : String} {kws : List Keyword}
noncomputable def isIns (c m : String) (v : Vl) (S : Sta) : Bool := match v with
  | .d (.obj i) => match S.P[i]? with
    | some (.ins c' fs) => decide (c' = c) && (fs.lookup m).isNone
    | _ => false
  | _ => false
@[simp] noncomputable def eMeth (c m : String) (F : FV) (dfl : List D) (To : EV) (Ts : EVs) : EV := fun σ S => (To σ S).bind fun v S1 => if isIns c m (frz v) S1 = true then (Ts σ S1).bind fun vs S2 => F (frz v :: (vs ++ dfl.map .d)) S2 else .bad
theorem isIns_at {wd : Wd} {H : Hp} {S : Sta} {v : Vl} {x : V} (hh : HR g.K g.cls wd S H) (rv : RW g.K wd v x) (h : isIns c mn v S = true) : ∃ a dx fs, x = .ref a ∧ H a = some (.ins (g.cls c) dx fs) ∧ fs.lookup (enc mn) = none := by
  unfold isIns at h
  split at h
  · rename_i i
    split at h
    · rename_i c' fs ei
      rw [Bool.and_eq_true] at h
      obtain ⟨h1, h2⟩ := h
      have ec := of_decide_eq_true h1
      subst ec
      simp only [RW, RD] at rv
      obtain ⟨a, rfl, ea⟩ := rv
      obtain ⟨a', ea', dx, vfs, hx, rf⟩ := hh.ob i _ ei
      rw [ea] at ea'; cases ea'
      exact ⟨a, dx, vfs, rfl, hx, (rf.look (f := mn)).2 (by simpa using h2)⟩
    · cases h
  · cases h
/-- from a plain call to a promise -/
theorem sp_of {wd : Wd} {H : Hp} {S : Sta} {W : WX} {σ : L2.St} {Q : VK} {ps : List Str} {args : List Vl} {vs : List V} {F : FV} (hr : HR g.K g.cls wd S H) (ra : RWs g.K wd args vs) (har : ∀ args S, args.length ≠ ps.length → F args S = .bad) (h : OkE g.K g.cls W σ wd Q (F args S)) :
    spF g.K g.cls ps.length F vs H Q (WE W σ) := by
  refine ⟨?_, wd, args, S, hr, ra, okE_C h⟩
  rw [← ra.length]
  refine Decidable.byContradiction fun hn => ?_
  rw [har _ _ hn] at h
  exact h
theorem je_meth (c mn : String) (h : FnJ g f dfl F) (hc : Cls g.K (g.cls c)) (hm : Meth g.K (g.cls c) m f) (ho : JE g o To) (ha : JA g (e :: es) Ts) (em : m = enc mn := by decide +kernel) {pl : Env → Sem Bool}
    (h1 : ∀ env, starEach (e :: es) env = (false, eval e env) :: starEach es env := by intro _; rfl) (h2 : ∀ env, (backTo pos (starEach es env)).any (·.1) = false := by intro _; rfl) (ht : ∀ env, MethTree o m apos pos (e :: es) (pl env) env := by intro _; exact rfl) :
    JE g (.Call (.Attribute o m apos) (e :: es) [] pos) (eMeth c mn F dfl To Ts) := fun X hX W tk => by
  obtain ⟨fd, ps, k, ds, dvs, hF, hk, kp, hb, hd, hr, har⟩ := h.ex
  have tk' : ∀ σ, PassesAt (L2.CX g.P g.w) X σ (WE W σ) := fun σ => by
    have := passAt tk σ
    rw [hX.P, hX.w] at this; exact this
  refine (pe_meS (C := g.cls c) (E := WE W) (ho X hX W tk) (by rw [hX.K]; exact hc) (by rw [hX.K]; exact hm) (FnOk.to hX hF) (hX.room.mono hk) (by rw [hX.K]; exact hb) hd tk' (ha X hX W tk) (h1 X.env) (h2 X.env) (ht X.env)).imp fun σ H Q h => ?_
  obtain ⟨wd, σ', S, hs, hh, h⟩ := h
  refine ⟨wd, σ', S, hs, hh, ?_⟩
  have h1 := OkE_opd (F := fun v S1 => if isIns c mn v S1 = true then (Ts σ' S1).bind fun vs S2 => F (v :: (vs ++ dfl.map .d)) S2 else .bad) h
  revert h1
  cases To σ' S with
  | exc c fs S1 => intro h1; exact h1
  | bad => intro h1; exact h1
  | ok v S1 =>
    intro h1 wd1 y H1 l hr1 rv
    obtain ⟨v', wd2, S2, l2, hr2, rw2, h2⟩ := h1 wd1 y H1 l hr1 rv
    split at h2
    · rename_i hi
      obtain ⟨a, dx, vfs, rfl, hx, hn⟩ := isIns_at hr2 rw2 hi
      refine ⟨a, dx, vfs, rfl, hx, by rw [em]; exact hn, wd2, σ', S2, hs.mono l2, hr2, ?_⟩
      have h3 := OkA_bindE h2
      revert h3
      cases Ts σ' S2 with
      | exc c fs S1 => intro h1; exact h1
      | bad => intro h1; exact h1
      | ok vs S3 =>
        intro h3 wd3 xs H3 l3 hr3 rv3
        obtain ⟨v4, wd4, S4, l4, hr4, rw4, h4⟩ := h3 wd3 xs H3 l3 hr3 rv3
        refine sp_of hr4 ?_ har h4
        exact ⟨_, _, rfl, rw2.mono l4, rw4.append (RWs.ofD (hr wd4))⟩
    · exact h2.elim
theorem je_meth0 (c mn : String) (h : FnJ g f dfl F) (hc : Cls g.K (g.cls c)) (hm : Meth g.K (g.cls c) m f) (ho : JE g o To) (em : m = enc mn := by decide +kernel) {pl : Env → Sem Bool} (ht : ∀ env, MethTree o m apos pos [] (pl env) env := by intro _; exact rfl) :
    JE g (.Call (.Attribute o m apos) [] [] pos) (eMeth c mn F dfl To aNil) := fun X hX W tk => by
  obtain ⟨fd, ps, k, ds, dvs, hF, hk, kp, hb, hd, hr, har⟩ := h.ex
  have tk' : ∀ σ, PassesAt (L2.CX g.P g.w) X σ (WE W σ) := fun σ => by
    have := passAt tk σ
    rw [hX.P, hX.w] at this; exact this
  refine (pe_meS0 (C := g.cls c) (E := WE W) (ho X hX W tk) (by rw [hX.K]; exact hc) (by rw [hX.K]; exact hm) (FnOk.to hX hF) (hX.room.mono hk) (by rw [hX.K]; exact hb) hd tk' (ht X.env)).imp fun σ H Q h => ?_
  obtain ⟨wd, σ', S, hs, hh, h⟩ := h
  refine ⟨wd, σ', S, hs, hh, ?_⟩
  have h1 := OkE_opd (F := fun v S1 => if isIns c mn v S1 = true then (aNil σ' S1).bind fun vs S2 => F (v :: (vs ++ dfl.map .d)) S2 else .bad) h
  revert h1
  cases To σ' S with
  | exc c fs S1 => intro h1; exact h1
  | bad => intro h1; exact h1
  | ok v S1 =>
    intro h1 wd1 y H1 l hr1 rv
    obtain ⟨v', wd2, S2, l2, hr2, rw2, h2⟩ := h1 wd1 y H1 l hr1 rv
    split at h2
    · rename_i hi
      obtain ⟨a, dx, vfs, rfl, hx, hn⟩ := isIns_at hr2 rw2 hi
      refine ⟨a, dx, vfs, rfl, hx, by rw [em]; exact hn, ?_⟩
      refine sp_of hr2 ?_ har h2
      exact ⟨_, _, rfl, rw2, (show RWs g.K wd2 [] [] from rfl).append (RWs.ofD (hr wd2))⟩
    · exact h2.elim
end
end Ev

set_option Elab.async false
set_option linter.all false
set_option maxRecDepth 100000
set_option maxHeartbeats 1000000
/-! Ev11: makers; keywords; join; the signs of a text; xs[i] = v. -/
namespace Ev
open PySem PySem.Spec PyProof.Rows L2
open Classical
section
variable {K : PySem.W.Frag} {cls : String → Addr}
/-- a new instance without fields -/
theorem HR.pushOb {wd : Wd} {S : Sta} {H : Hp} (h : HR K cls wd S H) (c : String) {x dx : Addr} (nx : H x = none) (nd : H dx = none) (ne : dx ≠ x) :
    wd.Le { wd with ob := wd.ob ++ [x] } ∧ HR K cls { wd with ob := wd.ob ++ [x] } { S with P := S.P ++ [.ins c []] } (upd (upd H dx (.own x)) x (.ins (cls c) dx [])) := by
  have le : wd.Le { wd with ob := wd.ob ++ [x] } := ⟨fun _ _ q => q, List.prefix_refl _, List.prefix_append _ _, rfl⟩
  have h1 : HR K cls wd S (upd H dx (.own x)) := h.lay nd
  have nx1 : (upd H dx (.own x)) x = none := by rw [upd_ne (Ne.symm ne)]; exact nx
  have h2 : HR K cls wd S (upd (upd H dx (.own x)) x (.ins (cls c) dx [])) := h1.lay nx1
  refine ⟨le, h2.fz, h2.bn, fun i m q => ?_, fun i m q => ?_, h2.bnd, by simp [h2.on], ?_, fun i o q => ?_, h2.an, h2.annd, h2.nfz⟩
  · obtain ⟨b, us, e1, e2, e3, rr⟩ := h2.live i m q
    exact ⟨b, us, e1, e2, e3, RDs.mono _ le _ _ rr⟩
  · obtain ⟨b, us, e1, e2, rr⟩ := h2.froz i m q
    exact ⟨b, us, e1, e2, RDs.mono _ le _ _ rr⟩
  · refine List.nodup_append.mpr ⟨h2.ond, by simp, fun y hy z hz w => ?_⟩
    have hz' : z = x := by simpa using hz
    subst hz'; subst w
    exact h.ob_none nx hy
  · by_cases hi : i < S.P.length
    · dsimp only at q
      rw [List.getElem?_append_left hi] at q
      obtain ⟨b, e1, r1⟩ := h2.ob i o q
      exact ⟨b, pre_get le.ob e1, r1.mono le⟩
    · have hi' : i = S.P.length := by
        have := (List.getElem?_eq_some_iff.mp q).1
        simp at this; omega
      subst hi'
      have q' : Ob.ins c [] = o := by simpa using q
      subst q'
      exact ⟨x, by rw [h.on]; simp, dx, [], upd_same, rfl⟩
end
section
variable {g : G} {f C : Addr} {dfl : List D} {F : FV} {pos apos p kpos : Pos} {e o i : Expr} {es : List Expr} {Ts Tk : EVs} {T To Ti : EV} {x m : Str} {c mn : String} {kws : List Keyword} {k0 : Nat}
noncomputable def mkF (c : String) (F : FV) (args : List Vl) (S : Sta) : Out Vl := match F (.d (.obj S.P.length) :: args) { S with P := S.P ++ [.ins c []] } with
  | .ok v S1 => match v with
    | .d .non => .ok (.d (.obj S.P.length)) S1
    | _ => .bad
  | .exc c fs S1 => .exc c fs S1
  | .bad => .bad
@[simp] noncomputable def eMake (c : String) (F : FV) (dfl : List D) (Ts : EVs) : EV := fun σ S => (Ts σ S).bind fun vs S1 => mkF c F (vs ++ dfl.map .d) S1
theorem mk_read {wd : Wd} {H : Hp} {S : Sta} {W : WX} {σ : L2.St} {Q : VK} {ps : List Str} {args : List Vl} {vs : List V} (hr : HR g.K g.cls wd S H) (ra : RWs g.K wd args vs) (har : ∀ args S, args.length ≠ ps.length → F args S = .bad) (h : OkE g.K g.cls W σ wd Q (mkF c F args S)) :
    ∀ x dx, H x = none → H dx = none → dx ≠ x → spF g.K g.cls ps.length F (.ref x :: vs) (upd (upd H dx (.own x)) x (.ins (g.cls c) dx [])) (fun v H2 => v = .non ∧ Q (.ref x) H2) (WE W σ) := by
  intro x dx nx nd ne
  obtain ⟨le, h1⟩ := hr.pushOb c nx nd ne
  have ro : RWs g.K { wd with ob := wd.ob ++ [x] } (.d (.obj S.P.length) :: args) (.ref x :: vs) := ⟨_, _, rfl, by
    simp only [RW, RD]
    exact ⟨x, rfl, by rw [hr.on]; simp⟩, ra.mono le⟩
  refine sp_of (W := W) (σ := σ) h1 ro har ?_
  unfold mkF at h
  revert h
  cases F (.d (.obj S.P.length) :: args) { S with P := S.P ++ [.ins c []] } with
  | exc c fs S1 => exact fun h wd1 H1 cv d l => h wd1 H1 cv d (le.trans l)
  | bad => exact fun h => h
  | ok v S1 =>
    intro h wd1 y H1 l hr1 rv
    dsimp only at h
    split at h
    · have ey : y = .non := by simpa [RV, RD] using rv
      refine ⟨ey, h wd1 (.ref x) H1 (le.trans l) hr1 ?_⟩
      simp only [RV, RD]
      exact ⟨x, rfl, pre_get l.ob (by rw [hr.on]; simp)⟩
    · exact h.elim
theorem je_make (c : String) (h : FnJ { g with k := k0 } f dfl F) (hk0 : k0 + 1 ≤ g.k) (M : Mk g.K (g.cls c) f) (hg : GlS g x) (hm : g.mg x = some (.ref (g.cls c))) (ha : JA g (e :: es) Ts) (hdb : (x == ("__debug__" : Str)) = false := by decide)
    (h1 : ∀ env, starEach (e :: es) env = (false, eval e env) :: starEach es env := by intro _; rfl) (h2 : ∀ env, (backTo pos (starEach es env)).any (·.1) = false := by intro _; rfl) : JE g (.Call (.Name x p) (e :: es) [] pos) (eMake c F dfl Ts) := fun X hX W tk => by
  obtain ⟨fd, ps, k, ds, dvs, hF, hk, kp, hb, hd, hr, har⟩ := h.ex
  have tk' : ∀ σ, PassesAt (L2.CX g.P g.w) X σ (WE W σ) := fun σ => by
    have := passAt tk σ
    rw [hX.P, hX.w] at this; exact this
  have hk' : k + 1 ≤ g.k := Nat.le_trans (Nat.succ_le_succ hk) hk0
  refine (pe_mkS (C := g.cls c) (E := WE W) (by rw [hX.K]; exact M) (FnOk.to hX hF) (hX.room.mono hk') (gl_of hX hg) (by rw [hX.mg]; exact hm) (by rw [hX.K]; exact hb) hd tk' (ha X hX W tk) hdb (h1 X.env) (h2 X.env)).imp fun σ H Q h => ?_
  obtain ⟨wd, σ', S, hs, hh, h⟩ := h
  refine ⟨wd, σ', S, hs, hh, ?_⟩
  have h1 := OkA_bindE h
  revert h1
  cases Ts σ' S with
  | exc c fs S1 => intro h1; exact h1
  | bad => intro h1; exact h1
  | ok vs S1 =>
    intro h1 wd1 xs H1 l hr1 rv
    obtain ⟨v', wd2, S2, l2, hr2, rw2, h2⟩ := h1 wd1 xs H1 l hr1 rv
    exact mk_read hr2 (rw2.append (RWs.ofD (hr wd2))) har h2
theorem je_make0 (c : String) (h : FnJ { g with k := k0 } f dfl F) (hk0 : k0 + 1 ≤ g.k) (M : Mk g.K (g.cls c) f) (hg : GlS g x) (hm : g.mg x = some (.ref (g.cls c))) (hdb : (x == ("__debug__" : Str)) = false := by decide) : JE g (.Call (.Name x p) [] [] pos) (eMake c F dfl aNil) := fun X hX W tk => by
  obtain ⟨fd, ps, k, ds, dvs, hF, hk, kp, hb, hd, hr, har⟩ := h.ex
  have tk' : ∀ σ, PassesAt (L2.CX g.P g.w) X σ (WE W σ) := fun σ => by
    have := passAt tk σ
    rw [hX.P, hX.w] at this; exact this
  have hk' : k + 1 ≤ g.k := Nat.le_trans (Nat.succ_le_succ hk) hk0
  refine (pe_mkS0 (C := g.cls c) (E := WE W) (by rw [hX.K]; exact M) (FnOk.to hX hF) (hX.room.mono hk') (gl_of hX hg) (by rw [hX.mg]; exact hm) (by rw [hX.K]; exact hb) hd tk' hdb).imp fun σ H Q h => ?_
  obtain ⟨wd, σ', S, hs, hh, h⟩ := h
  exact mk_read hh ((show RWs g.K wd [] [] from rfl).append (RWs.ofD (hr wd))) har h
/-! ### keywords -/
def JK (g : G) (kws : List Keyword) (T : EVs) : Prop := ∀ X, Good g X → ∀ W, Takes X W → PK X kws (LA g.K g.cls W T)
theorem _root_.L2.PK.imp {X : Cx} {kws : List Keyword} {t t' : TA} (h : PK X kws t) (i : ∀ σ H Q, t' σ H Q → t σ H Q) : PK X kws t' := ⟨fun p pins s σ H Q I q => h.run p pins s σ H Q I (i σ H Q q)⟩
theorem jk_nil : JK g [] aNil := fun X hX W tk => (pk_nil (X := X)).imp fun σ H Q h => by
  obtain ⟨wd, σ', S, hs, hh, h⟩ := h
  exact h wd [] H (.refl _) hh rfl
end
end Ev

set_option Elab.async false
set_option linter.all false
set_option maxRecDepth 100000
set_option maxHeartbeats 1000000
/-! Ev12: keywords; join; the signs of a text; xs[i] = v. -/
namespace Ev
open PySem PySem.Spec PyProof.Rows L2
open Classical
section
variable {g : G} {f C : Addr} {dfl : List D} {F : FV} {pos apos p kpos : Pos} {e o i : Expr} {es : List Expr} {Ts Tk : EVs} {T To Ti : EV} {x m : Str} {c mn : String} {kws : List Keyword} {k0 : Nat} {nm : Option Str} {ks : List Str}
theorem jk_cons (ha : JE g e T) (hr : JK g kws Ts) : JK g (⟨nm, e, kpos⟩ :: kws) (aCons T Ts) := fun X hX W tk => (pk_cons (nm := nm) (kpos := kpos) (ha X hX W tk) (hr X hX W tk)).imp fun σ H Q h => by
  obtain ⟨wd, σ', S, hs, hh, h⟩ := h
  refine ⟨wd, σ', S, hs, hh, ?_⟩
  have h1 := OkA_opd (F := fun v S1 => (Ts σ' S1).bind fun vs S2 => .ok (v :: vs) S2) h
  revert h1
  cases T σ' S with
  | ok v S1 =>
    intro h1 wd1 x H1 l hr rv
    obtain ⟨v', wd2, S2, l2, hr2, rw2, h2⟩ := h1 wd1 x H1 l hr rv
    refine ⟨wd2, σ', S2, hs.mono l2, hr2, ?_⟩
    have h3 := OkA_bind h2
    revert h3
    cases Ts σ' S2 with
    | ok u S3 =>
      intro h3 wd3 y H3 l3 hr3 rv3
      obtain ⟨u', wd4, S4, l4, hr4, rw4, h4⟩ := h3 wd3 y H3 l3 hr3 rv3
      exact h4 wd4 (x :: y) H3 (.refl _) hr4 ⟨x, y, rfl, rw2.mono l4, rw4⟩
    | exc c fs S3 => intro h3; exact h3
    | bad => intro h3; exact h3
  | exc c fs S1 => intro h1; exact h1
  | bad => intro h1; exact h1
/-- a def that may be called with keywords: n positional values, the keywords ks; gP puts them in the parameters' order -/
structure KFn (g : G) (f : Addr) (n : Nat) (ks : List Str) (gP : List Vl → List Vl → List Vl) (F : FV) : Prop where
  ex : ∃ fd ps k gg gV, FnOk g.P g.w g.K g.mg g.base (L2.CX g.P g.w) k f fd ps (spF g.K g.cls ps.length F) ∧ k ≤ g.k ∧ KPut g.K fd ps n ks gg gV ∧ (∀ wd as bs vs zs, RWs g.K wd as vs → RWs g.K wd bs zs → RWs g.K wd (gP as bs) (gV vs zs)) ∧ ∀ args S, args.length ≠ ps.length → F args S = .bad
@[simp] noncomputable def eMakeK (c : String) (F : FV) (n m : Nat) (gP : List Vl → List Vl → List Vl) (Ts Tk : EVs) : EV := fun σ S => (Ts σ S).bind fun vs S1 => (Tk σ S1).bind fun ws S2 => if vs.length = n ∧ ws.length = m then mkF c F (gP vs ws) S2 else .bad
theorem je_makeK0 (c : String) {gP} (h : KFn { g with k := k0 } f 0 ks gP F) (hk0 : k0 + 1 ≤ g.k) (M : Mk g.K (g.cls c) f) (hg : GlS g x) (hm : g.mg x = some (.ref (g.cls c))) (hkw : JK g kws Tk) (hdb : (x == ("__debug__" : Str)) = false := by decide)
    (hall : ∀ env, (backToKw pos (keywordEach kws env)).all (·.1.isSome) = true := by intro _; rfl) (hks : ∀ env, (backToKw pos (keywordEach kws env)).filterMap (·.1) = ks := by intro _; rfl)
    (h2 : ∀ env, ((backTo pos (starEach [] env)).any (·.1) || (backToKw pos (keywordEach kws env)).any (·.1.isNone)) = false := by intro _; rfl) : JE g (.Call (.Name x p) [] kws pos) (eMakeK c F 0 ks.length gP aNil Tk) := fun X hX W tk => by
  obtain ⟨fd, ps, k, gg, gV, hF, hk, hb, hr, har⟩ := h.ex
  have tk' : ∀ σ, PassesAt (L2.CX g.P g.w) X σ (WE W σ) := fun σ => by
    have := passAt tk σ
    rw [hX.P, hX.w] at this; exact this
  have hk' : k + 1 ≤ g.k := Nat.le_trans (Nat.succ_le_succ hk) hk0
  refine (pe_mkP0 (C := g.cls c) (E := WE W) (by rw [hX.K]; exact M) (FnOk.to hX hF) (hX.room.mono hk') (gl_of hX hg) (by rw [hX.mg]; exact hm) (by rw [hX.K]; exact hb) tk' (hkw X hX W tk) (hall X.env) (hks X.env) hdb (h2 X.env)).imp fun σ H Q h => ?_
  obtain ⟨wd, σ', S, hs, hh, h⟩ := h
  have h1 := OkA_bindE (T := Tk σ' S) (F := fun ws S2 => if ([] : List Vl).length = 0 ∧ ws.length = ks.length then mkF c F (gP [] ws) S2 else .bad) h
  refine ⟨wd, σ', S, hs, hh, ?_⟩
  revert h1
  cases Tk σ' S with
  | exc c fs S1 => intro h1; exact h1
  | bad => intro h1; exact h1
  | ok ws S1 =>
    intro h1 wd1 xs H1 l hr1 rv
    obtain ⟨v', wd2, S2, l2, hr2, rw2, h2⟩ := h1 wd1 xs H1 l hr1 rv
    split at h2
    · rename_i hl
      exact ⟨rfl, rw2.length ▸ hl.2, mk_read hr2 (hr wd2 [] v' [] xs rfl rw2) har h2⟩
    · exact h2.elim
theorem je_makeK (c : String) {gP} {n : Nat} (h : KFn { g with k := k0 } f n ks gP F) (hk0 : k0 + 1 ≤ g.k) (M : Mk g.K (g.cls c) f) (hg : GlS g x) (hm : g.mg x = some (.ref (g.cls c))) (ha : JA g (e :: es) Ts) (hkw : JK g kws Tk) (hdb : (x == ("__debug__" : Str)) = false := by decide)
    (hall : ∀ env, (backToKw pos (keywordEach kws env)).all (·.1.isSome) = true := by intro _; rfl) (hks : ∀ env, (backToKw pos (keywordEach kws env)).filterMap (·.1) = ks := by intro _; rfl) (h1 : ∀ env, starEach (e :: es) env = (false, eval e env) :: starEach es env := by intro _; rfl)
    (h2 : ∀ env, ((backTo pos (starEach (e :: es) env)).any (·.1) || (backToKw pos (keywordEach kws env)).any (·.1.isNone)) = false := by intro _; rfl) : JE g (.Call (.Name x p) (e :: es) kws pos) (eMakeK c F n ks.length gP Ts Tk) := fun X hX W tk => by
  obtain ⟨fd, ps, k, gg, gV, hF, hk, hb, hr, har⟩ := h.ex
  have tk' : ∀ σ, PassesAt (L2.CX g.P g.w) X σ (WE W σ) := fun σ => by
    have := passAt tk σ
    rw [hX.P, hX.w] at this; exact this
  have hk' : k + 1 ≤ g.k := Nat.le_trans (Nat.succ_le_succ hk) hk0
  refine (pe_mkP (C := g.cls c) (E := WE W) (by rw [hX.K]; exact M) (FnOk.to hX hF) (hX.room.mono hk') (gl_of hX hg) (by rw [hX.mg]; exact hm) (by rw [hX.K]; exact hb) tk' (ha X hX W tk) (hkw X hX W tk) (hall X.env) (hks X.env) hdb (h1 X.env) (h2 X.env)).imp fun σ H Q h => ?_
  obtain ⟨wd, σ', S, hs, hh, h⟩ := h
  refine ⟨wd, σ', S, hs, hh, ?_⟩
  have h1 := OkA_bindE h
  revert h1
  cases Ts σ' S with
  | exc c fs S1 => intro h1; exact h1
  | bad => intro h1; exact h1
  | ok vs S1 =>
    intro h1 wd1 xs H1 l hr1 rv
    obtain ⟨v1, wd2, S2, l2, hr2, rw2, h2⟩ := h1 wd1 xs H1 l hr1 rv
    refine ⟨wd2, σ', S2, hs.mono l2, hr2, ?_⟩
    have h3 := OkA_bindE h2
    revert h3
    cases Tk σ' S2 with
    | exc c fs S1 => intro h1; exact h1
    | bad => intro h1; exact h1
    | ok ws S3 =>
      intro h3 wd3 ys H3 l3 hr3 rv3
      obtain ⟨v4, wd4, S4, l4, hr4, rw4, h4⟩ := h3 wd3 ys H3 l3 hr3 rv3
      split at h4
      · rename_i hl
        exact ⟨rw2.length ▸ hl.1, rw4.length ▸ hl.2, mk_read hr4 (hr wd4 _ _ _ _ (rw2.mono l4) rw4) har h4⟩
      · exact h4.elim
/-! ### join -/
theorem glued_ok {a : Str} (ha : PyData.strOk a = true) : ∀ {ys : List Str}, (∀ y ∈ ys, PyData.strOk y = true) → PyData.strOk (Txt.join a ys) = true := by
  intro ys hy
  refine strOk_iff.mpr fun c hc => ?_
  have key : ∀ (l : List Str) (b : Array Nat), (∀ y ∈ l, PyData.strOk y = true) → (∀ c ∈ b.toList, c < 0x110000) → ∀ c ∈ (l.foldl (fun acc p => acc ++ a.cps ++ p.cps) b).toList, c < 0x110000 := by
    intro l
    induction l with
    | nil => exact fun b _ hb => hb
    | cons y l ih =>
      intro b hl hb
      refine ih _ (fun z hz => hl z (List.mem_cons_of_mem _ hz)) fun c hc => ?_
      simp only [Array.toList_append, List.mem_append] at hc
      rcases hc with (hc | hc) | hc
      · exact hb c hc
      · exact strOk_iff.mp ha c hc
      · exact strOk_iff.mp (hl y List.mem_cons_self) c hc
  have hc' : c ∈ ((ys.drop 1).foldl (fun acc p => acc ++ a.cps ++ p.cps) (ys.headD Str.empty).cps).toList := hc
  refine key (ys.drop 1) _ (fun y q => hy y (List.mem_of_mem_drop q)) (fun d hd => ?_) c hc'
  cases ys with
  | nil => simp [Str.empty] at hd
  | cons y r => exact strOk_iff.mp (hy y List.mem_cons_self) d hd
@[simp] noncomputable def eJoin (To T : EV) : EV := fun σ S => (To σ S).bind fun v S1 => match v with
  | .d (.str a) => (T σ S1).bind fun u S2 => joinF (.d (.str a)) (frz u) S2
  | _ => .bad
theorem je_join (ho : JE g o To) (he : JE g e T) (h1 : ∀ env, starEach [e] env = [(false, eval e env)] := by intro _; rfl) (hb : ∀ env, attributeBase o "join" env (eval o env) = eval o env := by intro _; rfl) (hl : (apos.endLine == pos.line) = true := by rfl) : JE g (.Call (.Attribute o "join" apos) [e] [] pos) (eJoin To T) := fun X hX W tk =>
  (pe_join (ho X hX W tk) (he X hX W tk) (h1 X.env) (hb X.env) hl).imp fun σ H Q h => by
  obtain ⟨wd, σ', S, hs, hh, h⟩ := h
  refine ⟨wd, σ', S, hs, hh, ?_⟩
  unfold eJoin at h
  revert h
  cases To σ' S with
  | exc c fs S1 => exact fun h => h
  | bad => exact fun h => h
  | ok v S1 =>
    intro h wd1 x H1 l hr rv
    dsimp only [Out.bind] at h
    split at h
    · rename_i a
      have rx := rd_str (K := g.K) (wd := wd1) (i := a) (x := x) rv
      refine ⟨⟨a, rx.1⟩, wd1, σ', S1, hs.mono l, hr, ?_⟩
      have h3 := OkE_opd (F := fun u S2 => joinF (.d (.str a)) u S2) (OkE.mono l h)
      revert h3
      cases T σ' S1 with
      | exc c fs S1 => intro h1; exact h1
      | bad => intro h1; exact h1
      | ok u S3 =>
        intro h3 wd3 y H3 l3 hr3 rv3
        obtain ⟨u', wd4, S4, l4, hr4, rw4, h4⟩ := h3 wd3 y H3 l3 hr3 rv3
        unfold joinF at h4
        dsimp only at h4
        split at h4
        · rename_i m em
          split at h4
          · rename_i ys ey
            split at h4
            · rename_i hz
              obtain ⟨q, vs, rfl, t, rr⟩ := rdl_at hr4 rw4 em
              obtain ⟨e1, e2⟩ := strs_v rr ey
              subst e1
              exact ⟨a, q, ys, rx.1, rfl, .inl (by rw [hX.K]; exact t), hz, h4 wd4 _ H3 (.refl _) hr4 (rv_str (glued_ok rx.2 e2))⟩
            · exact h4.elim
          · exact h4.elim
        · exact h4.elim
    · exact h.elim
/-! ### the signs of a text -/
def chrs (x : Str) : List D := x.cps.toList.map fun c => D.str ⟨#[c]⟩
def itemsS (v : Vl) (S : Sta) : Out (List D × (Sta → Bool)) := match v with
  | .d (.str x) => .ok (chrs x, fun _ => true) S
  | _ => .bad
theorem ji_str {tg : Expr} (h : JE g e T) : JI g tg e (iOf itemsS T) := fun X hX W tk => (pi_str (h X hX W tk)).imp fun σ H R h => by
  obtain ⟨wd, σ', S, hs, hh, h⟩ := h
  refine ⟨wd, σ', S, hs, hh, ?_⟩
  have h1 := OkI_opd (F := itemsS) h
  revert h1
  cases T σ' S with
  | exc c fs S1 => intro h1; exact h1
  | bad => intro h1; exact h1
  | ok v S1 =>
    intro h1 wd1 x H1 l hr rv
    obtain ⟨v', wd2, S2, l2, hr2, rw2, h2⟩ := h1 wd1 x H1 l hr rv
    unfold itemsS at h2
    split at h2
    · rename_i z
      obtain ⟨rfl, hz⟩ := rd_str rw2
      refine ⟨z, rfl, h2 wd2 H1 _ (.refl _) hr2 fun wd3 S3 H3 l3 hr3 _ => ?_⟩
      refine ⟨?_, fun j y ey => ?_⟩
      · show z.cps.size ≤ (chrs z).length
        simp [chrs]
      have hj : j < z.cps.size := by
        have := (List.getElem?_eq_some_iff.mp ey).1
        simpa [chrs] using this
      refine ⟨hj, fun w H' hy => ?_⟩
      obtain ⟨rfl, c, ec, rfl⟩ := hy
      have ey' : y = .str ⟨#[c]⟩ := by
        have e2 : (chrs z)[j]? = some (.str ⟨#[c]⟩) := by
          simp [chrs, ec]
        rw [e2] at ey; cases ey; rfl
      subst ey'
      refine ⟨wd3, .refl _, hr3, ?_⟩
      simp only [RD, true_and]
      refine strOk_iff.mpr fun d hd => ?_
      have hd' : d = c := by simpa using hd
      subst hd'
      exact strOk_iff.mp hz d (by simpa using Array.mem_of_getElem? ec)
    · exact h2.elim
/-! ### xs[i] = v -/
noncomputable def putAt (o i : Vl) (x : D) (σ : Sl) (S : Sta) : SOut := match o with
  | .box b => match i with
    | .d (.int k) => match S.B[b]? with
      | some (true, l) => match ixN l.length k with
        | some j => .nxt σ { S with B := S.B.set b (true, l.set j x) }
        | none => .bad
      | _ => .bad
    | _ => .bad
  | _ => .bad
@[simp] noncomputable def sSub (To Ti T : EV) : SV := fun σ S => (T σ S).st σ fun v S1 => match toD (frz v) S1 with
  | some (x, S2) => (To σ S2).st σ fun o S3 => (Ti σ S3).st σ fun i S4 => putAt (frz o) (frz i) x σ S4
  | none => .bad
theorem frz_idem (v : Vl) : frz (frz v) = frz v := by cases v <;> rfl
theorem js_sub {sp : Pos} (ho : JE g o To) (hi : JE g i Ti) (he : JE g e T) (hs : ∀ env, swapsWithSole [.Subscript o i sp] e pos.line env = pure false := by intro _; rfl) (hw : ∀ env, swappedStores [.Subscript o i sp] e env = pure none := by intro _; rfl)
    (h1 : ∀ env, (assignEach [.Subscript o i sp] env).map (·.2) = [assign (.Subscript o i sp) env] := by intro _; rfl)
    (ha : ∀ env v, assign (.Subscript o i sp) env v = (do
      let own ← holding [v] (eval o env)
      let at_ ← holding [v, own] (eval i env)
      standAt sp
      holding [v, own, at_] (setItem own at_ v)
      release [v, own, at_] []) := by intro _ _; rfl) : JS g (.Assign [.Subscript o i sp] e pos) (sSub To Ti T) := fun X hX W tk =>
  (ps_asg (he X hX.toGood W tk) (pg_sub (ho X hX.toGood W tk) (hi X hX.toGood W tk) set_list (ha X.env)) (hs X.env) (hw X.env) (h1 X.env)).imp fun E σ H h => by
  obtain ⟨wd, σ', S, hs, hh, h⟩ := h
  refine ⟨wd, σ', S, hs, hh, ?_⟩
  have h1 := st_read hs h
  revert h1
  cases T σ' S with
  | exc c fs S1 => intro h1; exact h1
  | bad => intro h1; exact h1
  | ok v S1 =>
    intro h1 wd1 y H1 l hr rv
    obtain ⟨v', wd2, S2, l2, hr2, rw2, h2⟩ := h1 wd1 y H1 l hr rv
    obtain ⟨wd3, l3, hr3, r3⟩ := rw2.frz hr2
    split at h2
    · rename_i z S3 ey
      obtain ⟨wd4, l4, hr4, r4⟩ := RW.toD hr3 r3 ey
      have hs4 := ((hs.mono l2).mono l3).mono l4
      refine ⟨wd4, σ', S3, hs4, hr4, ?_⟩
      have h3 := st_read hs4 (OkS.mono (l3.trans l4) h2)
      revert h3
      cases To σ' S3 with
      | exc c fs S5 => intro h3; exact h3
      | bad => intro h3; exact h3
      | ok v5 S5 =>
        intro h3 wd5 y5 H5 l5 hr5 rv5
        obtain ⟨v6, wd6, S6, l6, hr6, rw6, h6⟩ := h3 wd5 y5 H5 l5 hr5 rv5
        obtain ⟨wd7, l7, hr7, r7⟩ := rw6.frz hr6
        have hs7 := hs4.mono (l6.trans l7)
        refine ⟨wd7, σ', S6, hs7, hr7, ?_⟩
        have h8 := st_read hs7 (OkS.mono l7 h6)
        revert h8
        cases Ti σ' S6 with
        | exc c fs S5 => intro h3; exact h3
        | bad => intro h3; exact h3
        | ok v8 S8 =>
          intro h8 wd9 y9 H9 l9 hr9 rv9
          obtain ⟨v10, wd10, S10, l10, hr10, rw10, h10⟩ := h8 wd9 y9 H9 l9 hr9 rv9
          obtain ⟨wd11, l11, hr11, r11⟩ := rw10.frz hr10
          have h12 := OkS.mono l11 h10
          have r7' := (r7.mono l10).mono l11
          have r4' := RD.mono g.K (((l6.trans l7).trans l10).trans l11) _ _ r4
          revert h12 r7' r11
          generalize frz v6 = fo
          generalize frz v10 = fi
          intro r11 h12 r7'
          unfold putAt at h12
          split at h12
          · rename_i b
            split at h12
            · rename_i kk
              split at h12
              · rename_i lst el
                split at h12
                · rename_i j ej
                  obtain ⟨a, rfl, ea⟩ := r7'
                  obtain ⟨a', vs, e1, e2, e3, rr⟩ := hr11.live b lst el
                  rw [ea] at e1; cases e1
                  refine ⟨a, vs, kk, j, rfl, rd_int r11, e2, by rw [← rr.length]; exact ej, ?_⟩
                  exact h12 wd11 σ _ (.refl _) (hs7.mono (l10.trans l11)) (hr11.setBox el ea (rr.set j r4'))
                · exact h12.elim
              · exact h12.elim
            · exact h12.elim
          · exact h12.elim
    · exact h2.elim
end
end Ev

set_option Elab.async false
set_option linter.all false
set_option maxRecDepth 100000
/-! Ev13: len(set(xs)), xs a list of texts. -/
namespace Ev
open PySem PySem.Spec PyProof.Rows L2
open Classical
def metS (xs : List Str) (i : Nat) : List Str := (xs.take i).foldl step_dedup []
theorem metS_succ {xs : List Str} {i : Nat} {x : Str} (h : xs[i]? = some x) : metS xs (i + 1) = step_dedup (metS xs i) x := by
  unfold metS
  rw [List.take_add_one, h, List.foldl_append]; rfl
theorem stepS_len (a : List Str) (x : Str) : (step_dedup a x).length = (if a.any (· == x) = true then a.length else a.length + 1) := by
  unfold step_dedup
  by_cases c : a.any (· == x) = true
  · rw [if_pos c, if_pos c]
  · rw [if_neg c, if_neg c]; simp
theorem metS_len (xs : List Str) : ∀ i, i ≤ xs.length → (metS xs i).length ≤ i
  | 0, _ => Nat.le_refl _
  | i + 1, hi => by
    obtain ⟨x, ex⟩ : ∃ x, xs[i]? = some x := ⟨_, List.getElem?_eq_getElem hi⟩
    have ih := metS_len xs i (by omega)
    rw [metS_succ ex, stepS_len]
    split <;> omega
theorem stepS_any (a : List Str) (x k : Str) : ((step_dedup a x).any (· == k)) = (a.any (· == k) || decide (k = x)) := by
  unfold step_dedup
  by_cases c : a.any (· == x) = true
  · rw [if_pos c]
    by_cases e : k = x
    · subst e; simp [c]
    · simp [e]
  · rw [if_neg c, List.any_append]
    by_cases e : k = x
    · subst e; simp
    · have : ([x].any (· == k)) = false := by simpa using fun z : x = k => e z.symm
      rw [this]; simp [e]
section
variable {prog : Program} {w : World} {A : Around}
theorem strs_loop {I : Addr} {fp wr : List Addr} {Gr : Array GenState → Array GenState → Prop} {n : Nat} {Pv : Nat → Value → Prop} {St : Nat → Shared → Prop} {R : Result → Shared → Prop} (W : WalksS prog w A.in1 I fp wr Gr n Pv St) (D : Addr) (out : D ∉ fp) (xs : List Str) (hn : n = xs.length) (small : n + 1 < scanBound)
    (items : ∀ i v, Pv i v → ∃ x t, xs[i]? = some x ∧ v = .str x t) : ∀ (m i : Nat) (s0 : Shared), i + m = n → St i s0 → s0.heap.SetOf (PySem.strKind prog w) D (fun k => (metS xs i).any (· == k)) (metS xs i).length →
      (∀ s1, Moved (D :: wr) Gr s0 s1 → s1.heap.SetOf (PySem.strKind prog w) D (fun k => (metS xs n).any (· == k)) (metS xs n).length → R (.ok (.ret .none)) s1) → codeAny (model prog w) A (.builtin "set.update.loop" ⟨[.ref D, .ref I], []⟩) R s0
  | 0, i, s0, hm, st, so, fin => by
    have ei : i = n := by omega
    subst ei
    refine codeAny_builtin PyProof.Rows.F.entry_set_update_loop ?_; rw [Around.under_plainId PyProof.Rows.F.plain_set_update_loop _]
    refine wpAny_bind (W.done s0 _ _ st fun s1 mv => ?_); change wpAny _ A.in1 (ret Value.none) _ _ s1
    refine wpAny_pure (fin s1 (mv.mono fun b hb => List.mem_cons_of_mem _ hb) ?_)
    obtain ⟨o, es, ep, t, ho, rest⟩ := so; exact ⟨o, es, ep, t, mv.heap D _ (fun z => out (W.sub _ z)) ho, rest⟩
  | m + 1, i, s0, hm, st, so, fin => by
    have hi : i < n := by omega
    refine codeAny_builtin PyProof.Rows.F.entry_set_update_loop ?_; rw [Around.under_plainId PyProof.Rows.F.plain_set_update_loop _]
    refine wpAny_bind (W.item i s0 _ _ hi st fun v s1 pv st1 mv => ?_)
    obtain ⟨x, t, ex, rfl⟩ := items i v pv
    have so1 : s1.heap.SetOf (PySem.strKind prog w) D (fun k => (metS xs i).any (· == k)) (metS xs i).length := by
      obtain ⟨o, es, ep, tb, ho, rest⟩ := so; exact ⟨o, es, ep, tb, mv.heap D _ (fun z => out (W.sub _ z)) ho, rest⟩
    change wpAny _ A.in1 (holding [Value.str x t] (setAdd D (.str x t)) >>= _) _ _ s1
    refine wpAny_bind (wpAny_holding ?_); unfold setAdd; refine wpAny_holding (wpAny_bind ((PySem.strKind prog w).pyHash (k := x) (strKind_is _ _ _ _) ?_))
    refine wpAny_setAddHashed_of (knd := PySem.strKind prog w) (s := { s1 with toks := s1.toks + 1 }) (strKind_is _ _ _ _) rfl so1 (by have := metS_len xs i (by omega); omega) fun h2 keep so2 => ?_
    have so3 : h2.SetOf (PySem.strKind prog w) D (fun k => (metS xs (i + 1)).any (· == k)) (metS xs (i + 1)).length := SetOf_congr so2 (fun k => by rw [metS_succ ex, stepS_any]) (by rw [metS_succ ex, stepS_len])
    refine wpAny_pure ⟨plainId_quiet PyProof.Rows.F.plain_set_update_loop _, strs_loop W D out xs hn small items m (i + 1) _ (by omega) (W.frame _ s1 _ _ st1 (Nat.le_succ _) fun b hb o e => ?_) so3 fun s4 mv4 so4 => fin s4 (Moved.trans W.gtrans ((mv.mono fun b hb => List.mem_cons_of_mem _ hb).then_heap (Nat.le_succ _) fun b o hb e => ?_) mv4) so4⟩
    · rw [keep.2 b (fun z : b = D => out (z ▸ hb))]; exact e
    · rw [keep.2 b (fun z : b = D => hb (z ▸ List.mem_cons_self))]; exact e
variable {E : Value → Shared → Prop} {s : Shared}
/-- the new set, empty -/
abbrev setNew (led : Bool) : Obj := { cls := .type "set", dict := none, data := .set #[] 0 (.fresh 0 0 led) }
set_option maxHeartbeats 3200000 in
theorem call_set_strs {l : Addr} {items : Array Value} {xs : List Str} {Q : Value → Shared → Prop} (calm : A.handled = none) (lst : s.heap.IsList l items) (hsz : items.size = xs.length) (hit : ∀ (i : Nat) (v : Value), items[i]? = some v → ∃ x t, xs[i]? = some x ∧ v = .str x t) (small : items.size + 1 < scanBound)
    (fin : ∀ (h2 : Heap) (tk : Nat), h2.SetOf (PySem.strKind prog w) s.heap.objs.size (fun k => (metS xs items.size).any (· == k)) (metS xs items.size).length → (∀ b o, b < s.heap.objs.size → s.heap.get? b = some o → h2.get? b = some o) → Q (.ref s.heap.objs.size) { s with heap := h2, toks := tk }) :
    wpAny (model prog w) A (call (.type "set") [.ref l]) Q E s := by
  obtain ⟨c, tl, hmro⟩ := PySem.F.called_set.mro
  have made := PySem.F.called_set.made; have sub := PySem.F.called_set.sub
  refine wpAny_call (codeAny_of_tree ?_); change wpAny _ _ (callAny (.type "set") _) _ _ _
  refine wpAny_pure ⟨Code.quiet_builtin _ (by decide +kernel), codeAny_builtin PySem.F.entry_type_call ?_⟩; rw [Around.under_plain (weight_type_call_type "set" [.ref l] []) rfl]
  have notType := PySem.F.called_set.notType; have canCreate := PySem.F.called_set.canCreate; have checked := PySem.F.typeCall_set_1 (.ref l)
  repeat (any_goals (first | assumption | wp_step))
  refine codeAny_mono (code_set_new_1 (.ref l) (E := E) (Q₁ := fun obj s1 => ∃ led, obj = .ref s.heap.objs.size ∧ s1 = { s with heap := s.heap.push (setNew led) }) fun led => ⟨led, rfl, rfl⟩) fun res s1 q1 => ?_
  match res, q1 with
  | .error e, q1 => exact q1
  | .ok .next, q1 => exact q1.elim
  | .ok .brk, q1 => exact q1.elim
  | .ok .cont, q1 => exact q1.elim
  | .ok (.ret obj), q1 =>
    obtain ⟨led, rfl, rfl⟩ := q1
    have isNew : (s.heap.push (setNew led)).get? s.heap.objs.size = some (setNew led) := Heap.get?_push_size _ rfl
    have tyNew : Shared.TypeIs { s with heap := s.heap.push (setNew led) } (.ref s.heap.objs.size) "set" := ⟨_, isNew, rfl⟩
    have look := PySem.F.called_set.init.lookup; have bind_ := PySem.F.called_set.init.bind (.ref s.heap.objs.size)
    repeat (any_goals (first | assumption | wp_step))
    refine codeAny_mono (codeAny_call_builtin (R := wants (fun r s2 => r = .none ∧ ∃ h2 tk, s2 = { s with heap := h2, toks := tk } ∧ h2.SetOf (PySem.strKind prog w) s.heap.objs.size (fun k => (metS xs items.size).any (· == k)) (metS xs items.size).length ∧
        (∀ b o, b < s.heap.objs.size → s.heap.get? b = some o → h2.get? b = some o)) E) PySem.F.called_set.init.plain PySem.F.entry_set_init (check_set_init_1 tyNew ?_)) fun res2 s2 q2 => ?_
    · obtain ⟨⟨lcls, ldict, ldata, lslots⟩, ol, cl, nl, dl⟩ := lst
      dsimp only at cl dl; subst cl; subst dl
      have ol2 : (s.heap.push (setNew led)).get? l = some { cls := .type "list", dict := ldict, data := .seq items nl, slots := lslots } := Heap.get?_push_of_some _ ol
      have notSet := PySem.F.sub_list_set; have notFrozen := PySem.F.sub_list_frozenset
      have notDict : (Value.type "list" == Value.type "dict") = false := by decide
      have lst2 : (s.heap.push (setNew led)).IsList l items := ⟨_, ol2, rfl, nl, rfl⟩
      unfold Builtin.«set.__init__» noKeywords Builtin.Frozenset.updateFrom; generalize itEq : pyIter = IT
      wp_walk
      subst itEq
      refine wpAny_pyIter_list lst2 (wpAny_bind (wpAny_runValue ?_))
      have below : l < s.heap.objs.size := Heap.lt_size ol
      have calm3 : A.in1.in1.in1.handled = none := by simp [calm]
      have itNe : l ≠ (s.heap.push (setNew led)).objs.size := by rw [Heap.size_push]; exact Nat.ne_of_lt (Nat.lt_succ_of_lt below)
      have apart : s.heap.objs.size ∉ [(s.heap.push (setNew led)).objs.size, l] := by rw [Heap.size_push]; simp only [List.mem_cons, List.not_mem_nil, or_false, not_or]; exact ⟨Nat.ne_of_lt (Nat.lt_succ_self _), Nat.ne_of_gt below⟩
      refine strs_loop ((Walks.list calm3 _ l itNe items).toS) s.heap.objs.size apart xs hsz small hit items.size 0 _ (Nat.zero_add _) ⟨⟨_, Heap.get?_push_size _ rfl, rfl, rfl⟩, (lst2.push _)⟩ ?_ fun s3 mv so => ?_
      · exact SetOf_congr ((setObjOf_fresh (knd := PySem.strKind prog w) led).setOf (Heap.get?_push_of_some _ isNew) (by unfold scanBound; omega)) (fun _ => rfl) rfl
      · obtain ⟨h3, g3, d3, t3, os3⟩ := s3
        obtain rfl : g3 = s.gens := mv.gens
        obtain rfl : d3 = s.drawn := mv.drawn
        obtain rfl : os3 = s.os := mv.os
        change wpAny _ _ _ _ _ _; refine wpAny_pure ?_; change wpAny _ _ (ret Value.none) _ _ _
        refine wpAny_pure ⟨rfl, h3, t3, rfl, so, fun b o hb e => mv.heap b o ?_ (Heap.get?_push_of_some _ (Heap.get?_push_of_some _ e))⟩
        simp only [List.mem_cons, List.not_mem_nil, or_false, not_or]; exact ⟨Nat.ne_of_lt hb, by rw [Heap.size_push]; exact Nat.ne_of_lt (Nat.lt_succ_of_lt hb)⟩
    · match res2, q2 with
      | .error e, q2 => exact q2
      | .ok .next, q2 => exact q2.elim
      | .ok .brk, q2 => exact q2.elim
      | .ok .cont, q2 => exact q2.elim
      | .ok (.ret r), q2 =>
        obtain ⟨rfl, h4, t4, rfl, so, kp⟩ := q2
        repeat (any_goals (first | assumption | wp_step))
        exact fin h4 t4 so kp
end
end Ev

set_option Elab.async false
set_option linter.all false
set_option maxRecDepth 100000
set_option maxHeartbeats 1000000
/-! Ev14: the reading of len(set(xs)). -/
namespace Ev
open PySem PySem.Spec PyProof.Rows L2
open Classical
def tLenSt (K : PySem.W.Frag) (ta : TE) : TE := fun σ H Q => ta σ H fun x H1 => ∃ l, ∃ xs : List Str, x = .ref l ∧ SqL K H1 l (xs.map V.str) ∧ xs.length + 1 < scanBound ∧ Q (.int ((metS xs xs.length).length : Nat)) H1
section
variable {X : Cx} {a : Expr} {ta : TE} {p p2 q pos : Pos}
theorem pe_lenSt (hc : X.calm = true) (g1 : Gl X "len") (m1 : X.mg "len" = none) (g2 : Gl X "set") (m2 : X.mg "set" = none) (ha : PE X a ta) (na : starEach [a] X.env = (false, eval a X.env) :: starEach [] X.env) :
    PE X (.Call (.Name "len" p) [.Call (.Name "set" p2) [a] [] q] [] pos) (tLenSt X.K ta) := by
  refine ⟨fun pins s σ H Q I h => Call_ (ld_blt I g1 m1 boot_len (PyProof.Rows.callWith_builtin1 (PyProof.Rows.args_cons ?_ rfl) rfl rfl))⟩
  refine Call_ (ld_blt I g2 m2 boot_set (PyProof.Rows.callWith_type1 (PyProof.Rows.args_cons (thn (ha.run pins s σ H _ I h) fun v s1 ⟨x, H1, I1, r1, l, xs, ex, sq, small, fin⟩ => PyProof.Rows.args_nil ?_) na) na rfl))
  subst ex
  obtain rfl : v = Value.ref l := r1
  obtain ⟨its, r, pl, hz⟩ := I1.list sq
  have len1 : its.toArray.size = xs.length := by rw [List.size_toArray, ← r.length, List.length_map]
  refine call_set_strs (I1.ok.hd hc) pl.isList len1 (fun i v hv => ?_) (by rw [len1]; exact small) fun h2 tk so keep => ?_
  · have hv' : its[i]? = some v := by simpa using hv
    have hi : i < xs.length := by
      have := (List.getElem?_eq_some_iff.mp hv').1
      rw [← r.length, List.length_map] at this; exact this
    obtain ⟨w, hw, t, e⟩ := r.get (i := i) (x := .str xs[i]) (by simp [hi])
    rw [hv'] at hw; cases hw
    exact ⟨xs[i], t, List.getElem?_eq_getElem hi, e⟩
  · refine PyProof.Rows.args_nil ?_
    rw [len1] at so
    obtain ⟨o, es, ep, t, ho, hex, hd, _, _, _, hf, hn⟩ := so
    have I2 : Inv X pins σ H1 { s1 with heap := h2, toks := tk } := I1.kept fun b o e => keep b o (Heap.lt_size e) e
    have le := metS_len xs xs.length (Nat.le_refl _)
    exact call_len_set ho hex hd hf (by rw [hn]; unfold scanBound at small; omega) ⟨.int ((metS xs xs.length).length : Nat), H1, I2.tok _, ⟨_, by rw [hn]⟩, fin⟩
end
section
variable {g : G} {T : EV} {e : Expr} {p p2 q pos : Pos}
noncomputable def lenSetF (v : Vl) (S : Sta) : Out Vl := match rdlOf v S with
  | some l => match strsOf l with
    | some ys => if ys.length + 1 < scanBound then .ok (.d (.int ((metS ys ys.length).length : Nat))) S else .bad
    | none => .bad
  | none => .bad
theorem je_lenSet (g1 : GlS g "len") (m1 : g.mg "len" = none) (g2 : GlS g "set") (m2 : g.mg "set" = none) (he : JE g e T) (hs : ∀ env, starEach [e] env = (false, eval e env) :: starEach [] env := by intro _; rfl) :
    JE g (.Call (.Name "len" p) [.Call (.Name "set" p2) [e] [] q] [] pos) (eUn lenSetF T) := fun X hX W tk =>
  (pe_lenSt hX.calm (gl_of hX g1) (by rw [hX.mg]; exact m1) (gl_of hX g2) (by rw [hX.mg]; exact m2) (he X hX W tk) (hs X.env)).imp fun σ H Q h => un_read (r := fun x H1 Q => ∃ l, ∃ xs : List Str, x = .ref l ∧ SqL X.K H1 l (xs.map V.str) ∧ xs.length + 1 < scanBound ∧ Q (.int ((metS xs xs.length).length : Nat)) H1) (fun W σ wd H S v x Q hh rv h' => by
    unfold lenSetF at h'
    split at h'
    · rename_i l el
      split at h'
      · rename_i ys ey
        split at h'
        · rename_i small
          obtain ⟨a, vs, rfl, t, rr⟩ := rdl_at hh rv el
          obtain ⟨e1, _⟩ := strs_v rr ey
          subst e1
          exact ⟨a, ys, rfl, by rw [hX.K]; exact t, small, h' wd _ H (.refl _) hh rv_int⟩
        · exact h'.elim
      · exact h'.elim
    · exact h'.elim) h
end
end Ev

set_option Elab.async false
set_option linter.all false
set_option maxRecDepth 100000
set_option maxHeartbeats 1000000
/-! Ev15: loops over what there is; arguments that get a box; the facts of the text's top; defs by their place. -/
namespace Ev
open PySem PySem.Spec PyProof.Rows L2
open Classical
section
variable {g : G} {pos : Pos} {e : Expr} {es : List Expr} {T : EV} {Ts : EVs} {x : Str}
noncomputable def itemsA (v : Vl) (S : Sta) : Out (List D × (Sta → Bool)) := match v with
  | .d (.tup l) => itemsT (.d (.tup l)) S
  | .d (.str x) => itemsS (.d (.str x)) S
  | v => itemsL v S
@[simp] theorem itemsA_tup (l : List D) (S : Sta) : itemsA (.d (.tup l)) S = .ok (l, fun _ => true) S := rfl
@[simp] theorem itemsA_str (x : Str) (S : Sta) : itemsA (.d (.str x)) S = .ok (chrs x, fun _ => true) S := rfl
theorem ji_any {tg : Expr} (h : JE g e T) : JI g tg e (iOf itemsA T) := fun X hX W tk => ⟨fun pins s σ H R I q => by
  obtain ⟨wd, σ', S, hs, hh, ok⟩ := q
  have other : ∀ f : Vl → Sta → Out (List D × (Sta → Bool)), (∀ v S1, T σ' S = .ok v S1 → itemsA (frz v) S1 = f (frz v) S1) → iOf itemsA T σ' S = iOf f T σ' S := by
    intro f hf
    show (T σ' S).bind _ = (T σ' S).bind _
    cases hT : T σ' S with
    | ok v S1 => exact hf v S1 hT
    | exc c fs S1 => rfl
    | bad => rfl
  by_cases h1 : ∃ v S1 l, T σ' S = .ok v S1 ∧ frz v = .d (.tup l)
  · obtain ⟨v, S1, l, e1, e2⟩ := h1
    rw [other itemsT (fun v2 S2 e3 => by rw [e1] at e3; cases e3; rw [e2]; rfl)] at ok
    exact (ji_tup h X hX W tk).run pins s σ H R I ⟨wd, σ', S, hs, hh, ok⟩
  · by_cases h2 : ∃ v S1 l, T σ' S = .ok v S1 ∧ frz v = .d (.str l)
    · obtain ⟨v, S1, l, e1, e2⟩ := h2
      rw [other itemsS (fun v2 S2 e3 => by rw [e1] at e3; cases e3; rw [e2]; rfl)] at ok
      exact (ji_str h X hX W tk).run pins s σ H R I ⟨wd, σ', S, hs, hh, ok⟩
    · rw [other itemsL (fun v2 S2 e3 => by
        unfold itemsA
        split
        · rename_i l e4; exact absurd ⟨v2, S2, l, e3, e4⟩ h1
        · rename_i l e4; exact absurd ⟨v2, S2, l, e3, e4⟩ h2
        · rfl)] at ok
      exact (ji_list h X hX W tk).run pins s σ H R I ⟨wd, σ', S, hs, hh, ok⟩⟩
/-- an argument that the callee may change: a new list gets a box -/
@[simp] noncomputable def aConsB (T : EV) (Ts : EVs) : EVs := fun σ S => (T σ S).bind fun v S1 => match v with
  | .new l => (Ts σ { S1 with B := S1.B ++ [(true, l)] }).bind fun vs S2 => .ok (.box S1.B.length :: vs) S2
  | v => (Ts σ S1).bind fun vs S2 => .ok (v :: vs) S2
theorem ja_consB (ha : JE g e T) (hr : JA g es Ts) (hs : ∀ env, starEach (e :: es) env = (false, eval e env) :: starEach es env := by intro _; rfl) : JA g (e :: es) (aConsB T Ts) := fun X hX W tk =>
  (pa_cons (ha X hX W tk) (hr X hX W tk) (hs X.env)).imp fun σ H Q h => by
    obtain ⟨wd, σ', S, hs, hh, h⟩ := h
    refine ⟨wd, σ', S, hs, hh, ?_⟩
    unfold aConsB at h
    have go : ∀ (wd2 : Wd) (u : Vl) (y : V) (S2 : Sta) (H2 : Hp), wd.Le wd2 → HR g.K g.cls wd2 S2 H2 → RW g.K wd2 u y → OkA g.K g.cls W σ wd2 Q ((Ts σ' S2).bind fun vs S3 => .ok (u :: vs) S3) → LA g.K g.cls W Ts σ H2 fun ys H3 => Q (y :: ys) H3 := by
      intro wd2 u y S2 H2 l2 hr2 rw2 h2
      refine ⟨wd2, σ', S2, hs.mono l2, hr2, ?_⟩
      have h3 := OkA_bind h2
      revert h3
      cases Ts σ' S2 with
      | ok us S3 =>
        intro h3 wd3 z H3 l3 hr3 rv3
        obtain ⟨u', wd4, S4, l4, hr4, rw4, h4⟩ := h3 wd3 z H3 l3 hr3 rv3
        exact h4 wd4 (y :: z) H3 (.refl _) hr4 ⟨y, z, rfl, rw2.mono l4, rw4⟩
      | exc c fs S3 => intro h3; exact h3
      | bad => intro h3; exact h3
    revert h
    cases T σ' S with
    | exc c fs S1 => exact fun h => h
    | bad => exact fun h => h
    | ok v S1 =>
      intro h wd1 y H1 l hr1 rv
      dsimp only [Out.bind] at h
      cases v with
      | new m =>
        obtain ⟨a, vs, rfl, e1, n, nb, na, r⟩ := rv
        obtain ⟨le, hr2⟩ := hr1.pushBox e1 n nb na r
        exact go _ (.box S1.B.length) _ _ _ (l.trans le) hr2 ⟨a, rfl, by rw [hr1.bn]; simp⟩ (OkA.mono (l.trans le) h)
      | d z => exact go wd1 (.d z) y S1 H1 l hr1 rv (OkA.mono l h)
      | box j => exact go wd1 (.box j) y S1 H1 l hr1 rv (OkA.mono l h)
theorem je_gintE {i : Int} (hm : ∃ t, g.mg x = some (.int i t)) (hg : g.sc.names.lookup x = some .globalImplicit := by rfl) (hd : (x == ("__debug__" : Str)) = false := by decide) : JE g (.Name x pos) (eC (.int i)) := by
  obtain ⟨t, h⟩ := hm
  exact je_gint hg h hd
theorem je_gstrE {z : Str} (hm : ∃ t, g.mg x = some (.str z t)) (hg : g.sc.names.lookup x = some .globalImplicit := by rfl) (hz : PyData.strOk z = true := by decide +kernel) (hd : (x == ("__debug__" : Str)) = false := by decide) : JE g (.Name x pos) (eC (.str z)) := by
  obtain ⟨t, h⟩ := hm
  exact je_gstr hg h hz hd
end
/-- y = [..] where y is a cell: nothing is swapped -/
theorem sw_cell {g : G} {elt : Expr} {gs : List Comprehension} {scope : Scope} {pos py : Pos} {y : Str} {l : Nat} (hy : g.sc.names.lookup y = some .cell) : ∀ env : Env, env.scope = g.sc → swapsWith (.ListComp elt gs scope pos) (some (.Name y py)) l env = pure false := by
  intro env he
  have ky : env.kindOf y = some .cell := by show env.scope.names.lookup y = _; rw [he]; exact hy
  unfold swapsWith
  simp only [ky]
  have : (some NameKind.cell == some NameKind.local) = false := by decide
  rw [this]
  simp
/-! ### the facts of the text's top -/
/-- a class of errors with fields, as the head sees it -/
def oexB (K : PySem.W.Frag) (C : Addr) : Bool := (match K.lookup C with
  | some ⟨.type t, _, .cls cd, sl⟩ => (match cd.mro, sl.toList with
    | .ref C' :: bm, [_, _, _, _, some (.builtin n), _] => decide (t = "type") && (decide (C' = C) && (decide (n = "ValueError.__new__") && (!cd.hasDel && (cd.hasDict && PySem.HandSPX.refsVE bm))))
    | _, _ => false)
  | _ => false) && (decide (PySem.W.findIn K (.ref C) "__setattr__" = some (some (.builtin "object.__setattr__"))) && (decide (PySem.W.subIn K (.ref C) (.type "BaseException") = some true) && (decide (PySem.W.typeIn K (.ref C) = some (.type "type")) && PySem.W.keepIn K (.ref C))))
theorem oexB_ok {K : PySem.W.Frag} {C : Addr} (h : oexB K C = true) : OexC K C := by
  unfold oexB at h
  simp only [Bool.and_eq_true, decide_eq_true_eq] at h
  obtain ⟨h1, h2, h3, h4, h5⟩ := h
  refine ⟨?_, h2, h3, h4, h5⟩
  split at h1
  · rename_i t dd cd sl ho
    split at h1
    · rename_i C' bm k0 k1 k2 k3 n k5 hm hs
      simp only [Bool.and_eq_true, decide_eq_true_eq, Bool.not_eq_true'] at h1
      obtain ⟨rfl, rfl, rfl, hdel, hdict, ht⟩ := h1
      obtain ⟨nm, bs, mro, ns, qn, hd, sn, sub, ab, col, del⟩ := cd
      dsimp only at hm hdel hdict
      subst hm hdel hdict
      have hsl : sl = #[k0, k1, k2, k3, some (.builtin "ValueError.__new__"), k5] := by
        obtain ⟨l⟩ := sl
        simp only at hs
        rw [hs]
      subst hsl
      exact ⟨nm, qn, ns, bs, bm, sn, sub, ab, col, dd, k0, k1, k2, k3, k5, ho, ht⟩
    · cases h1
  · cases h1
def xB (K : PySem.W.Frag) (x : Str) : Bool := oexB K (He.ga K x) && xfB K (He.ga K x)
/-! ### the head's hook, with these facts -/
abbrev AlX : Type := He.AlD × Bool
def obsXG (n : Nat) (fa : List He.Fa) (fn : List He.DefD) (xs : List Str) (g : Addr → Option Obj) : AlX := (He.obsDG n fa fn g, xs.all (xB (He.frG g (He.asD g n))))
def hookX (n : Nat) (fa : List He.Fa) (fn : List He.DefD) (xs : List Str) : PySem.W.Hook where
  α := AlX
  obs := fun s => obsXG n fa fn xs s.heap.get?
  val := fun _ => (He.valD fn, true)
  says := fun _ h => ∃ K : PySem.W.Frag, K.In h ∧ (He.SaysD fa fn K ∧ xs.all (xB K) = true)
  of := fun _ _ e => ⟨_, He.frG_in, congrArg (fun z : AlX => z.1) e, congrArg (fun z : AlX => z.2) e⟩
  keeps := fun _ _ _ ⟨K, hK, c⟩ k => ⟨K, PySem.W.Frag.In.keeps hK k, c⟩
theorem obsXG_eq {n : Nat} {fa : List He.Fa} {fn : List He.DefD} {xs : List Str} {g : Addr → Option Obj} {s : Shared} (h : ∀ a, g a = s.heap.get? a) : obsXG n fa fn xs g = (hookX n fa fn xs).obs s := by
  have e : g = s.heap.get? := funext h
  subst e; rfl
structure EnvE (fa : List He.Fa) (fn : List He.DefD) (xs : List Str) (g : G) : Prop where
  c : He.SaysD fa fn g.K
  inn : ∃ h, g.K.In h ∧ h.Ns mainGlobals g.mg
  cls : g.cls = fun s => He.ga g.K (enc s)
  hx : xs.all (xB g.K) = true
section
variable {fa : List He.Fa} {fn : List He.DefD} {xs : List Str} {g : G} {x m f : Str} {c : String}
theorem EnvE.at_ (E : EnvE fa fn xs g) (k : Nat) (N : List Str) (sc : Scope) : EnvE fa fn xs (g.at_ k N sc) := ⟨E.c, E.inn, E.cls, E.hx⟩
theorem EnvE.any (E : EnvE fa fn xs g) {g' : G} (h1 : g'.K = g.K := by rfl) (h2 : g'.mg = g.mg := by rfl) (h3 : g'.cls = g.cls := by rfl) : EnvE fa fn xs g' := ⟨by rw [h1]; exact E.c, by rw [h1, h2]; exact E.inn, by rw [h1, h3]; exact E.cls, by rw [h1]; exact E.hx⟩
theorem EnvE.glo (E : EnvE fa fn xs g) (i : Nat) (h : fa[i]? = some (.glo x) := by rfl) : g.mg x = some (.ref (He.ga g.K x)) := let ⟨_, X, G⟩ := E.inn; He.glo_ok X G (E.c.fact i h)
theorem EnvE.free (E : EnvE fa fn xs g) (i : Nat) (h : fa[i]? = some (.free x) := by rfl) : g.mg x = none := let ⟨_, X, G⟩ := E.inn; He.free_ok X G (E.c.fact i h)
theorem EnvE.int_ (E : EnvE fa fn xs g) (i : Nat) {n : Int} (h : fa[i]? = some (.int x n) := by rfl) : ∃ t, g.mg x = some (.int n t) := let ⟨_, X, G⟩ := E.inn; He.int_ok X G (E.c.fact i h)
theorem EnvE.str_ (E : EnvE fa fn xs g) (i : Nat) {z : Str} (h : fa[i]? = some (.str x z) := by rfl) : ∃ t, g.mg x = some (.str z t) := let ⟨_, X, G⟩ := E.inn; He.str_ok X G (E.c.fact i h)
theorem EnvE.cad (E : EnvE fa fn xs g) (c : String) : g.cls c = He.ga g.K (enc c) := congrFun E.cls c
theorem EnvE.gcl (E : EnvE fa fn xs g) (i : Nat) (c : String) (h : fa[i]? = some (.glo (enc c)) := by rfl) (e : x = enc c := by rfl) : g.mg x = some (.ref (g.cls c)) := by rw [E.cad, e]; exact E.glo i h
theorem EnvE.cls_ (E : EnvE fa fn xs g) (i : Nat) (c : String) (h : fa[i]? = some (.cls (enc c)) := by rfl) : Cls g.K (g.cls c) := by rw [E.cad]; exact He.cls_ok (E.c.fact i h)
theorem EnvE.noat (E : EnvE fa fn xs g) (i : Nat) (c : String) (h : fa[i]? = some (.noat (enc c) f) := by rfl) : NoAttr g.K (g.cls c) f := by rw [E.cad]; exact He.noat_ok (E.c.fact i h)
theorem EnvE.meth (E : EnvE fa fn xs g) (i : Nat) (c : String) (h : fa[i]? = some (.meth (enc c) m) := by rfl) : Meth g.K (g.cls c) m (He.fAd g.K (enc c, some m)) := by rw [E.cad]; exact He.meth_ok (E.c.fact i h)
theorem EnvE.mkr (E : EnvE fa fn xs g) (i : Nat) (c : String) (h : fa[i]? = some (.mkr (enc c)) := by rfl) : Mk g.K (g.cls c) (He.fAd g.K (enc c, some "__init__")) := by rw [E.cad]; exact He.mkr_ok (E.c.fact i h)
/-- a def by its place: its body's run is its promise -/
theorem fn_at {d : He.DefD} {N ps : List Str} {k0 : Nat} {T : SV} (E : EnvE fa fn xs g) (i : Nat) (hd : fn[i]? = some d) (h0 : d.dfl = []) (hk0 : d.kwd = []) (S : FnScope N ps d.scope) (hT : JSs (g.at_ k0 N d.scope) d.body T)
    (bind : ∀ (kV doc pm : Value) (an : Option Addr) (cdv ct : Value) (us : List Value), us.length = ps.length → bindArgs (PySem.W.fnOf d.name d.qual d.params d.body d.scope .none kV doc pm an cdv ct) ⟨us, []⟩ = pure (ps.zip us)) (hk : k0 + 1 ≤ g.k) :
    FnJ g (He.fAd g.K d.at_) [] (mkFn ps.length (N.length - ps.length) T) := by
  obtain ⟨fd, F⟩ := E.c.def_ i hd
  have e1 : d.dvs g.K = [] := by unfold He.DefD.dvs; rw [h0]; rfl
  have e2 : d.kws g.K = [] := by unfold He.DefD.kws; rw [hk0]; rfl
  rw [e1, e2] at F
  refine ⟨fd, ps, k0 + 1, [], [], fn_ok F S hT, hk, F.kp, F.bindsN bind, .nil, fun _ => by simp [RDs], fun args S h => ?_⟩
  unfold mkFn
  rw [if_neg h]
/-- a maker that is called with keywords, in the parameters' order -/
theorem kfn_at {d : He.DefD} {N ps : List Str} {k0 n : Nat} {ks : List Str} {T : SV} (E : EnvE fa fn xs g) (i : Nat) (hd : fn[i]? = some d) (h0 : d.dfl = []) (hk0 : d.kwd = []) (S : FnScope N ps d.scope) (hT : JSs (g.at_ k0 N d.scope) d.body T)
    (bind : ∀ (kV doc pm : Value) (an : Option Addr) (cdv ct u : Value) (us ws : List Value), us.length = n → ws.length = ks.length → bindArgs (PySem.W.fnOf d.name d.qual d.params d.body d.scope .none kV doc pm an cdv ct) ⟨u :: us, ks.zip ws⟩ = pure (ps.zip (u :: (us ++ ws)))) (hk : k0 + 1 ≤ g.k) :
    KFn g (He.fAd g.K d.at_) n ks (fun a b => a ++ b) (mkFn ps.length (N.length - ps.length) T) := by
  obtain ⟨fd, F⟩ := E.c.def_ i hd
  have e1 : d.dvs g.K = [] := by unfold He.DefD.dvs; rw [h0]; rfl
  have e2 : d.kws g.K = [] := by unfold He.DefD.kws; rw [hk0]; rfl
  rw [e1, e2] at F
  refine ⟨fd, ps, k0 + 1, fun a b => a ++ b, fun a b => a ++ b, fn_ok F S hT, hk, ⟨?_, fun r1 r2 => r1.append r2⟩, fun wd as bs vs zs r1 r2 => r1.append r2, fun args S h => ?_⟩
  · obtain ⟨oc, od, dV, kV, doc, pm, an, cdv, ct, osl, rfl, lk, hcd, hD, hK⟩ := F.ex
    rcases hD with ⟨_, rfl⟩ | ⟨e, _⟩
    · exact fun s u us ws _ l1 l2 => .of_eq (bind kV doc pm an cdv ct u us ws l1 l2)
    · exact absurd rfl e
  · unfold mkFn
    rw [if_neg h]
end
end Ev

set_option Elab.async false
set_option linter.all false
set_option maxRecDepth 100000
set_option maxHeartbeats 1000000
/-! Ev16: the law's end. -/
namespace Ev
open PySem PySem.Spec PyProof.Rows L2
open Classical
/-- some exception, whatever program and world it is of -/
def CXn : CXT := fun outer H s E e s' => ∃ P w, L2.CX P w outer H s E e s'
theorem fnok_cx {P : Program} {w : World} {K : PySem.W.Frag} {mg : Str → Option Value} {base : Heap} {k : Nat} {f : Addr} {fd : FuncData} {ps : List Str} {sp : Sp} (F : FnOk P w K mg base (L2.CX P w) k f fd ps sp) : FnOk P w K mg base CXn k f fd ps sp :=
  ⟨F.len, fun A outer s H args us vs Q E hr e0 hb rv h => codeAny_mono (F.run A outer s H args us vs Q E hr e0 hb rv h) fun r s' q => match r, q with
    | .ok (.ret _), q => q
    | .error _, q => ⟨P, w, q⟩
    | .ok .next, q => q
    | .ok .brk, q => q
    | .ok .cont, q => q⟩
theorem cxn_none (H : Hp) (s : Shared) (e : Value) (s' : Shared) (h : CXn [] H s (fun _ _ _ => False) e s') : False := by
  obtain ⟨P, w, a, B, H', cls, d, _, _, _, _, _, _, _, z⟩ := h
  exact z
def scrD (ns : List Int) : Vl := .d (.scr (ns.map D.int))
theorem ints_rd {K : PySem.W.Frag} {wd : Wd} : ∀ ns : List Int, RDs K wd (ns.map D.int) (ns.map V.int)
  | [] => by simp [RDs]
  | n :: r => by
    simp only [List.map_cons, RDs]
    exact ⟨_, _, rfl, by simp [RD], ints_rd r⟩
/-- the law's promise from its run -/
theorem sp_start {K : PySem.W.Frag} {cls : String → Addr} {F : FV} {H : Hp} {a : Addr} {ns : List Int} (hO : Only H) (hS : SqL K H a (ns.map V.int)) (h : ∃ S1, F [scrD ns] ⟨[], []⟩ = .ok (.d (.bl true)) S1) :
    spF K cls 1 F [.ref a] H (fun v _ => v = .bl true) fun _ _ _ => False := by
  obtain ⟨S1, e⟩ := h
  refine ⟨rfl, ⟨H, [], [], []⟩, [scrD ns], ⟨[], []⟩, ?_, ?_, ?_⟩
  · refine ⟨fun _ _ q => q, rfl, fun i l q => by simp at q, fun i l q => by simp at q, List.nodup_nil, rfl, List.nodup_nil, fun i o q => by simp at q, fun p hp => by simp at hp, List.nodup_nil, fun b o q => ?_⟩
    rcases hO b with z | ⟨o', xs, z⟩
    · have q' : H b = some o := q
      rw [z] at q'; cases q'
    · have q' : H b = some o := q
      rw [z] at q'; cases q'; rfl
  · refine ⟨.ref a, [], rfl, ?_, rfl⟩
    show RD K _ (.scr (ns.map D.int)) (.ref a)
    simp only [RD]
    refine ⟨a, ns.map V.int, rfl, ?_, ints_rd ns⟩
    rcases hS with (hS | ⟨o, hS⟩) | hS
    · rcases hO a with z | ⟨o', xs, z⟩ <;> rw [z] at hS <;> cases hS
    · exact .inl ⟨o, hS⟩
    · exact .inr hS
  · rw [e]
    intro wd1 x H1 _ _ rv
    simpa [RV, RD] using rv
end Ev

set_option Elab.async false
set_option linter.all false
set_option maxRecDepth 100000
set_option maxHeartbeats 1000000
/-! Ev17: how a run over plain data is reckoned. -/
namespace Ev
open PySem PySem.Spec PyProof.Rows L2
open Classical
@[simp] theorem frz_d (x : D) : frz (.d x) = .d x := rfl
@[simp] theorem frz_new (l : List D) : frz (.new l) = .d (.lst l) := rfl
@[simp] theorem frz_box (i : Nat) : frz (.box i) = .box i := rfl
@[simp] theorem Out.st_ok (v : Vl) (S : Sta) (σ : Sl) (f : Vl → Sta → SOut) : (Out.ok v S).st σ f = f v S := rfl
@[simp] theorem Out.st_exc (c fs) (S : Sta) (σ : Sl) (f : Vl → Sta → SOut) : (Out.exc c fs S : Out Vl).st σ f = .exc c fs σ S := rfl
@[simp] theorem Out.stB_ok (v : Bool) (S : Sta) (σ : Sl) (f : Bool → Sta → SOut) : (Out.ok v S).stB σ f = f v S := rfl
@[simp] theorem andThen_nxt (σ : Sl) (S : Sta) (f : SV) : (SOut.nxt σ S).andThen f = f σ S := rfl
@[simp] theorem andThen_ret (v : Vl) (S : Sta) (f : SV) : (SOut.ret v S).andThen f = .ret v S := rfl
@[simp] theorem andThen_exc (c fs) (σ : Sl) (S : Sta) (f : SV) : (SOut.exc c fs σ S).andThen f = .exc c fs σ S := rfl
@[simp] theorem toD_new (l : List D) (S : Sta) : toD (.new l) S = some (.lst l, S) := rfl
theorem toD_box {i : Nat} {b : Bool} {l : List D} {S : Sta} (h : S.B[i]? = some (b, l)) : toD (.box i) S = some (.lst l, { S with B := S.B.set i (false, l) }) := by
  show (match S.B[i]? with | some (_, l) => some (D.lst l, { S with B := S.B.set i (false, l) }) | none => none) = _
  rw [h]
/-! numbers -/
theorem le_sizeLine {n : Nat} (h : n ≤ 10000000) : n ≤ sizeLine := by unfold sizeLine; omega
@[simp] theorem szl_1 : 1 ≤ sizeLine := le_sizeLine (by omega)
@[simp] theorem szl_2 : 2 ≤ sizeLine := le_sizeLine (by omega)
@[simp] theorem szl_3 : 3 ≤ sizeLine := le_sizeLine (by omega)
@[simp] theorem szl_4 : 4 ≤ sizeLine := le_sizeLine (by omega)
@[simp] theorem szl_5 : 5 ≤ sizeLine := le_sizeLine (by omega)
@[simp] theorem szl_6 : 6 ≤ sizeLine := le_sizeLine (by omega)
@[simp] theorem szl_7 : 7 ≤ sizeLine := le_sizeLine (by omega)
@[simp] theorem szl_8 : 8 ≤ sizeLine := le_sizeLine (by omega)
@[simp] theorem szl_9 : 9 ≤ sizeLine := le_sizeLine (by omega)
@[simp] theorem szl_10 : 10 ≤ sizeLine := le_sizeLine (by omega)

section
variable (i j : Int) (S : Sta) (x y : Str) (a b : D) (l m : List D)
@[simp] theorem addF_int : addF (.d (.int i)) (.d (.int j)) S = .ok (.d (.int (i + j))) S := rfl
@[simp] theorem addF_str : addF (.d (.str x)) (.d (.str y)) S = if x.length + y.length ≤ sizeLine then .ok (.d (.str (x ++ y))) S else .bad := rfl
@[simp] theorem subF_int : subF (.d (.int i)) (.d (.int j)) S = .ok (.d (.int (i - j))) S := rfl
@[simp] theorem mulF_int : mulF (.d (.int i)) (.d (.int j)) S = if CMulW i j then .ok (.d (.int (i * j))) S else .bad := rfl
@[simp] theorem modF_int : modF (.d (.int i)) (.d (.int j)) S = if 0 < j then .ok (.d (.int (i % j))) S else .bad := rfl
@[simp] theorem divF_int : divF (.d (.int i)) (.d (.int j)) S = if CDivW i j then .ok (.d (.int (i / j))) S else .bad := rfl
@[simp] theorem powF_int : powF (.d (.int i)) (.d (.int j)) S = if CPow i j then .ok (.d (.int (i ^ j.toNat))) S else .bad := rfl
@[simp] theorem negF_int : negF (.d (.int i)) S = .ok (.d (.int (-i))) S := rfl
@[simp] theorem ltF_int : ltF (.d (.int i)) (.d (.int j)) S = .ok (.d (.bl (decide (i < j)))) S := rfl
@[simp] theorem leF_int : leF (.d (.int i)) (.d (.int j)) S = .ok (.d (.bl (decide (i ≤ j)))) S := rfl
@[simp] theorem gtF_int : gtF (.d (.int i)) (.d (.int j)) S = .ok (.d (.bl (decide (j < i)))) S := rfl
@[simp] theorem geF_int : geF (.d (.int i)) (.d (.int j)) S = .ok (.d (.bl (decide (j ≤ i)))) S := rfl
@[simp] theorem intF_int : intF [.d (.int i)] S = .ok (.d (.int i)) S := rfl
/-! == -/
theorem eqF_d : eqF (.d a) (.d b) S = if okD 60 a = true ∧ okD 60 b = true then .ok (.d (.bl (eqD a b))) S else .bad := rfl
theorem neF_d : neF (.d a) (.d b) S = if okD 60 a = true ∧ okD 60 b = true then .ok (.d (.bl (!eqD a b))) S else .bad := rfl
@[simp] theorem eqD_int : eqD (.int i) (.int j) = decide (i = j) := by
  show (i == j) = _
  by_cases h : i = j <;> simp [h]
@[simp] theorem eqD_str : eqD (.str x) (.str y) = decide (x = y) := by
  show (x == y) = _
  by_cases h : x = y
  · subst h; simp
  · rw [beq_eq_false_iff_ne.mpr h]; simp [h]
@[simp] theorem eqD_bl (p q : Bool) : eqD (.bl p) (.bl q) = decide (p = q) := by
  show (p == q) = _
  cases p <;> cases q <;> rfl
@[simp] theorem eqF_int : eqF (.d (.int i)) (.d (.int j)) S = .ok (.d (.bl (decide (i = j)))) S := by rw [eqF_d, if_pos ⟨rfl, rfl⟩, eqD_int]
@[simp] theorem neF_int : neF (.d (.int i)) (.d (.int j)) S = .ok (.d (.bl (!decide (i = j)))) S := by rw [neF_d, if_pos ⟨rfl, rfl⟩, eqD_int]
@[simp] theorem eqF_str : eqF (.d (.str x)) (.d (.str y)) S = .ok (.d (.bl (decide (x = y)))) S := by rw [eqF_d, if_pos ⟨rfl, rfl⟩, eqD_str]
@[simp] theorem neF_str : neF (.d (.str x)) (.d (.str y)) S = .ok (.d (.bl (!decide (x = y)))) S := by rw [neF_d, if_pos ⟨rfl, rfl⟩, eqD_str]
@[simp] theorem eqF_bl (p q : Bool) : eqF (.d (.bl p)) (.d (.bl q)) S = .ok (.d (.bl (decide (p = q)))) S := by rw [eqF_d, if_pos ⟨rfl, rfl⟩, eqD_bl]
@[simp] theorem neF_bl (p q : Bool) : neF (.d (.bl p)) (.d (.bl q)) S = .ok (.d (.bl (!decide (p = q)))) S := by rw [neF_d, if_pos ⟨rfl, rfl⟩, eqD_bl]
end
mutual
theorem eqD_refl : ∀ (n : Nat) (a : D), okD n a = true → eqD a a = true
  | _, .non, _ => rfl
  | _, .bl b, _ => by simp
  | _, .int i, _ => by simp
  | _, .str x, _ => by simp
  | 0, .tup l, h => by simp [okD] at h
  | n + 1, .tup l, h => eqDs_refl n l (by simpa [okD] using h)
  | 0, .lst l, h => by simp [okD] at h
  | n + 1, .lst l, h => eqDs_refl n l (by simpa [okD] using h)
  | 0, .scr l, h => by simp [okD] at h
  | n + 1, .scr l, h => eqDs_refl n l (by simpa [okD] using h)
  | _, .obj _, h => by simp [okD] at h
  | _, .ty _, h => by simp [okD] at h
  | _, .cl _, h => by simp [okD] at h
theorem eqDs_refl : ∀ (n : Nat) (l : List D), okDs n l = true → PyData.eqvAll (toPys l) (toPys l) = true
  | _, [], _ => rfl
  | n, a :: r, h => by
    simp only [okDs, Bool.and_eq_true] at h
    show (PyData.eqv (toPy a) (toPy a) && PyData.eqvAll (toPys r) (toPys r)) = true
    rw [show PyData.eqv (toPy a) (toPy a) = eqD a a from rfl, eqD_refl n a h.1, eqDs_refl n r h.2]; rfl
end
/-! what lists hold -/
section
variable (l m : List D) (S : Sta) (i : Int) (x : Str)
theorem rdlOf_box {k : Nat} {b : Bool} {l : List D} {S : Sta} (h : S.B[k]? = some (b, l)) : rdlOf (.box k) S = some l := by show (match S.B[k]? with | some (_, l) => some l | none => none) = _; rw [h]
theorem lstOf_box {k : Nat} {b : Bool} {l : List D} {S : Sta} (h : S.B[k]? = some (b, l)) : lstOf (.box k) S = some l := by show (match S.B[k]? with | some (_, l) => some l | none => none) = _; rw [h]
theorem datOf_box {k : Nat} {b : Bool} {l : List D} {S : Sta} (h : S.B[k]? = some (b, l)) : datOf (.box k) S = some (.lst l) := by show (match lstOf (.box k) S with | some l => some (D.lst l) | none => none) = _; rw [lstOf_box h]
@[simp] theorem itemsA_lst : itemsA (.d (.lst l)) S = .ok (l, fun S1 => decide (rdlOf (.d (.lst l)) S1 = some l)) S := rfl
@[simp] theorem itemsL_lst : itemsL (.d (.lst l)) S = .ok (l, fun S1 => decide (rdlOf (.d (.lst l)) S1 = some l)) S := rfl
theorem itemsA_box {k : Nat} {b : Bool} {l : List D} {S : Sta} (h : S.B[k]? = some (b, l)) : itemsA (.box k) S = .ok (l, fun S1 => decide (rdlOf (.box k) S1 = some l)) S := by
  show itemsL (.box k) S = _
  unfold itemsL
  rw [rdlOf_box h]
@[simp] theorem lenF_str : lenF [.d (.str x)] S = if x.length ≤ sizeLine then .ok (.d (.int x.length)) S else .bad := rfl
@[simp] theorem lenF_tup : lenF [.d (.tup l)] S = .ok (.d (.int l.length)) S := rfl
@[simp] theorem lenF_lst : lenF [.d (.lst l)] S = .ok (.d (.int l.length)) S := rfl
@[simp] theorem lenF_scr : lenF [.d (.scr l)] S = .ok (.d (.int l.length)) S := rfl
theorem lenF_box {k : Nat} {b : Bool} {l : List D} {S : Sta} (h : S.B[k]? = some (b, l)) : lenF [.box k] S = .ok (.d (.int l.length)) S := by
  show (match rdlOf (.box k) S with | some l => (Out.ok (Vl.d (.int l.length)) S : Out Vl) | none => Out.bad) = _
  rw [rdlOf_box h]
@[simp] theorem tupleF_tup : tupleF [.d (.tup l)] S = .ok (.d (.tup l)) S := rfl
@[simp] theorem tupleF_lst : tupleF [.d (.lst l)] S = .ok (.d (.tup l)) S := rfl
theorem tupleF_box {k : Nat} {b : Bool} {l : List D} {S : Sta} (h : S.B[k]? = some (b, l)) : tupleF [.box k] S = .ok (.d (.tup l)) S := by
  show (match rdlOf (.box k) S with | some l => (Out.ok (Vl.d (.tup l)) S : Out Vl) | none => Out.bad) = _
  rw [rdlOf_box h]
@[simp] theorem allF_lst : allF [.d (.lst l)] S = match blsOf l with
  | some bs => .ok (.d (.bl (bs.all id))) S
  | none => .bad := rfl
theorem allF_box {k : Nat} {b : Bool} {l : List D} {S : Sta} (h : S.B[k]? = some (b, l)) : allF [.box k] S = match blsOf l with
  | some bs => .ok (.d (.bl (bs.all id))) S
  | none => .bad := by
  have e : allF [.box k] S = allF [.d (.lst l)] S := by
    unfold allF
    simp only [rdlOf_box h, rdlOf_lst]
  rw [e]; rfl
@[simp] theorem ixF_tup : ixF (.d (.tup l)) (.d (.int i)) S = match atI l i with
  | some x => .ok (.d x) S
  | none => .bad := rfl
@[simp] theorem ixF_lst : ixF (.d (.lst l)) (.d (.int i)) S = match atI l i with
  | some x => .ok (.d x) S
  | none => .bad := rfl
@[simp] theorem ixF_scr : ixF (.d (.scr l)) (.d (.int i)) S = match atI l i with
  | some x => .ok (.d x) S
  | none => .bad := rfl
@[simp] theorem ixF_str : ixF (.d (.str x)) (.d (.int i)) S = if x.length ≤ sizeLine then match atI x.cps.toList i with
      | some c => .ok (.d (.str ⟨#[c]⟩)) S
      | none => .bad else .bad := rfl
theorem ixF_box {k : Nat} {b : Bool} {l : List D} {S : Sta} (h : S.B[k]? = some (b, l)) : ixF (.box k) (.d (.int i)) S = match atI l i with
  | some x => .ok (.d x) S
  | none => .bad := by
  have e : ixF (.box k) (.d (.int i)) S = ixF (.d (.lst l)) (.d (.int i)) S := by
    unfold ixF
    simp only [rdlOf_box h, rdlOf_lst]
  rw [e]; rfl
end
theorem atI_nat {α : Type} (l : List α) (k : Nat) : atI l (k : Int) = l[k]? := by
  unfold atI ixN
  rw [if_pos (by omega)]
  by_cases h : k < l.length
  · rw [if_pos (by omega)]; simp
  · rw [if_neg (by omega), List.getElem?_eq_none (by omega)]; rfl
@[simp] theorem atI_zero {α : Type} (l : List α) : atI l 0 = l[0]? := atI_nat l 0
@[simp] theorem atI_one {α : Type} (l : List α) : atI l 1 = l[1]? := atI_nat l 1
@[simp] theorem atI_two {α : Type} (l : List α) : atI l 2 = l[2]? := atI_nat l 2
@[simp] theorem atI_three {α : Type} (l : List α) : atI l 3 = l[3]? := atI_nat l 3
@[simp] theorem atI_four {α : Type} (l : List α) : atI l 4 = l[4]? := atI_nat l 4
theorem atI_of {α : Type} (l : List α) (i : Int) (h0 : 0 ≤ i) (h1 : i < l.length) : ∃ x, atI l i = some x ∧ x ∈ l := by
  obtain ⟨k, rfl⟩ := Int.eq_ofNat_of_zero_le h0
  have hk : k < l.length := by omega
  exact ⟨l[k], by rw [atI_nat, List.getElem?_eq_getElem hk], List.getElem_mem hk⟩
theorem atI_last {α : Type} (l : List α) (x : α) : atI (l ++ [x]) (-1) = some x := by
  unfold atI ixN
  rw [if_neg (by omega), if_pos (by simp only [List.length_append, List.length_singleton]; omega)]
  have : (-1 + ((l ++ [x]).length : Int)).toNat = l.length := by simp only [List.length_append, List.length_singleton]; omega
  rw [this]
  simp
/-! loops -/
@[simp] theorem forL_nil (chk tg body) (σ : Sl) (S : Sta) : forL chk tg body [] σ S = if chk S = true then .nxt σ S else .bad := rfl
theorem forL_cons (chk tg body) (x : D) (r : List D) (σ : Sl) (S : Sta) : forL chk tg body (x :: r) σ S = if chk S = true then match tg x σ with
    | none => .bad
    | some σ1 => match body σ1 S with
      | .nxt σ2 S2 => forL chk tg body r σ2 S2
      | .cnt σ2 S2 => forL chk tg body r σ2 S2
      | .brk σ2 S2 => .nxt σ2 S2
      | o => o
    else .bad := rfl
@[simp] theorem loopL_nil (chk tg step) (σ : Sl) (acc : List D) (S : Sta) : loopL chk tg step σ [] acc S = if chk S = true then .ok acc S else .bad := rfl
theorem loopL_cons (chk tg step) (σ : Sl) (x : D) (r acc : List D) (S : Sta) : loopL chk tg step σ (x :: r) acc S = if chk S = true then match tg x σ with
    | none => .bad
    | some σ1 => match step σ1 acc S with
      | .ok acc2 S2 => loopL chk tg step σ r acc2 S2
      | _ => .bad
    else .bad := rfl
/-- a loop whose state is told by how many items are done -/
theorem forL_inv {chk : Sta → Bool} {tg : GV} {body : SV} (Inv : List D → Sl → Sta → Prop) (hc : ∀ r σ S, Inv r σ S → chk S = true)
    (hs : ∀ x r σ S, Inv (x :: r) σ S → ∃ σ1, tg x σ = some σ1 ∧ ∃ σ2 S2, (body σ1 S = .nxt σ2 S2 ∨ body σ1 S = .cnt σ2 S2) ∧ Inv r σ2 S2) : ∀ (items : List D) (σ : Sl) (S : Sta), Inv items σ S → ∃ σ' S', forL chk tg body items σ S = .nxt σ' S' ∧ Inv [] σ' S'
  | [], σ, S, h => ⟨σ, S, by rw [forL_nil, if_pos (hc _ _ _ h)], h⟩
  | x :: r, σ, S, h => by
    obtain ⟨σ1, e1, σ2, S2, e2, h2⟩ := hs x r σ S h
    obtain ⟨σ', S', e3, h3⟩ := forL_inv Inv hc hs r σ2 S2 h2
    refine ⟨σ', S', ?_, h3⟩
    rw [forL_cons, if_pos (hc _ _ _ h), e1]
    dsimp only
    rcases e2 with e2 | e2 <;> rw [e2] <;> exact e3
/-- a comprehension's loop -/
theorem loopL_inv {chk : Sta → Bool} {tg : GV} {step} {σ : Sl} (Inv : List D → List D → Sta → Prop) (hc : ∀ r acc S, Inv r acc S → chk S = true)
    (hs : ∀ x r acc S, Inv (x :: r) acc S → ∃ σ1, tg x σ = some σ1 ∧ ∃ acc2 S2, step σ1 acc S = .ok acc2 S2 ∧ Inv r acc2 S2) : ∀ (items acc : List D) (S : Sta), Inv items acc S → ∃ acc' S', loopL chk tg step σ items acc S = .ok acc' S' ∧ Inv [] acc' S'
  | [], acc, S, h => ⟨acc, S, by rw [loopL_nil, if_pos (hc _ _ _ h)], h⟩
  | x :: r, acc, S, h => by
    obtain ⟨σ1, e1, acc2, S2, e2, h2⟩ := hs x r acc S h
    obtain ⟨a', S', e3, h3⟩ := loopL_inv Inv hc hs r acc2 S2 h2
    refine ⟨a', S', ?_, h3⟩
    rw [loopL_cons, if_pos (hc _ _ _ h), e1]
    dsimp only
    rw [e2]; exact e3
/-- .. that leaves the state alone: each item adds f of it -/
theorem loopL_map {chk : Sta → Bool} {tg : GV} {step} {σ : Sl} {S : Sta} (f : D → List D) (hc : chk S = true) : ∀ (items acc : List D), (∀ x ∈ items, ∃ σ1, tg x σ = some σ1 ∧ ∀ acc, acc.length ≤ (acc ++ f x).length → acc.length + (f x).length ≤ sizeLine → step σ1 acc S = .ok (acc ++ f x) S) →
    (acc ++ items.flatMap f).length ≤ sizeLine → loopL chk tg step σ items acc S = .ok (acc ++ items.flatMap f) S
  | [], acc, _, _ => by rw [loopL_nil, if_pos hc]; simp
  | x :: r, acc, h, hl => by
    obtain ⟨σ1, e1, e2⟩ := h x List.mem_cons_self
    have hl' : acc.length + (f x).length ≤ sizeLine := by
      simp only [List.flatMap_cons, List.length_append] at hl; omega
    rw [loopL_cons, if_pos hc, e1]
    dsimp only
    rw [e2 acc (by simp) hl']
    dsimp only
    rw [loopL_map f hc r (acc ++ f x) (fun y hy => h y (List.mem_cons_of_mem _ hy)) (by simpa using hl)]
    simp
/-- what range(j), range(i, j) give -/
def rng (j : Int) : List D := (List.range j.toNat).map fun k => D.int ((k : Nat) : Int)
def rng2 (i j : Int) : List D := (List.range (j - i).toNat).map fun k => D.int (i + ((k : Nat) : Int))
@[simp] theorem rng_length (j : Int) : (rng j).length = j.toNat := by simp [rng]
@[simp] theorem rng2_length (i j : Int) : (rng2 i j).length = (j - i).toNat := by simp [rng2]
theorem itemsR1_eq (j : Int) (S : Sta) (h1 : -(2 ^ 62) ≤ j) (h2 : j < 2 ^ 62) : itemsR1 [.d (.int j)] S = .ok (rng j, fun _ => true) S := by
  unfold itemsR1
  dsimp only
  rw [if_pos ⟨h1, h2⟩]
  have : ((List.range j.toNat).map fun k => D.int (0 + ((k : Nat) : Int))) = rng j := by
    unfold rng
    congr 1; funext k; rw [Int.zero_add]
  rw [this]
theorem itemsR2_eq (i j : Int) (S : Sta) (h1 : -(2 ^ 62) ≤ i) (h2 : i < 2 ^ 62) (h3 : -(2 ^ 62) ≤ j) (h4 : j < 2 ^ 62) : itemsR2 [.d (.int i), .d (.int j)] S = .ok (rng2 i j, fun _ => true) S := by
  unfold itemsR2
  dsimp only
  rw [if_pos ⟨⟨h1, h2⟩, h3, h4⟩]; rfl
/-! a def's end -/
theorem mkFn_eq {n m : Nat} {T : SV} {args : List Vl} {S : Sta} (h : args.length = n) : mkFn n m T args S = fin S.B.length (T (args.map some ++ List.replicate m none) S) := if_pos h
theorem sFor_eq {I : IV} {tg : GV} {body : SV} {σ : Sl} {S S1 : Sta} {its : List D} {chk : Sta → Bool} (h : I σ S = .ok (its, chk) S1) : sFor I tg body σ S = forL chk tg body its σ S1 := by
  unfold sFor
  rw [h]
theorem eLc_ok {vs : List Nat} {I : IV} {Gt : GV} {TA : TV} {T : EV} {σ : Sl} {S S1 S2 : Sta} {its l : List D} {chk : Sta → Bool} (h1 : I σ S = .ok (its, chk) S1) (h2 : loopL chk Gt (eltStep TA T) (wipeV σ vs) its [] S1 = .ok l S2) : eLc vs I Gt TA T σ S = .ok (.new l) S2 := by
  unfold eLc
  rw [h1]
  dsimp only
  rw [h2]
/-- a statement that goes on -/
theorem seq_nxt {A C : SV} {σ σ1 : Sl} {S S1 : Sta} (e : A σ S = .nxt σ1 S1) : sSeq A C σ S = C σ1 S1 := by simp only [sSeq, e, andThen_nxt]
theorem eLst_nil : eLst aNil = fun (σ : Sl) S => Out.ok (.new []) S := by
  funext σ S
  simp [eLst]

@[simp] theorem fin_d (n : Nat) (x : D) (S : Sta) : fin n (.ret (.d x) S) = .ok (.d x) (cutB n S) := rfl
@[simp] theorem fin_new (n : Nat) (l : List D) (S : Sta) : fin n (.ret (.new l) S) = .ok (.new l) (cutB n S) := rfl
@[simp] theorem fin_nxt (n : Nat) (σ : Sl) (S : Sta) : fin n (.nxt σ S) = .ok (.d .non) (cutB n S) := rfl
theorem fin_box {n i : Nat} {l : List D} {S : Sta} (h : ¬ i < n) (e : S.B[i]? = some (true, l)) : fin n (.ret (.box i) S) = .ok (.new l) (cutB n S) := by
  show (if i < n then _ else _) = _
  rw [if_neg h]; rw [e]
@[simp] theorem cutB_self (P : List Ob) (B : List (Bool × List D)) : cutB B.length ⟨P, B⟩ = ⟨P, B⟩ := by simp [cutB]
@[simp] theorem cutB_set (P : List Ob) (B : List (Bool × List D)) (i : Nat) (x) : cutB B.length ⟨P, B.set i x⟩ = ⟨P, B.set i x⟩ := by simp [cutB, List.take_of_length_le]
@[simp] theorem cutB_app (P : List Ob) (B C : List (Bool × List D)) : cutB B.length ⟨P, B ++ C⟩ = ⟨P, B⟩ := by simp [cutB]
@[simp] theorem cutB_setApp (P : List Ob) (B C : List (Bool × List D)) (i : Nat) (x) : cutB B.length ⟨P, B.set i x ++ C⟩ = ⟨P, B.set i x⟩ := by
  have : B.length = (B.set i x).length := by simp
  rw [this, cutB_app]
end Ev

set_option Elab.async false
set_option linter.all false
set_option maxRecDepth 100000
set_option maxHeartbeats 1000000
/-! Ev18: exceptions of own classes with fields: how they are made and raised. -/
namespace Ev
open PySem PySem.Spec PyProof.Rows L2
open Classical
/-- what a body of field stores leaves of the heap -/
structure FinX (a C dx : Addr) (fs : List (Str × V)) (H Hn : Hp) : Prop where
  at_ : Hn a = some (exo a C (some dx))
  dict : Hn dx = some (exd dx fs)
  other : ∀ b, b ≠ a → b ≠ dx → Hn b = H b
/-- self.f = p; .. -/
inductive XBody (N : List Str) (sc : Scope) : List Stmt → List (Str × Nat) → Prop
  | nil : XBody N sc [] []
  | cons {self x f : Str} {p1 p2 p3 p4 : Pos} {rest : List Stmt} {l : List (Str × Nat)} (i : Nat) (h0 : N[0]? = some self) (v0 : Vis sc self) (hi : N[i]? = some x) (vi : Vis sc x) (d0 : (self == ("__debug__" : Str)) = false) (c0 : (self == ("__classdict__" : Str)) = false) (d1 : (x == ("__debug__" : Str)) = false) (c1 : (x == ("__classdict__" : Str)) = false)
      (r : XBody N sc rest l) : XBody N sc (.Assign [.Attribute (.Name self p1) f p2] (.Name x p3) p4 :: rest) ((f, i) :: l)
/-- the reading of such a body, once a field is there -/
def tX2 (K : PySem.W.Frag) (l : List (Str × Nat)) : TS := fun D σ H => ∃ (a C dx : Addr) (w : Nat → V) (fs : List (Str × V)), σ[0]? = some (some (.ref a)) ∧ OexC K C ∧ (∀ q ∈ l, PySem.W.findIn K (.ref C) q.1 = some none ∧ σ[q.2]? = some (some (w q.2))) ∧ dx ≠ a ∧ H a = some (exo a C (some dx)) ∧ H dx = some (exd dx fs) ∧ fs.length + l.length ≤ 900 ∧
  ∀ Hn, FinX a C dx ((l.map fun q => (q.1, w q.2)).reverse ++ fs) H Hn → D.nx σ Hn
theorem xb_two {X : Cx} {N : List Str} {sc : Scope} : ∀ {body : List Stmt} {l : List (Str × Nat)}, XBody N sc body l → X.N = N → X.env.scope = sc → PSs X body (tX2 X.K l)
  | _, _, .nil, hN, hs => (pss_nil (X := X)).imp fun D σ H h => by
    obtain ⟨a, C, dx, w, fs, e0, T, hl, ne, h1, h2, _, fin⟩ := h
    exact fin H ⟨h1, h2, fun _ _ _ => rfl⟩
  | _, _, .cons i h0 v0 hi vi d0 c0 d1 c1 r, hN, hs => (pss_cons (ps_ost (pe_var (by rw [hN]; exact h0) (by rw [hs]; exact v0) d0 c0) (pe_var (by rw [hN]; exact hi) (by rw [hs]; exact vi) d1 c1)) (xb_two r hN hs)).imp fun D σ H h => by
    obtain ⟨a, C, dx, w, fs, e0, T, hl, ne, h1, h2, hz, fin⟩ := h
    obtain ⟨q1, q2⟩ := hl _ List.mem_cons_self
    refine ⟨_, q2, _, e0, a, C, rfl, T, q1, .inr ⟨dx, fs, h1, h2, by simp only [List.length_cons] at hz; omega, ?_⟩⟩
    refine ⟨a, C, dx, w, _, e0, T, fun q hq => hl q (List.mem_cons_of_mem _ hq), ne, by rw [upd_ne (Ne.symm ne)]; exact h1, upd_same, by simp only [List.length_cons] at hz ⊢; omega, fun Hn hf => fin Hn ⟨hf.at_, ?_, fun b hb hb2 => ?_⟩⟩
    · rw [hf.dict]; simp
    · rw [hf.other b hb hb2, upd_ne hb2]
/-- .. from the start -/
def tX1 (K : PySem.W.Frag) (l : List (Str × Nat)) : TS := fun D σ H => ∃ (a C : Addr) (w : Nat → V), σ[0]? = some (some (.ref a)) ∧ OexC K C ∧ (∀ q ∈ l, PySem.W.findIn K (.ref C) q.1 = some none ∧ σ[q.2]? = some (some (w q.2))) ∧ H a = some (exo a C none) ∧ l.length ≤ 800 ∧
  ∀ dx Hn, H dx = none → dx ≠ a → FinX a C dx ((l.map fun q => (q.1, w q.2)).reverse) H Hn → D.nx σ Hn
theorem xb_one {X : Cx} {N : List Str} {sc : Scope} {body : List Stmt} {q0 : Str × Nat} {l : List (Str × Nat)} (h : XBody N sc body (q0 :: l)) (hN : X.N = N) (hs : X.env.scope = sc) : PSs X body (tX1 X.K (q0 :: l)) := by
  cases h with
  | cons i h0 v0 hi vi d0 c0 d1 c1 r =>
    refine (pss_cons (ps_ost (pe_var (by rw [hN]; exact h0) (by rw [hs]; exact v0) d0 c0) (pe_var (by rw [hN]; exact hi) (by rw [hs]; exact vi) d1 c1)) (xb_two r hN hs)).imp fun D σ H h => ?_
    obtain ⟨a, C, w, e0, T, hl, h1, hz, fin⟩ := h
    obtain ⟨q1, q2⟩ := hl _ List.mem_cons_self
    refine ⟨_, q2, _, e0, a, C, rfl, T, q1, .inl ⟨h1, fun dx hd ne => ?_⟩⟩
    refine ⟨a, C, dx, w, _, e0, T, fun q hq => hl q (List.mem_cons_of_mem _ hq), ne, upd_same, by rw [upd_ne ne]; exact upd_same, by simp only [List.length_cons, List.length_nil] at hz ⊢; omega, fun Hn hf => fin dx Hn hd ne ⟨hf.at_, ?_, fun b hb hb2 => ?_⟩⟩
    · rw [hf.dict]; simp
    · rw [hf.other b hb hb2, upd_ne hb, upd_ne hb2]
/-- the promise of such an __init__ -/
def spX (C : Addr) (names : List Str) : Sp := fun vs H Q _ => ∃ (a : Addr) (ws : List V), vs = .ref a :: ws ∧ ws.length = names.length ∧ H a = some (exo a C none) ∧ ∀ dx Hn, H dx = none → dx ≠ a → FinX a C dx ((names.zip ws).reverse) H Hn → Q .non Hn
/-- fields in the parameters' order -/
def ixs (names : List Str) : List (Str × Nat) := names.zip (List.range' 1 names.length)
theorem ixs_map {names : List Str} {ws : List V} (hl : ws.length = names.length) : ((ixs names).map fun q => (q.1, (ws[q.2 - 1]?).getD .non)) = names.zip ws := by
  refine List.ext_getElem? fun i => ?_
  unfold ixs
  rw [List.getElem?_map]
  by_cases hi : i < names.length
  · have e1 : (names.zip (List.range' 1 names.length))[i]? = some (names[i], 1 + i) := by
      rw [List.getElem?_eq_getElem (by simp [hi])]
      simp
    have e2 : (names.zip ws)[i]? = some (names[i], ws[i]'(by omega)) := by
      rw [List.getElem?_eq_getElem (by simp [hi]; omega)]
      simp
    rw [e1, e2]
    simp only [Option.map_some]
    have : 1 + i - 1 = i := by omega
    rw [this, List.getElem?_eq_getElem (by omega)]
    rfl
  · rw [List.getElem?_eq_none (by simp; omega), List.getElem?_eq_none (by simp; omega)]
    rfl
theorem fn_x {P : Program} {w : World} {K : PySem.W.Frag} {mg : Str → Option Value} {base : Heap} {CX : CXT} {x qual : Str} {params : Arguments} {body : List Stmt} {scope : Scope} {f : Addr} {fd : FuncData} {N ps : List Str} {C : Addr} {names : List Str} (F : FunD K x qual params body scope [] [] f fd) (S : FnScope N ps scope)
    (hb : XBody N scope body (ixs names)) (T : OexC K C) (hno : ∀ n ∈ names, PySem.W.findIn K (.ref C) n = some none) (hps : ps.length = names.length + 1) (h1 : 1 ≤ names.length) (h2 : names.length ≤ 100) : FnOk P w K mg base CX 1 f fd ps (spX C names) := by
  refine F.ok S (fun vs H Q E h => ?_) (fun cdv A outer s H vs Q E hr h => ?_)
  · obtain ⟨a, ws, rfl, hl, _⟩ := h
    rw [hps, List.length_cons, hl]
  · obtain ⟨a, ws, rfl, hl, ha, fin⟩ := h
    obtain ⟨q0, l, el⟩ : ∃ q0 l, ixs names = q0 :: l := by
      cases e : ixs names with
      | nil =>
        have : (ixs names).length = names.length := by simp [ixs]
        rw [e] at this
        simp at this; omega
      | cons q l => exact ⟨q, l, rfl⟩
    rw [el] at hb
    refine ⟨_, xb_one hb rfl rfl, a, C, fun i => (ws[i - 1]?).getD .non, ?_, T, fun q hq => ?_, ha, ?_, fun dx Hn hd ne hf => fin dx Hn hd ne ?_⟩
    · simp [L2.start]
    · rw [← el] at hq
      unfold ixs at hq
      obtain ⟨i, hi⟩ := List.getElem?_of_mem hq
      have hlt : i < names.length := by
        have := (List.getElem?_eq_some_iff.mp hi).1
        simp at this; omega
      have e1 : (names.zip (List.range' 1 names.length))[i]? = some (names[i], 1 + i) := by
        rw [List.getElem?_eq_getElem (by simp [hlt])]
        simp
      rw [e1] at hi
      cases hi
      refine ⟨hno _ (List.getElem_mem hlt), ?_⟩
      unfold L2.start
      rw [List.getElem?_append_left (by simp; omega)]
      show (List.map some (V.ref a :: ws))[1 + i]? = some (some ((ws[1 + i - 1]?).getD .non))
      have e3 : 1 + i - 1 = i := by omega
      have hw : i < ws.length := by omega
      have e4 : 1 + i = i + 1 := by omega
      rw [e3, e4, List.map_cons, List.getElem?_cons_succ, List.getElem?_map, List.getElem?_eq_getElem hw]
      rfl
    · rw [← el]
      simp [ixs]; omega
    · rw [← el, ixs_map hl] at hf
      exact hf
/-! ### raise C(..) -/
/-- an exception's maker that may be called here -/
def XFn (g : G) (C fI : Addr) (names : List Str) : Prop := ∃ fd ps k, FnOk g.P g.w g.K g.mg g.base (L2.CX g.P g.w) k fI fd ps (spX C names) ∧ k + 1 ≤ g.k ∧ Binds g.K fd ps []
section
variable {g : G} {fI : Addr} {x : Str} {p pos pos' : Pos} {e : Expr} {es : List Expr} {Ts : EVs}
@[simp] noncomputable def sRaise (c : String) (names : List String) (Ts : EVs) : SV := fun σ S => match Ts σ S with
  | .ok vs S1 => match toDs vs S1 with
    | some (ds, S2) => if ds.length = names.length then .exc c (some (names.zip ds)) σ S2 else .bad
    | none => .bad
  | .exc c fs S1 => .exc c fs σ S1
  | .bad => .bad
theorem zip_look {K : PySem.W.Frag} {wd : Wd} : ∀ {names : List String} {ds : List D} {vs : List V} {f : String} {x : D}, RDs K wd ds vs → (names.zip ds).lookup f = some x → ∃ v, ((names.map enc).zip vs).lookup (enc f) = some v ∧ RD K wd x v
  | [], _, _, f, x, r, h => by simp at h
  | n :: names, [], _, f, x, r, h => by simp at h
  | n :: names, d :: ds, vs, f, x, r, h => by
    simp only [RDs] at r
    obtain ⟨v, vr, rfl, r1, r2⟩ := r
    simp only [List.zip_cons_cons, List.lookup_cons, List.map_cons, enc_beq] at h ⊢
    cases hb : (f == n) with
    | true => rw [hb] at h; cases h; exact ⟨v, rfl, r1⟩
    | false => rw [hb] at h; exact zip_look r2 h
theorem look_rev {α : Type} [BEq α] [LawfulBEq α] {β : Type} (f : α) : ∀ l : List (α × β), (l.map (·.1)).Nodup → l.reverse.lookup f = l.lookup f := by
  intro l nd
  have key : ∀ (a b : List (α × β)), (a ++ b).lookup f = (a.lookup f).or (b.lookup f) := by
    intro a b
    induction a with
    | nil => rfl
    | cons q r ih =>
      obtain ⟨q1, q2⟩ := q
      simp only [List.cons_append, List.lookup_cons]
      cases f == q1 with
      | true => rfl
      | false => exact ih
  induction l with
  | nil => rfl
  | cons q r ih =>
    obtain ⟨q1, q2⟩ := q
    obtain ⟨n1, n2⟩ := List.nodup_cons.mp (show (q1 :: r.map (·.1)).Nodup from nd)
    rw [List.reverse_cons, key, ih n2]
    simp only [List.lookup_cons, List.lookup_nil]
    cases hb : (f == q1) with
    | false => simp
    | true =>
      have e : f = q1 := by simpa using hb
      have : r.lookup f = none := by
        rw [List.lookup_eq_none_iff]
        intro z hz
        simp only [bne_iff_ne, ne_eq]
        intro e2
        refine n1 ?_
        rw [← e, e2]
        exact List.mem_map_of_mem hz
      rw [this]; rfl
theorem js_raise (c : String) (names : List String) (T : OexC g.K (g.cls c)) (iC : PySem.W.findIn g.K (.ref (g.cls c)) "__init__" = some (some (.ref fI))) (tI : PySem.W.typeIn g.K (.ref fI) = some (.type "function")) (F : XFn g (g.cls c) fI (names.map enc)) (hg : GlS g x) (hm : g.mg x = some (.ref (g.cls c))) (ha : JA g (e :: es) Ts) (nd : names.Nodup := by decide)
    (hdb : (x == ("__debug__" : Str)) = false := by decide) (h1 : ∀ env, starEach (e :: es) env = (false, eval e env) :: starEach es env := by intro _; rfl) (h2 : ∀ env, (backTo pos (starEach es env)).any (·.1) = false := by intro _; rfl) (few : names.length ≤ 900 := by decide) : JS g (.Raise (some (.Call (.Name x p) (e :: es) [] pos)) none pos') (sRaise c names Ts) := fun X hX W tk => by
  obtain ⟨fd, ps, k, hF, hk, hb⟩ := F
  have hx : Passes (L2.CX g.P g.w) X (fun _ _ _ => False) := fun _ _ _ _ _ _ _ c => by
    obtain ⟨_, _, _, _, _, _, _, _, _, _, _, _, z⟩ := c
    exact z.elim
  refine (ps_raise hX.calm tk (pmk_oex (C := g.cls c) (by rw [hX.K]; exact T) (by rw [hX.K]; exact iC) (by rw [hX.K]; exact tI) (FnOk.to hX.toGood hF) (hX.room.mono hk) (by rw [hX.K]; exact hb) .nil hx (gl_of hX.toGood hg) (by rw [hX.mg]; exact hm) (ha X hX.toGood W tk) hdb (h1 X.env) (h2 X.env))).imp fun E σ H h => ?_
  obtain ⟨wd, σ', S, hs, hh, h⟩ := h
  refine ⟨wd, σ', S, hs, hh, ?_⟩
  unfold sRaise at h
  revert h
  cases Ts σ' S with
  | exc c fs S1 => exact fun h wd1 H1 cv d l hr hx => h wd1 σ H1 cv d l (hs.mono l) hr hx
  | bad => exact fun h => h
  | ok vs S1 =>
    intro h wd1 xs H1 l hr1 rv
    dsimp only at h
    split at h
    · rename_i ds S2 ed
      split at h
      · rename_i hl
        obtain ⟨wd2, l2, hr2, rd⟩ := RWs.toDs (wd := wd1) hr1 rv ed
        have lx : xs.length = names.length := by rw [← rd.length]; exact hl
        refine ⟨by rw [lx]; omega, fun a na => ⟨a, xs, by simp, by rw [lx]; simp, upd_same, fun dx Hn hd ne hf => ⟨rfl, dx, _, hf.at_, hf.dict, ?_, ?_⟩⟩⟩
        · rw [upd_ne ne] at hd; exact hd
        · rw [upd_ne ne] at hd
          have eH : upd (del Hn a) dx (.xd (((names.map enc).zip xs).reverse)) = upd H1 dx (.xd (((names.map enc).zip xs).reverse)) := by
            funext b
            by_cases b1 : b = dx
            · subst b1; rw [upd_same, upd_same]
            · rw [upd_ne b1, upd_ne b1]
              by_cases b2 : b = a
              · subst b2; rw [del_same, na]
              · rw [del_ne b2, hf.other b b2 b1, upd_ne b2]
          rw [eH]
          refine h wd2 σ _ _ _ (l.trans l2) (hs.mono (l.trans l2)) (hr2.lay hd) ⟨rfl, dx, _, rfl, upd_same, fun f y q => ?_⟩
          rw [look_rev]
          · exact zip_look rd q
          · rw [List.map_fst_zip (by rw [List.length_map, lx]; exact Nat.le_refl _)]
            exact nd.map enc (fun a b z w => z (enc_inj w))
      · exact h.elim
    · exact h.elim
end
end Ev

set_option Elab.async false
set_option linter.all false
set_option maxRecDepth 100000
set_option maxHeartbeats 1000000
/-! Ev19: try, except C as e; what the clause does. -/
namespace Ev
open PySem PySem.Spec PyProof.Rows L2
open Classical
abbrev XFs := Option (List (String × D))
theorem _root_.L2.PE.len {X : Cx} {e : Expr} {t t' : TE} (h : PE X e t) (i : ∀ σ H Q, σ.length = X.N.length → t' σ H Q → t σ H Q) : PE X e t' := ⟨fun pins s σ H Q I q => h.run pins s σ H Q I (i σ H Q I.len q)⟩
/-- a value that a clause reads: no heap changes -/
abbrev PV := String → XFs → Sl → Option D
abbrev PVs := String → XFs → Sl → Option (List D)
/-- the state of a clause: slot i holds the exception at a -/
structure InX (g : G) (i : Nat) (a : Addr) (cls : Value) (d : Option Addr) (wd : Wd) (σ' : Sl) (S : Sta) (c : String) (fs : XFs) (σ : L2.St) (H : Hp) : Prop where
  sr : SR g.K wd σ' σ
  at_ : i < σ.length → σ[i]? = some (some (.ref a))
  hr : HR g.K g.cls wd S H
  xr : XR g.K g.cls wd H c fs cls d
def JP (g : G) (i : Nat) (e : Expr) (T : PV) : Prop := ∀ X, GoodS g X → ∀ (a : Addr) (oe : Obj) (cls : Value) (d : Option Addr) (pn : List (Addr × Obj)), Zc cls d oe → (∃ vs, oe.data = .fields vs) →
  PE (X.suite a ((a, oe) :: pn)) e fun σ H Q => ∃ wd σ' S c fs x, InX g i a cls d wd σ' S c fs σ H ∧ T c fs σ' = some x ∧ ∀ v, RD g.K wd x v → Q v H
def JPs (g : G) (i : Nat) (es : List Expr) (T : PVs) : Prop := ∀ X, GoodS g X → ∀ (a : Addr) (oe : Obj) (cls : Value) (d : Option Addr) (pn : List (Addr × Obj)), Zc cls d oe → (∃ vs, oe.data = .fields vs) →
  PA (X.suite a ((a, oe) :: pn)) es fun σ H Q => ∃ wd σ' S c fs x, InX g i a cls d wd σ' S c fs σ H ∧ T c fs σ' = some x ∧ ∀ v, RDs g.K wd x v → Q v H
/-- a clause's suite -/
abbrev XV := String → XFs → SV
def JH (g : G) (i : Nat) (suite : List Stmt) (T : XV) : Prop := ∀ X, GoodS g X → ∀ (a : Addr) (oe : Obj) (cls : Value) (d : Option Addr) (pn : List (Addr × Obj)), Zc cls d oe → (∃ vs, oe.data = .fields vs) →
  PSs (X.suite a ((a, oe) :: pn)) suite fun D σ H => ∃ wd σ' S c fs, InX g i a cls d wd σ' S c fs σ H ∧ OkS g.K g.cls (fun _ _ _ _ => False) wd D (T c fs σ' S)
section
variable {g : G} {i : Nat} {e : Expr} {es : List Expr} {T : PV} {Ts : PVs} {pos p : Pos}
@[simp] def pC (x : D) : PV := fun _ _ _ => some x
theorem jp_c {x : D} {v : V} (hp : ∀ X : Cx, PE X e (tC v)) (r : ∀ wd, RD g.K wd x v) : JP g i e (pC x) := fun X hX a oe cls d pn hz hf => (hp _).imp fun σ H Q h => by
  obtain ⟨wd, σ', S, c, fs, y, q, ey, h⟩ := h
  cases ey
  exact h v (r wd)
theorem jp_int {n j} : JP g i (.Constant (.int n) j pos) (pC (.int n)) := jp_c (fun _ => pe_int) fun _ => by simp [RD]
theorem jp_bl {b j} : JP g i (.Constant (.bool b) j pos) (pC (.bl b)) := jp_c (fun _ => pe_bl) fun _ => by simp [RD]
theorem jp_non {j} : JP g i (.Constant .none j pos) (pC .non) := jp_c (fun _ => pe_non) fun _ => by simp [RD]
theorem jp_str {x j} (h : PyData.strOk x = true := by decide +kernel) : JP g i (.Constant (.str x) j pos) (pC (.str x)) := jp_c (fun _ => pe_str) fun _ => by simp [RD, h]
@[simp] def pVar (k : Nat) : PV := fun _ _ σ => match σ[k]? with
  | some (some (.d x)) => some x
  | _ => none
theorem jp_var (k : Nat) {x : Str} (hN : g.N[k]? = some x := by rfl) (hv : Vis g.sc x := by first | exact Or.inl rfl | exact Or.inr (Or.inl rfl) | exact Or.inr (Or.inr rfl)) (hd : (x == ("__debug__" : Str)) = false := by decide) (hcd : (x == ("__classdict__" : Str)) = false := by decide) : JP g i (.Name x pos) (pVar k) := fun X hX a oe cls d pn hz hf =>
  (pe_var (X := X.suite a ((a, oe) :: pn)) (i := k) (by show X.N[k]? = _; rw [hX.N]; exact hN) (by show Vis X.env.scope x; rw [hX.sc]; exact hv) hd hcd).imp fun σ H Q h => by
  obtain ⟨wd, σ', S, c, fs, y, q, ey, h⟩ := h
  unfold pVar at ey
  split at ey
  · rename_i z ez
    cases ey
    obtain ⟨v, ev, r⟩ := q.sr k _ ez
    exact ⟨v, ev, h v r⟩
  · cases ey
/-- e.f -/
@[simp] def pXf (cn f : String) : PV := fun c fs _ => if c = cn then fs.bind (·.lookup f) else none
theorem jp_xf (cn f : String) {x F : Str} {np : Pos} (T : XfC g.K (g.cls cn)) (hno : PySem.W.findIn g.K (.ref (g.cls cn)) F = some none) (ef : F = enc f := by decide +kernel) (hN : g.N[i]? = some x := by rfl) (hv : Vis g.sc x := by first | exact Or.inl rfl | exact Or.inr (Or.inl rfl) | exact Or.inr (Or.inr rfl)) (hd : (x == ("__debug__" : Str)) = false := by decide) (hcd : (x == ("__classdict__" : Str)) = false := by decide)
    (hb : ∀ env, attributeBase (.Name x np) F env (eval (.Name x np) env) = eval (.Name x np) env := by intro _; rfl) : JP g i (.Attribute (.Name x np) F pos) (pXf cn f) := fun X hX a oe cls d pn hz hf =>
  (pe_xf (X := X) (C := g.cls cn) (by rw [hX.K]; exact T) (by rw [hX.K]; exact hno) hz hf (pe_var (X := X.suite a ((a, oe) :: pn)) (i := i) (by show X.N[i]? = _; rw [hX.N]; exact hN) (by show Vis X.env.scope x; rw [hX.sc]; exact hv) hd hcd) (hb X.env)).len fun σ H Q hlen h => by
  obtain ⟨wd, σ', S, c, fs, y, q, ey, h⟩ := h
  have hi : i < σ.length := by
    rw [hlen]
    show i < X.N.length
    rw [hX.N]; exact (List.getElem?_eq_some_iff.mp hN).1
  unfold pXf at ey
  split at ey
  · rename_i ec
    subst ec
    obtain ⟨e1, e2⟩ := q.xr
    cases fs with
    | none => cases ey
    | some fs =>
      obtain ⟨dd, vfs, rfl, e3, e4⟩ := e2
      obtain ⟨v, e5, e6⟩ := e4 f y ey
      subst ef
      exact ⟨.ref a, q.at_ hi, rfl, e1, dd, vfs, v, rfl, e3, e5, h v e6⟩
  · cases ey
@[simp] def pNil : PVs := fun _ _ _ => some []
@[simp] def pCons (T : PV) (Ts : PVs) : PVs := fun c fs σ => match T c fs σ, Ts c fs σ with
  | some x, some r => some (x :: r)
  | _, _ => none
theorem jps_nil : JPs g i [] pNil := fun X hX a oe cls d pn hz hf => (pa_nil (X := X.suite a ((a, oe) :: pn))).imp fun σ H Q h => by
  obtain ⟨wd, σ', S, c, fs, y, q, ey, h⟩ := h
  cases ey
  exact h [] (by simp [RDs])
theorem jps_cons (h1 : JP g i e T) (h2 : JPs g i es Ts) (hs : ∀ env, starEach (e :: es) env = (false, eval e env) :: starEach es env := by intro _; rfl) : JPs g i (e :: es) (pCons T Ts) := fun X hX a oe cls d pn hz hf => (pa_cons (h1 X hX a oe cls d pn hz hf) (h2 X hX a oe cls d pn hz hf) (hs X.env)).imp fun σ H Q h => by
  obtain ⟨wd, σ', S, c, fs, y, q, ey, h⟩ := h
  unfold pCons at ey
  split at ey
  · rename_i z r ez er
    cases ey
    exact ⟨wd, σ', S, c, fs, z, q, ez, fun v rv => ⟨wd, σ', S, c, fs, r, q, er, fun vs rs => h _ (by simp only [RDs]; exact ⟨v, vs, rfl, rv, rs⟩)⟩⟩
  · cases ey
/-! ### suites -/
/-- k = e -/
@[simp] noncomputable def hSet (k : Nat) (T : PV) : XV := fun c fs σ S => match T c fs σ with
  | some x => .nxt (σ.set k (some (.d x))) S
  | none => .bad
theorem jh_set (k : Nat) {x : Str} (h : JP g i e T) (hN : g.N[k]? = some x := by rfl) (hl : Loc g.sc x := by first | exact Or.inl rfl | exact Or.inr rfl) (hs : ∀ env, env.scope = g.sc → swapsWith e (some (.Name x p)) pos.line env = pure false := by intro _ _; rfl)
    (hf : g.sc.names.lookup x = some .local := by rfl) : JH g i [.Assign [.Name x p] e pos] (hSet k T) := fun X hX a oe cls d pn hz hfd =>
  pss_one ((ps_set (X := X.suite a ((a, oe) :: pn)) (i := k) (by show X.N.Nodup; rw [hX.N]; exact hX.nd) (by show X.N[k]? = _; rw [hX.N]; exact hN) (by show Loc X.env.scope x; rw [hX.sc]; exact hl) (h X hX a oe cls d pn hz hfd) (hs X.env hX.sc) (.inr (by show X.env.scope.names.lookup x = _; rw [hX.sc]; exact hf))).len fun E σ H hlen q => by
  obtain ⟨wd, σ', S, c, fs, qx, ok⟩ := q
  unfold hSet at ok
  split at ok
  · rename_i y ey
    refine ⟨wd, σ', S, c, fs, y, qx, ey, fun v rv => ok wd _ H (.refl _) (qx.sr.put k (v := .d y) rv ?_) qx.hr⟩
    rw [hlen]
    show k < X.N.length
    rw [hX.N]; exact (List.getElem?_eq_some_iff.mp hN).1
  · exact ok.elim)
/-- k = [..] -/
@[simp] noncomputable def hSetL (k : Nat) (T : PVs) : XV := fun c fs σ S => match T c fs σ with
  | some x => if x.length ≤ sizeLine then .nxt (σ.set k (some (.d (.lst x)))) S else .bad
  | none => .bad
theorem jh_setL (k : Nat) {x : Str} {lp : Pos} (h : JPs g i es Ts) (hN : g.N[k]? = some x := by rfl) (hl : Loc g.sc x := by first | exact Or.inl rfl | exact Or.inr rfl) (hs : ∀ env, env.scope = g.sc → swapsWith (.List es lp) (some (.Name x p)) pos.line env = pure false := by intro _ _; rfl)
    (hf : g.sc.names.lookup x = some .local := by rfl) : JH g i [.Assign [.Name x p] (.List es lp) pos] (hSetL k Ts) := fun X hX a oe cls d pn hz hfd =>
  pss_one ((ps_set (X := X.suite a ((a, oe) :: pn)) (i := k) (by show X.N.Nodup; rw [hX.N]; exact hX.nd) (by show X.N[k]? = _; rw [hX.N]; exact hN) (by show Loc X.env.scope x; rw [hX.sc]; exact hl) (pe_lst (h X hX a oe cls d pn hz hfd)) (hs X.env hX.sc) (.inr (by show X.env.scope.names.lookup x = _; rw [hX.sc]; exact hf))).len fun E σ H hlen q => by
  obtain ⟨wd, σ', S, c, fs, qx, ok⟩ := q
  unfold hSetL at ok
  split at ok
  · rename_i y ey
    split at ok
    · rename_i hz2
      refine ⟨wd, σ', S, c, fs, y, qx, ey, fun vs rv => ⟨by rw [← rv.length]; exact hz2, fun q hq => ?_⟩⟩
      obtain ⟨h1, r1⟩ := qx.hr.newLst hq rv
      obtain ⟨wd2, l2, h2, r2⟩ := RV.frz h1 r1
      refine ok wd2 _ _ l2 ((qx.sr.mono l2).put k (v := .d (.lst y)) r2 ?_) h2
      rw [hlen]
      show k < X.N.length
      rw [hX.N]; exact (List.getElem?_eq_some_iff.mp hN).1
    · exact ok.elim
  · exact ok.elim)
@[simp] noncomputable def hRet (T : PV) : XV := fun c fs σ S => match T c fs σ with
  | some x => .ret (.d x) S
  | none => .bad
theorem jh_ret (h : JP g i e T) : JH g i [.Return (some e) pos] (hRet T) := fun X hX a oe cls d pn hz hfd =>
  pss_one ((ps_ret (X := X.suite a ((a, oe) :: pn)) (h X hX a oe cls d pn hz hfd)).imp fun E σ H q => by
  obtain ⟨wd, σ', S, c, fs, qx, ok⟩ := q
  unfold hRet at ok
  split at ok
  · rename_i y ey
    exact ⟨wd, σ', S, c, fs, y, qx, ey, fun v rv => ok wd v H (.refl _) qx.hr rv⟩
  · exact ok.elim)
/-! ### try -/
@[simp] noncomputable def sTry (B : SV) (test : String → Option Bool) (i : Nat) (T : XV) : SV := fun σ S => match B σ S with
  | .exc c fs σ1 S1 => match test c with
    | some true => match T c fs (σ1.set i none) S1 with
      | .nxt σ2 S2 => .nxt (σ2.set i none) S2
      | .brk σ2 S2 => .brk (σ2.set i none) S2
      | .cnt σ2 S2 => .cnt (σ2.set i none) S2
      | .ret v S2 => .ret v S2
      | .exc _ _ _ _ => .bad
      | .bad => .bad
    | some false => .exc c fs σ1 S1
    | none => .bad
  | o => o
theorem SR.clear {K wd σ' σ} (h : SR K wd σ' σ) (i : Nat) (z : Option V) : SR K wd (σ'.set i none) (σ.set i z) := fun j w e => by
  by_cases hj : j = i
  · subst hj
    have hlt : j < σ'.length := by
      have := (List.getElem?_eq_some_iff.mp e).1
      simpa using this
    rw [List.getElem?_set_self hlt] at e
    cases e
  · rw [List.getElem?_set_ne (Ne.symm hj)] at e
    obtain ⟨y, e1, r1⟩ := h j w e
    exact ⟨y, by rw [List.getElem?_set_ne (Ne.symm hj)]; exact e1, r1⟩
theorem js_try (i : Nat) (cn : String) {cx n : Str} {np pos' : Pos} {body suite : List Stmt} {b0 : Stmt} {B : SV} {T : XV} {test : String → Option Bool} (hb : JSs g body B) (hh : JH g i (b0 :: suite) T) (ht : ∀ c b, test c = some b → PySem.W.exmOne g.K (.ref (g.cls c)) (.ref (g.cls cn)) = some b)
    (hg : GlS g cx) (hm : g.mg cx = some (.ref (g.cls cn))) (hN : g.N[i]? = some n := by rfl) (hln : g.sc.names.lookup n = some .local := by rfl) (hd : (cx == ("__debug__" : Str)) = false := by decide) :
    JS g (.Try body [.ExceptHandler (some (.Name cx np)) (some n) (b0 :: suite) pos'] [] [] pos) (sTry B test i T) := fun X hX W tk => by
  have hNX : X.N[i]? = some n := by rw [hX.N]; exact hN
  have hkX : X.env.kindOf n = some .local := by show X.env.scope.names.lookup n = _; rw [hX.sc]; exact hln
  have main := ps_try_as (X := X) (i := i) (tb := fun W => LS g.K g.cls W B) (ts := fun a cls d => fun D σ H => ∃ wd σ' S c fs, InX g i a cls d wd σ' S c fs σ H ∧ OkS g.K g.cls (fun _ _ _ _ => False) wd D (T c fs σ' S)) (Wout := W) (pos := pos) (pos' := pos') hX.stk hX.frm (by rw [hX.N]; exact hX.nd) hNX hkX
    (x := cx) (np := np) (c := .ref (g.cls cn)) ⟨gl_of hX.toGood hg, hd, .inl (by rw [hX.mg]; exact hm)⟩ tk (fun W2 pn xe tk2 po => hb (X.tr pn xe) ⟨⟨hX.P, hX.w, hX.K, hX.mg, hX.base, hX.N, hX.sc, hX.nd, hX.calm, hX.room, hX.fn⟩, hX.stk, hX.frm, hX.kind_, po⟩ W2 tk2) (fun a oe cls d pn hz hf => hh X hX a oe cls d pn hz hf)
  refine PS.len main fun E σ H hlen h => ?_
  obtain ⟨wd, σ', S, hs, hr, ok⟩ := h
  refine ⟨wd, σ', S, hs, hr, ?_⟩
  unfold sTry at ok
  revert ok
  cases B σ' S with
  | nxt σ1 S1 => exact fun ok => ok
  | ret v S1 => exact fun ok => ok
  | brk σ1 S1 => exact fun ok => ok
  | cnt σ1 S1 => exact fun ok => ok
  | bad => exact fun ok => ok
  | exc c fs σ1 S1 =>
    intro ok wd1 σ2 H1 cv d l1 hs1 hr1 hx1
    dsimp only at ok
    split at ok
    · rename_i et
      refine ⟨true, ?_, fun _ a na => ?_, fun z => by cases z⟩
      · rw [hX.K, hx1.1]; exact ht c true et
      · refine ⟨wd1, σ1.set i none, S1, c, fs, ⟨hs1.clear i _, fun hi => by rw [List.getElem?_set_self (by simpa using hi)], hr1, hx1⟩, ?_⟩
        have ok1 := OkS.mono l1 ok
        revert ok1
        cases T c fs (σ1.set i none) S1 with
        | nxt σ3 S3 => exact fun ok wd4 σ4 H4 l4 hs4 hr4 => ok wd4 _ H4 l4 (hs4.clear i none) hr4
        | brk σ3 S3 => exact fun ok wd4 σ4 H4 l4 hs4 hr4 => ok wd4 _ H4 l4 (hs4.clear i none) hr4
        | cnt σ3 S3 => exact fun ok wd4 σ4 H4 l4 hs4 hr4 => ok wd4 _ H4 l4 (hs4.clear i none) hr4
        | ret v S3 => exact fun ok => ok
        | bad => exact fun ok => ok.elim
        | exc c2 fs2 σ3 S3 => exact fun ok => ok.elim
    · rename_i et
      refine ⟨false, ?_, (fun z => by cases z), fun _ => ok wd1 σ2 H1 cv d l1 hs1 hr1 hx1⟩
      rw [hX.K, hx1.1]; exact ht c false et
    · exact ok.elim
end
end Ev

set_option Elab.async false
set_option linter.all false
set_option maxRecDepth 100000
set_option maxHeartbeats 1000000
/-! Ev20: facts of exception classes from the head. -/
namespace Ev
open PySem PySem.Spec PyProof.Rows L2
open Classical
/-! ### from the facts -/
section
variable {fa : List He.Fa} {fn : List He.DefD} {g : G} {x m f : Str} {c : String} {xs : List Str}
theorem EnvE.xcl (E : EnvE fa fn xs g) (c : String) (h : enc c ∈ xs) : OexC g.K (g.cls c) ∧ XfC g.K (g.cls c) := by
  rw [E.cad]
  have := List.all_eq_true.mp E.hx _ h
  unfold xB at this
  rw [Bool.and_eq_true] at this
  exact ⟨oexB_ok this.1, xfB_ok this.2⟩
theorem EnvE.exm (E : EnvE fa fn xs g) (i : Nat) (c d : String) {b : Bool} (h : fa[i]? = some (.exm (enc c) (enc d) b) := by rfl) : PySem.W.exmOne g.K (.ref (g.cls c)) (.ref (g.cls d)) = some b := by
  rw [E.cad, E.cad]
  have := E.c.fact i h
  exact of_decide_eq_true this
/-- a maker of errors by its place -/
theorem xfn_at {d : He.DefD} {N ps : List Str} {names : List Str} (E : EnvE fa fn xs g) (c : String) (i : Nat) (hd : fn[i]? = some d) (h0 : d.dfl = []) (hk0 : d.kwd = []) (S : FnScope N ps d.scope) (hb : XBody N d.scope d.body (ixs names)) (T : OexC g.K (g.cls c)) (hno : ∀ n ∈ names, PySem.W.findIn g.K (.ref (g.cls c)) n = some none)
    (bind : ∀ (kV doc pm : Value) (an : Option Addr) (cdv ct : Value) (us : List Value), us.length = ps.length → bindArgs (PySem.W.fnOf d.name d.qual d.params d.body d.scope .none kV doc pm an cdv ct) ⟨us, []⟩ = pure (ps.zip us)) (hk : 2 ≤ g.k) (hps : ps.length = names.length + 1 := by rfl) (h1 : 1 ≤ names.length := by decide) (h2 : names.length ≤ 100 := by decide) :
    XFn g (g.cls c) (He.fAd g.K d.at_) names := by
  obtain ⟨fd, F⟩ := E.c.def_ i hd
  have e1 : d.dvs g.K = [] := by unfold He.DefD.dvs; rw [h0]; rfl
  have e2 : d.kws g.K = [] := by unfold He.DefD.kws; rw [hk0]; rfl
  rw [e1, e2] at F
  exact ⟨fd, ps, 1, fn_x F S hb T hno hps h1 h2, hk, F.bindsN bind⟩
end
end Ev

set_option Elab.async false
set_option linter.all false
set_option maxRecDepth 100000
set_option maxHeartbeats 1000000
/-! Ev21: {}; word.upper(). -/
namespace Ev
open PySem PySem.Spec PyProof.Rows L2
open Classical
section
variable {K : PySem.W.Frag} {cls : String → Addr}
/-- a new dict -/
theorem HR.pushDic {wd : Wd} {S : Sta} {H : Hp} (h : HR K cls wd S H) {x : Addr} (nx : H x = none) : wd.Le { wd with ob := wd.ob ++ [x] } ∧ HR K cls { wd with ob := wd.ob ++ [x] } { S with P := S.P ++ [.dic []] } (upd H x (.dK [])) := by
  have le : wd.Le { wd with ob := wd.ob ++ [x] } := ⟨fun _ _ q => q, List.prefix_refl _, List.prefix_append _ _, rfl⟩
  have h2 : HR K cls wd S (upd H x (.dK [])) := h.lay nx
  refine ⟨le, h2.fz, h2.bn, fun i m q => ?_, fun i m q => ?_, h2.bnd, by simp [h2.on], ?_, fun i o q => ?_, h2.an, h2.annd, h2.nfz⟩
  · obtain ⟨b, us, e1, e2, e3, rr⟩ := h2.live i m q
    exact ⟨b, us, e1, e2, e3, RDs.mono _ le _ _ rr⟩
  · obtain ⟨b, us, e1, e2, rr⟩ := h2.froz i m q
    exact ⟨b, us, e1, e2, RDs.mono _ le _ _ rr⟩
  · refine List.nodup_append.mpr ⟨h2.ond, by simp, fun y hy z hz w => ?_⟩
    have hz' : z = x := by simpa using hz
    subst hz'; subst w
    exact h.ob_none nx hy
  · by_cases hi : i < S.P.length
    · dsimp only at q
      rw [List.getElem?_append_left hi] at q
      obtain ⟨b, e1, r1⟩ := h2.ob i o q
      exact ⟨b, pre_get le.ob e1, r1.mono le⟩
    · have hi' : i = S.P.length := by
        have := (List.getElem?_eq_some_iff.mp q).1
        simp at this; omega
      subst hi'
      have q' : Ob.dic [] = o := by simpa using q
      subst q'
      exact ⟨x, by rw [h.on]; simp, [], upd_same, rfl⟩
end
section
variable {g : G} {pos : Pos} {o : Expr} {To : EV}
@[simp] def eDic0 : EV := fun _ S => .ok (.d (.obj S.P.length)) { S with P := S.P ++ [.dic []] }
theorem je_dic0 : JE g (.Dict [] [] pos) eDic0 := fun X hX W tk => (pe_dnewK (X := X)).imp fun σ H Q h => by
  obtain ⟨wd, σ', S, hs, hh, h⟩ := h
  intro p hp
  obtain ⟨le, h2⟩ := hh.pushDic hp
  refine h _ (.ref p) _ le h2 ?_
  simp only [RV, RD]
  exact ⟨p, rfl, by rw [hh.on]; simp⟩
noncomputable def upperF (v : Vl) (S : Sta) : Out Vl := match v with
  | .d (.str a) => if a.length ≤ 5592405 ∧ PyData.strOk (Txt.upper a) = true then .ok (.d (.str (Txt.upper a))) S else .bad
  | _ => .bad
@[simp] noncomputable def eUp (To : EV) : EV := fun σ S => (To σ S).bind fun v S1 => upperF v S1
theorem je_upper {apos : Pos} (ho : JE g o To) (hb : ∀ env, attributeBase o "upper" env (eval o env) = eval o env := by intro _; rfl) (hl : (apos.endLine == pos.line) = true := by rfl) : JE g (.Call (.Attribute o "upper" apos) [] [] pos) (eUp To) := fun X hX W tk =>
  (pe_upper (ho X hX W tk) (hb X.env) hl).imp fun σ H Q h => by
  obtain ⟨wd, σ', S, hs, hh, h⟩ := h
  refine ⟨wd, σ', S, hs, hh, ?_⟩
  unfold eUp at h
  revert h
  cases To σ' S with
  | exc c fs S1 => exact fun h => h
  | bad => exact fun h => h
  | ok v S1 =>
    intro h wd1 x H1 l hr rv
    dsimp only [Out.bind] at h
    unfold upperF at h
    split at h
    · rename_i a
      split at h
      · rename_i hz
        have rx := rd_str (K := g.K) (wd := wd1) (i := a) (x := x) rv
        exact ⟨⟨a, rx.1⟩, a, rx.1, rfl, hz.1, h wd1 _ H1 l hr (rv_str hz.2)⟩
      · exact h.elim
    · exact h.elim
end
end Ev

set_option Elab.async false
set_option linter.all false
set_option maxRecDepth 100000
set_option maxHeartbeats 0
namespace Wk
open PySem PySem.Spec PyProof.Rows L2 Ev
def test_NoSchema : String → Option Bool := fun c => if c = "NoSchema" then some true else none
noncomputable def t__law_begin : SV := sSeq (sIf (tOf (eBin geF (eVar 0) (eBin powF (eC (.int 10)) (eC (.int 18))))) (sRet (eLst (aCons (eBin subF (eVar 0) (eBin powF (eC (.int 10)) (eC (.int 18)))) (aCons (eVar 0) (aCons (eC (.int 0)) (aNil)))))) (sNext)) (sRet (eLst (aCons (eUn negF (eC (.int 1))) (aCons (eVar 0) (aCons (eC (.int 0)) (aNil))))))
noncomputable def F__law_begin : FV := mkFn 1 0 t__law_begin
noncomputable def t__law_at : SV := sSeq (sIf (tOf (eBin ltF (eVar 1) (eCall lenF (aCons (eVar 0) (aNil))))) (sRet (eBin ixF (eVar 0) (eVar 1))) (sNext)) (sRet (eC (.int 0)))
noncomputable def F__law_at : FV := mkFn 2 0 t__law_at
noncomputable def t__law_take : SV := sSeq (sIf (tOf (eBin geF (eBin ixF (eVar 0) (eC (.int 0))) (eC (.int 0)))) (sSeq (sSet 2 (eBin modF (eCall intF (aCons (eBin ixF (eVar 0) (eC (.int 0))) (aNil))) (eVar 1))) (sSeq (sSub (eVar 0) (eC (.int 0)) (eBin divF (eBin ixF (eVar 0) (eC (.int 0))) (eVar 1))) (sRet (eVar 2)))) (sNext)) (sSeq (sSet 3 (eBin ixF (eVar 0) (eC (.int 2)))) (sSeq (sSub (eVar 0) (eC (.int 2)) (eBin addF (eVar 3) (eC (.int 1)))) (sSeq (sSet 4 (eBin mulF (eBin addF (eBin addF (eBin addF (eBin modF (eCall intF (aCons (eBin ixF (eVar 0) (eC (.int 1))) (aNil))) (eC (.int 2305843009213693951))) (eBin mulF (eVar 3) (eVar 3))) (eVar 3)) (eC (.int 1))) (eBin addF (eBin mulF (eC (.int 2)) (eVar 3)) (eC (.int 3))))) (sSeq (sSet 4 (eBin modF (eCall intF (aCons (eVar 4) (aNil))) (eC (.int 2305843009213693951)))) (sSeq (sSet 4 (eBin modF (eCall intF (aCons (eBin addF (eBin mulF (eVar 4) (eVar 4)) (eBin mulF (eC (.int 40692)) (eVar 3))) (aNil))) (eC (.int 2305843009213693921)))) (sRet (eBin modF (eCall intF (aCons (eBin divF (eBin mulF (eBin addF (eBin addF (eVar 4) (eBin mulF (eC (.int 7)) (eVar 3))) (eC (.int 1))) (eVar 4)) (eC (.int 64))) (aNil))) (eVar 1))))))))
noncomputable def F__law_take : FV := mkFn 2 3 t__law_take
noncomputable def t__law_word : SV := sSeq (sSet 1 (eC (.str "abcdefghijklmnopqrstuvwxyz"))) (sSeq (sSet 2 (eBin addF (eC (.int 1)) (eCallF F__law_take [] (aCons (eVar 0) (aCons (eC (.int 8)) (aNil)))))) (sRet (eJoin (eC (.str "")) (eLc [3] (iRan1 (aCons (eVar 2) (aNil))) (gNm 3) (tTrue) (eBin ixF (eVar 1) (eCallF F__law_take [] (aCons (eVar 0) (aCons (eC (.int 26)) (aNil)))))))))
noncomputable def F__law_word : FV := mkFn 1 3 t__law_word
noncomputable def t__law_words : SV := sSeq (sSet 2 (eC (.str "abcdefghijklmnopqrstuvwxyz"))) (sSeq (sSetB 3 (eLst (aNil))) (sSeq (sFor (iRan1 (aCons (eVar 1) (aNil))) (gNm 4) (sSeq (sSet 5 (eCallF F__law_word [] (aCons (eVar 0) (aNil)))) (sSeq (sSet 6 (eCallF F__law_take [] (aCons (eVar 0) (aCons (eC (.int 4)) (aNil))))) (sSeq (sIf (tAndW (tOf (eBin neF (eVar 3) (eLst (aNil)))) (tOf (eBin gtF (eVar 6) (eC (.int 0))))) (sSeq (sSet 7 (eBin ixF (eVar 3) (eUn negF (eC (.int 1))))) (sSeq (sSet 8 (eCallF F__law_take [] (aCons (eVar 0) (aCons (eCall lenF (aCons (eVar 7) (aNil))) (aNil))))) (sSeq (sSet 5 (eBin addF (eBin addF (eSl (eVar 7) (oNone) (oSome (eVar 8))) (eBin ixF (eVar 2) (eCallF F__law_take [] (aCons (eVar 0) (aCons (eC (.int 26)) (aNil)))))) (eSl (eVar 7) (oSome (eBin addF (eVar 8) (eC (.int 1)))) (oNone)))) (sSeq (sIf (tAndW (tOf (eBin eqF (eVar 6) (eC (.int 2)))) (tOf (eBin ltF (eCall lenF (aCons (eVar 7) (aNil))) (eC (.int 8))))) (sSet 5 (eBin addF (eVar 7) (eBin ixF (eVar 5) (eVar 8)))) (sNext)) (sIf (tAndW (tOf (eBin eqF (eVar 6) (eC (.int 3)))) (tOf (eBin gtF (eCall lenF (aCons (eVar 7) (aNil))) (eC (.int 1))))) (sSet 5 (eBin addF (eSl (eVar 7) (oNone) (oSome (eVar 8))) (eSl (eVar 7) (oSome (eBin addF (eVar 8) (eC (.int 1)))) (oNone)))) (sNext)))))) (sNext)) (sSeq (sIf (tOf (eBin inF (eVar 5) (eVar 3))) (sSet 5 (eBin ixF (eLc [9] (iOf itemsA (eVar 2)) (gNm 9) (tOf (eBin notInF (eVar 9) (eVar 3))) (eVar 9)) (eC (.int 0)))) (sNext)) (sExpr (eLm appendF (eVar 3) (eVar 5)))))))) (sRet (eVar 3))))
noncomputable def F__law_words : FV := mkFn 2 8 t__law_words
noncomputable def t__law_good : SV := sSeq (sSet 2 (eSl (eVar 0) (oNone) (oSome (eBin addF (eC (.int 1)) (eCallF F__law_take [] (aCons (eVar 1) (aCons (eC (.int 5)) (aNil)))))))) (sSeq (sSetB 3 (eLst (aNil))) (sSeq (sFor (iOf itemsA (eVar 2)) (gNm 4) (sSeq (sSet 5 (eCallF F__law_words [] (aCons (eVar 1) (aCons (eBin addF (eC (.int 1)) (eCallF F__law_take [] (aCons (eVar 1) (aCons (eC (.int 3)) (aNil))))) (aNil))))) (sSeq (sSet 6 (eLc [7] (iOf itemsA (eVar 5)) (gNm 7) (tTrue) (eTup (aCons (eVar 7) (aCons (eBin ixF (eVar 2) (eCallF F__law_take [] (aCons (eVar 1) (aCons (eCall lenF (aCons (eVar 2) (aNil))) (aNil))))) (aNil)))))) (sExpr (eLm appendF (eVar 3) (eTup (aCons (eVar 4) (aCons (eBin eqF (eCallF F__law_take [] (aCons (eVar 1) (aCons (eC (.int 2)) (aNil)))) (eC (.int 1))) (aCons (eCall tupleF (aCons (eVar 6) (aNil))) (aNil)))))))))) (sRet (eVar 3))))
noncomputable def F__law_good : FV := mkFn 2 6 t__law_good
noncomputable def t_Schema_tables : SV := sRet (eUn (fldF "Schema" "plan") (eVar 0))
noncomputable def F_Schema_tables : FV := mkFn 1 0 t_Schema_tables
noncomputable def t_is_name : SV := sSeq (sIf (tOrW (tNotW (tOf (eIsTy "str" (eVar 0)))) (tOrW (tOf (eBin eqF (eVar 0) (eC (.str "")))) (tOf (eBin gtF (eCall lenF (aCons (eVar 0) (aNil))) (eC (.int 8)))))) (sRet (eC (.bl false))) (sNext)) (sRet (eCall allF (aCons (eLc [1] (iOf itemsA (eVar 0)) (gNm 1) (tTrue) (eBin inF (eVar 1) (eC (.str "abcdefghijklmnopqrstuvwxyz")))) (aNil))))
noncomputable def F_is_name : FV := mkFn 1 1 t_is_name
noncomputable def t_is_reference : SV := sRet (eAnd (eIsTy "tuple" (eVar 0)) (eAnd (eBin eqF (eCall lenF (aCons (eVar 0) (aNil))) (eC (.int 2))) (eAnd (eCallF F_is_name [] (aCons (eBin ixF (eVar 0) (eC (.int 0))) (aNil))) (eCallF F_is_name [] (aCons (eBin ixF (eVar 0) (eC (.int 1))) (aNil))))))
noncomputable def F_is_reference : FV := mkFn 1 0 t_is_reference
noncomputable def t_is_table : SV := sSeq (sIf (tOrW (tNotW (tOf (eIsTy "tuple" (eVar 0)))) (tOf (eBin neF (eCall lenF (aCons (eVar 0) (aNil))) (eC (.int 3))))) (sRet (eC (.bl false))) (sNext)) (sSeq (sUnp (gTp 3 (gMore (gNm 1) (gMore (gNm 2) (gMore (gNm 3) (gNone))))) (eVar 0)) (sSeq (sIf (tOrW (tNotW (tOf (eCallF F_is_name [] (aCons (eVar 1) (aNil))))) (tNotW (tOf (eIsTy "bool" (eVar 2))))) (sRet (eC (.bl false))) (sNext)) (sSeq (sIf (tOrW (tNotW (tOf (eIsTy "tuple" (eVar 3)))) (tOf (eBin gtF (eCall lenF (aCons (eVar 3) (aNil))) (eC (.int 3))))) (sRet (eC (.bl false))) (sNext)) (sSeq (sIf (tNotW (tOf (eCall allF (aCons (eLc [4] (iOf itemsA (eVar 3)) (gNm 4) (tTrue) (eCallF F_is_reference [] (aCons (eVar 4) (aNil)))) (aNil))))) (sRet (eC (.bl false))) (sNext)) (sRet (eBin eqF (eUn lenSetF (eLc [4] (iOf itemsA (eVar 3)) (gNm 4) (tTrue) (eBin ixF (eVar 4) (eC (.int 0))))) (eCall lenF (aCons (eVar 3) (aNil)))))))))
noncomputable def F_is_table : FV := mkFn 1 4 t_is_table
noncomputable def t_is_plan : SV := sSeq (sIf (tOrW (tNotW (tOf (eIsTy "tuple" (eVar 0)))) (tOrW (tOf (eBin eqF (eVar 0) (eTup (aNil)))) (tOf (eBin gtF (eCall lenF (aCons (eVar 0) (aNil))) (eC (.int 5)))))) (sRet (eC (.bl false))) (sNext)) (sSeq (sIf (tNotW (tOf (eCall allF (aCons (eLc [1] (iOf itemsA (eVar 0)) (gNm 1) (tTrue) (eCallF F_is_table [] (aCons (eVar 1) (aNil)))) (aNil))))) (sRet (eC (.bl false))) (sNext)) (sRet (eBin eqF (eUn lenSetF (eLc [1] (iOf itemsA (eVar 0)) (gNm 1) (tTrue) (eBin ixF (eVar 1) (eC (.int 0))))) (eCall lenF (aCons (eVar 0) (aNil))))))
noncomputable def F_is_plan : FV := mkFn 1 1 t_is_plan
noncomputable def t_Schema_init : SV := sSeq (sIf (tNotW (tOf (eCallF F_is_plan [] (aCons (eVar 1) (aNil))))) (sRaise "NoSchema" ["part"] (aCons (eC (.str "tables")) (aNil))) (sNext)) (sSeq (sSet 2 (eLc [3] (iOf itemsA (eVar 1)) (gNm 3) (tTrue) (eBin ixF (eVar 3) (eC (.int 0))))) (sSeq (sSet 4 (eLc2 [3, 5, 6] (iOf itemsA (eVar 1)) (gNm 3) (tTrue) [5, 6] (iOf itemsA (eBin ixF (eVar 3) (eC (.int 2)))) (gTp 2 (gMore (gNm 5) (gMore (gNm 6) (gNone)))) (tTrue) (eVar 6))) (sSeq (sIf (tNotW (tOf (eCall allF (aCons (eLc [6] (iOf itemsA (eVar 4)) (gNm 6) (tTrue) (eBin inF (eVar 6) (eVar 2))) (aNil))))) (sRaise "NoSchema" ["part"] (aCons (eC (.str "references")) (aNil))) (sNext)) (sFldS "Schema" "plan" (eVar 0) (eVar 1)))))
noncomputable def F_Schema_init : FV := mkFn 2 5 t_Schema_init
noncomputable def t__law_part : SV := sSeq (sSet 1 (eC .non)) (sSeq (sTry (sExpr (eMake "Schema" F_Schema_init [] (aCons (eVar 0) (aNil)))) test_NoSchema 2 (hSet 1 (pXf "NoSchema" "part"))) (sRet (eVar 1)))
noncomputable def F__law_part : FV := mkFn 1 2 t__law_part
noncomputable def t__law_no_name : SV := sSeq (sSet 1 (eCallF F__law_word [] (aCons (eVar 0) (aNil)))) (sSeq (sSet 2 (eCallF F__law_take [] (aCons (eVar 0) (aCons (eBin addF (eCall lenF (aCons (eVar 1) (aNil))) (eC (.int 1))) (aNil))))) (sSeq (sSet 3 (eBin ixF (eC (.str " Z7_-.")) (eCallF F__law_take [] (aCons (eVar 0) (aCons (eC (.int 6)) (aNil)))))) (sSeq (sSet 4 (eBin addF (eBin addF (eSl (eVar 1) (oNone) (oSome (eVar 2))) (eVar 3)) (eSl (eVar 1) (oSome (eVar 2)) (oSome (eC (.int 7)))))) (sSeq (sSet 5 (eLst (aCons (eC (.str "")) (aCons (eVar 4) (aCons (eC (.int 5)) (aCons (eC .non) (aCons (eC (.bl true)) (aCons (eTup (aCons (eVar 1) (aNil))) (aCons (eBin addF (eVar 1) (eC (.str "abcdefgh"))) (aCons (eLst (aCons (eVar 1) (aNil))) (aCons (eUp (eVar 1)) (aNil)))))))))))) (sRet (eBin ixF (eVar 5) (eCallF F__law_take [] (aCons (eVar 0) (aCons (eC (.int 9)) (aNil))))))))))
noncomputable def F__law_no_name : FV := mkFn 1 5 t__law_no_name
noncomputable def t__law_bent_references : SV := sSeq (sSet 4 (eCallF F__law_take [] (aCons (eVar 0) (aCons (eCall lenF (aCons (eVar 1) (aNil))) (aNil))))) (sSeq (sUnp (gTp 2 (gMore (gNm 5) (gMore (gNm 6) (gNone)))) (eBin ixF (eVar 1) (eVar 4))) (sSeq (sIf (tOf (eBin eqF (eVar 3) (eC (.int 7)))) (sRet (eCall listF (aCons (eVar 1) (aNil)))) (sNext)) (sSeq (sIf (tOf (eBin eqF (eVar 3) (eC (.int 8)))) (sRet (eBin addF (eVar 1) (eCall tupleF (aCons (eLc [7] (iOf itemsA (eCallF F__law_words [] (aCons (eVar 0) (aCons (eBin subF (eC (.int 4)) (eCall lenF (aCons (eVar 1) (aNil)))) (aNil))))) (gNm 7) (tTrue) (eTup (aCons (eVar 7) (aCons (eVar 6) (aNil))))) (aNil))))) (sNext)) (sSeq (sIf (tOf (eBin eqF (eVar 3) (eC (.int 10)))) (sSeq (sSet 8 (eCallF F__law_take [] (aCons (eVar 0) (aCons (eBin addF (eCall lenF (aCons (eVar 1) (aNil))) (eC (.int 1))) (aNil))))) (sRet (eBin addF (eBin addF (eSl (eVar 1) (oNone) (oSome (eVar 8))) (eTup (aCons (eTup (aCons (eVar 5) (aCons (eVar 6) (aNil)))) (aNil)))) (eSl (eVar 1) (oSome (eVar 8)) (oNone))))) (sNext)) (sSeq (sSet 9 (eTup (aCons (eVar 5) (aCons (eVar 6) (aCons (eVar 6) (aNil)))))) (sSeq (sIf (tOf (eBin eqF (eVar 3) (eC (.int 9)))) (sSet 9 (eTup (aCons (eCallF F__law_no_name [] (aCons (eVar 0) (aNil))) (aCons (eVar 6) (aNil))))) (sNext)) (sSeq (sIf (tOf (eBin eqF (eVar 3) (eC (.int 11)))) (sSet 9 (eBin ixF (eLst (aCons (eTup (aCons (eVar 5) (aNil))) (aCons (eLst (aCons (eVar 5) (aCons (eVar 6) (aNil)))) (aCons (eTup (aCons (eVar 5) (aCons (eVar 6) (aCons (eVar 6) (aNil))))) (aCons (eVar 5) (aNil)))))) (eCallF F__law_take [] (aCons (eVar 0) (aCons (eC (.int 4)) (aNil)))))) (sNext)) (sSeq (sIf (tOf (eBin eqF (eVar 3) (eC (.int 13)))) (sSet 9 (eTup (aCons (eVar 5) (aCons (eCallF F__law_no_name [] (aCons (eVar 0) (aNil))) (aNil))))) (sNext)) (sSeq (sIf (tOrW (tOf (eBin eqF (eVar 3) (eC (.int 14)))) (tOf (eBin eqF (eVar 3) (eC (.int 15))))) (sSet 9 (eTup (aCons (eVar 5) (aCons (eVar 2) (aNil))))) (sNext)) (sRet (eBin addF (eBin addF (eSl (eVar 1) (oNone) (oSome (eVar 4))) (eTup (aCons (eVar 9) (aNil)))) (eSl (eVar 1) (oSome (eBin addF (eVar 4) (eC (.int 1)))) (oNone)))))))))))))
noncomputable def F__law_bent_references : FV := mkFn 4 6 t__law_bent_references
noncomputable def t__law_bent_table : SV := sSeq (sUnp (gTp 3 (gMore (gNm 4) (gMore (gNm 5) (gMore (gNm 6) (gNone))))) (eVar 1)) (sSeq (sIf (tOf (eBin eqF (eVar 3) (eC (.int 5)))) (sSet 4 (eCallF F__law_no_name [] (aCons (eVar 0) (aNil)))) (sNext)) (sSeq (sIf (tOrW (tOf (eBin eqF (eVar 3) (eC (.int 6)))) (tOf (eBin eqF (eVar 3) (eC (.int 15))))) (sSet 5 (eBin ixF (eLst (aCons (eCall intF (aCons (eVar 5) (aNil))) (aCons (eC .non) (aCons (eC (.str "any")) (aCons (eC (.int 2)) (aNil)))))) (eCallF F__law_take [] (aCons (eVar 0) (aCons (eC (.int 4)) (aNil)))))) (sNext)) (sSeq (sIf (tOf (eBin inF (eVar 3) (eTup (aCons (eC (.int 7)) (aCons (eC (.int 8)) (aCons (eC (.int 9)) (aCons (eC (.int 10)) (aCons (eC (.int 11)) (aCons (eC (.int 13)) (aCons (eC (.int 14)) (aCons (eC (.int 15)) (aNil)))))))))))) (sSet 6 (eCallF F__law_bent_references [] (aCons (eVar 0) (aCons (eVar 6) (aCons (eVar 2) (aCons (eVar 3) (aNil))))))) (sNext)) (sSeq (sIf (tOf (eBin eqF (eVar 3) (eC (.int 12)))) (sRet (eBin ixF (eLst (aCons (eLst (aCons (eVar 4) (aCons (eVar 5) (aCons (eVar 6) (aNil))))) (aCons (eTup (aCons (eVar 4) (aCons (eVar 5) (aNil)))) (aCons (eTup (aCons (eVar 4) (aCons (eVar 5) (aCons (eVar 6) (aCons (eTup (aNil)) (aNil)))))) (aCons (eVar 4) (aNil)))))) (eCallF F__law_take [] (aCons (eVar 0) (aCons (eC (.int 4)) (aNil)))))) (sNext)) (sRet (eTup (aCons (eVar 4) (aCons (eVar 5) (aCons (eVar 6) (aNil))))))))))
noncomputable def F__law_bent_table : FV := mkFn 4 3 t__law_bent_table
noncomputable def t__law_bent : SV := sSeq (sSet 4 (eCallF F__law_take [] (aCons (eVar 0) (aCons (eCall lenF (aCons (eVar 1) (aNil))) (aNil))))) (sSeq (sIf (tOf (eBin eqF (eVar 3) (eC (.int 0)))) (sRet (eCall listF (aCons (eVar 1) (aNil)))) (sNext)) (sSeq (sIf (tOf (eBin eqF (eVar 3) (eC (.int 1)))) (sRet (eBin ixF (eLst (aCons (eC .non) (aCons (eC (.int 5)) (aCons (eC (.str "ab")) (aCons (eDic0) (aNil)))))) (eCallF F__law_take [] (aCons (eVar 0) (aCons (eC (.int 4)) (aNil)))))) (sNext)) (sSeq (sIf (tOf (eBin eqF (eVar 3) (eC (.int 2)))) (sRet (eTup (aNil))) (sNext)) (sSeq (sIf (tOf (eBin eqF (eVar 3) (eC (.int 3)))) (sRet (eCall tupleF (aCons (eLc [5] (iOf itemsA (eVar 2)) (gNm 5) (tTrue) (eTup (aCons (eVar 5) (aCons (eC (.bl true)) (aCons (eTup (aNil)) (aNil)))))) (aNil)))) (sNext)) (sSeq (sIf (tOf (eBin eqF (eVar 3) (eC (.int 16)))) (sSeq (sUnp (gTp 3 (gMore (gNm 6) (gMore (gNm 7) (gMore (gNm 8) (gNone))))) (eBin ixF (eVar 1) (eC (.int 0)))) (sSeq (sSet 9 (eBin addF (eLst (aCons (eTup (aCons (eVar 6) (aCons (eVar 7) (aCons (eCallF F__law_bent_references [] (aCons (eVar 0) (aCons (eVar 8) (aCons (eBin ixF (eVar 2) (eC (.int 5))) (aCons (eC (.int 14)) (aNil)))))) (aNil))))) (aNil))) (eSl (eVar 1) (oSome (eC (.int 1))) (oNone)))) (sSeq (sUnp (gTp 3 (gMore (gNm 6) (gMore (gNm 7) (gMore (gNm 8) (gNone))))) (eBin ixF (eVar 9) (eUn negF (eC (.int 1))))) (sSeq (sSet 10 (eBin ixF (eLst (aCons (eCall intF (aCons (eVar 7) (aNil))) (aCons (eC .non) (aCons (eC (.str "any")) (aCons (eC (.int 2)) (aNil)))))) (eCallF F__law_take [] (aCons (eVar 0) (aCons (eC (.int 4)) (aNil)))))) (sRet (eCall tupleF (aCons (eBin addF (eSl (eVar 9) (oNone) (oSome (eUn negF (eC (.int 1))))) (eLst (aCons (eTup (aCons (eVar 6) (aCons (eVar 10) (aCons (eVar 8) (aNil))))) (aNil)))) (aNil)))))))) (sNext)) (sSeq (sIf (tOf (eBin eqF (eVar 3) (eC (.int 4)))) (sSeq (sSet 11 (eCallF F__law_take [] (aCons (eVar 0) (aCons (eBin addF (eCall lenF (aCons (eVar 1) (aNil))) (eC (.int 1))) (aNil))))) (sRet (eCall tupleF (aCons (eBin addF (eBin addF (eSl (eVar 1) (oNone) (oSome (eVar 11))) (eLst (aCons (eTup (aCons (eBin ixF (eBin ixF (eVar 1) (eVar 4)) (eC (.int 0))) (aCons (eC (.bl false)) (aCons (eTup (aNil)) (aNil))))) (aNil)))) (eSl (eVar 1) (oSome (eVar 11)) (oNone))) (aNil))))) (sNext)) (sRet (eCall tupleF (aCons (eBin addF (eBin addF (eSl (eVar 1) (oNone) (oSome (eVar 4))) (eLst (aCons (eCallF F__law_bent_table [] (aCons (eVar 0) (aCons (eBin ixF (eVar 1) (eVar 4)) (aCons (eBin ixF (eVar 2) (eC (.int 5))) (aCons (eVar 3) (aNil)))))) (aNil)))) (eSl (eVar 1) (oSome (eBin addF (eVar 4) (eC (.int 1)))) (oNone))) (aNil))))))))))
noncomputable def F__law_bent : FV := mkFn 4 8 t__law_bent
noncomputable def t_law : SV := sSeq (sSetB 1 (eCallF F__law_begin [] (aCons (eCallF F__law_at [] (aCons (eVar 0) (aCons (eC (.int 0)) (aNil)))) (aNil)))) (sSeq (sSet 2 (eCallF F__law_words [] (aCons (eVar 1) (aCons (eC (.int 6)) (aNil))))) (sSeq (sSet 3 (eCallF F__law_good [] (aCons (eVar 2) (aCons (eVar 1) (aNil))))) (sSeq (sFor (iOf itemsA (eBin addF (eSl (eVar 0) (oSome (eC (.int 1))) (oSome (eC (.int 8)))) (eLst (aCons (eBin divF (eCallF F__law_at [] (aCons (eVar 0) (aCons (eC (.int 0)) (aNil)))) (eC (.int 2))) (aNil))))) (gNm 4) (sSeq (sSetB 5 (eCallF F__law_begin [] (aCons (eVar 4) (aNil)))) (sSeq (sSet 6 (eCallF F__law_take [] (aCons (eVar 5) (aCons (eC (.int 17)) (aNil))))) (sSeq (sIf (tOf (eBin neF (eMeth "Schema" "tables" F_Schema_tables [] (eMake "Schema" F_Schema_init [] (aCons (eCall tupleF (aCons (eVar 3) (aNil))) (aNil))) (aNil)) (eCall tupleF (aCons (eVar 3) (aNil))))) (sRet (eC (.bl false))) (sNext)) (sSeq (sSet 7 (eCallF F__law_part [] (aCons (eCallF F__law_bent [] (aCons (eVar 5) (aCons (eVar 3) (aCons (eVar 2) (aCons (eVar 6) (aNil)))))) (aNil)))) (sIf (tOrW (tNotW (tOf (eIsTy "str" (eVar 7)))) (tOf (eBin neF (eVar 7) (eBin ixF (eLst (aCons (eC (.str "tables")) (aCons (eC (.str "references")) (aNil)))) (eCall intF (aCons (eBin eqF (eVar 6) (eC (.int 14))) (aNil))))))) (sRet (eC (.bl false))) (sNext))))))) (sRet (eBin eqF (eMeth "Schema" "tables" F_Schema_tables [] (eMake "Schema" F_Schema_init [] (aCons (eCall tupleF (aCons (eVar 3) (aNil))) (aNil))) (aNil)) (eCall tupleF (aCons (eVar 3) (aNil))))))))
noncomputable def F_law : FV := mkFn 1 7 t_law
end Wk

set_option Elab.async false
set_option linter.all false
set_option maxRecDepth 100000
set_option maxHeartbeats 2000000
/-! the helpers of the laws, as they are reckoned -/
namespace Wk
open PySem PySem.Spec PyProof.Rows L2 Ev
open Classical
abbrev Bx := List (Bool × List D)
abbrev dI (i : Int) : D := .int i
/-- box i holds the three cells that a draw uses; n: how many draws at most have been -/
def St3 (B : Bx) (i : Nat) (n : Int) : Prop := ∃ a b c : Int, B[i]? = some (true, [.int a, .int b, .int c]) ∧ 0 ≤ c ∧ c ≤ n
def Adv (i : Nat) (B B' : Bx) : Prop := ∃ x, B' = B.set i x
theorem Adv.trans {i B B' B''} (h : Adv i B B') (k : Adv i B' B'') : Adv i B B'' := by
  obtain ⟨x, rfl⟩ := h
  obtain ⟨y, rfl⟩ := k
  exact ⟨y, by rw [List.set_set]⟩
theorem Adv.len {i B B'} (h : Adv i B B') : B'.length = B.length := by
  obtain ⟨x, rfl⟩ := h
  simp
theorem St3.lt {B i n} (h : St3 B i n) : i < B.length := by
  obtain ⟨a, b, c, h, _⟩ := h
  exact (List.getElem?_eq_some_iff.mp h).1
theorem St3.mono {B i n m} (h : St3 B i n) (l : n ≤ m) : St3 B i m := by
  obtain ⟨a, b, c, h, h1, h2⟩ := h
  exact ⟨a, b, c, h, h1, by omega⟩
theorem St3.app {B C : Bx} {i n} (h : St3 B i n) : St3 (B ++ C) i n := by
  have hl := h.lt
  obtain ⟨a, b, c, h, h1, h2⟩ := h
  exact ⟨a, b, c, by rw [List.getElem?_append_left hl]; exact h, h1, h2⟩
theorem cdiv (i : Int) (j : Int) (h : 0 < j) (h2 : j < 2 ^ 64) : CDivW i j := by
  refine ⟨h, ?_⟩
  have : j.natAbs < 2 ^ 64 := by omega
  have h3 : j.natAbs.log2 < 64 := (Nat.log2_lt (by omega)).mpr this
  omega
theorem cmul (i j : Int) (h1 : -(2 ^ 200) < i) (h2 : i < 2 ^ 200) (h3 : -(2 ^ 200) < j) (h4 : j < 2 ^ 200) : CMulW i j := by
  have key : ∀ x : Int, -(2 ^ 200) < x → x < 2 ^ 200 → x.natAbs.log2 < 200 := by
    intro x a b
    by_cases h : x.natAbs = 0
    · rw [h]; decide
    · exact (Nat.log2_lt h).mpr (by omega)
  have := key i h1 h2
  have := key j h3 h4
  unfold CMulW
  omega
theorem take_ok {P : List Ob} {B : Bx} {i : Nat} {n base : Int} (h : St3 B i n) (hn : n ≤ 2 ^ 30) (hb : 0 < base) (hb2 : base < 2 ^ 30) :
    ∃ d B', 0 ≤ d ∧ d < base ∧ Adv i B B' ∧ St3 B' i (n + 1) ∧ F__law_take [.box i, .d (.int base)] ⟨P, B⟩ = .ok (.d (.int d)) ⟨P, B'⟩ := by
  have hl := h.lt
  obtain ⟨a, b, c, h, h1, h2⟩ := h
  by_cases ha : 0 ≤ a
  · refine ⟨a % base, B.set i (true, [.int (a / base), .int b, .int c]), Int.emod_nonneg _ (by omega), Int.emod_lt_of_pos _ hb, ⟨_, rfl⟩, ⟨a / base, b, c, by simp [hl], h1, by omega⟩, ?_⟩
    have hd := cdiv a base hb (by omega)
    simp [F__law_take, t__law_take, mkFn, ixF_box _ (S := ⟨P, B⟩) h, ha, hb, hd, Ev.putAt, h, ixN]
  · have hk : (2 * c + 3 : Int) < 2 ^ 200 := by omega
    generalize e1 : b % 2305843009213693951 = b1
    have hb1 : 0 ≤ b1 ∧ b1 < 2305843009213693951 := by subst e1; exact ⟨Int.emod_nonneg _ (by omega), Int.emod_lt_of_pos _ (by omega)⟩
    have hcc : 0 ≤ c * c ∧ c * c ≤ 2 ^ 60 := ⟨Int.mul_nonneg h1 h1, by
      have h3 : c ≤ 2 ^ 30 := by omega
      calc c * c ≤ 2 ^ 30 * 2 ^ 30 := Int.mul_le_mul h3 h3 h1 (by omega)
        _ = 2 ^ 60 := by decide⟩
    have m1 : CMulW c c := cmul _ _ (by omega) (by omega) (by omega) (by omega)
    have m2 : CMulW (b1 + c * c + c + 1) (2 * c + 3) := cmul _ _ (by omega) (by omega) (by omega) (by omega)
    have m0 : CMulW 2 c := cmul _ _ (by omega) (by omega) (by omega) (by omega)
    generalize e2 : (b1 + c * c + c + 1) * (2 * c + 3) % 2305843009213693951 = b2
    have hb2' : 0 ≤ b2 ∧ b2 < 2305843009213693951 := by subst e2; exact ⟨Int.emod_nonneg _ (by omega), Int.emod_lt_of_pos _ (by omega)⟩
    have m3 : CMulW b2 b2 := cmul _ _ (by omega) (by omega) (by omega) (by omega)
    have m4 : CMulW 40692 c := cmul _ _ (by omega) (by omega) (by omega) (by omega)
    generalize e3 : (b2 * b2 + 40692 * c) % 2305843009213693921 = b3
    have hb3 : 0 ≤ b3 ∧ b3 < 2305843009213693921 := by subst e3; exact ⟨Int.emod_nonneg _ (by omega), Int.emod_lt_of_pos _ (by omega)⟩
    have m5 : CMulW 7 c := cmul _ _ (by omega) (by omega) (by omega) (by omega)
    have m6 : CMulW (b3 + 7 * c + 1) b3 := cmul _ _ (by omega) (by omega) (by omega) (by omega)
    have d1 : CDivW ((b3 + 7 * c + 1) * b3) 64 := cdiv _ _ (by omega) (by omega)
    refine ⟨(b3 + 7 * c + 1) * b3 / 64 % base, B.set i (true, [.int a, .int b, .int (c + 1)]), Int.emod_nonneg _ (by omega), Int.emod_lt_of_pos _ hb, ⟨_, rfl⟩, ⟨a, b, c + 1, by simp [hl], by omega, by omega⟩, ?_⟩
    have h' : (B.set i (true, [.int a, .int b, .int (c + 1)]))[i]? = some (true, [.int a, .int b, .int (c + 1)]) := by simp [hl]
    simp [F__law_take, t__law_take, mkFn, ixF_box _ (S := ⟨P, B⟩) h, ixF_box _ (S := ⟨P, B.set i (true, [.int a, .int b, .int (c + 1)])⟩) h', ha, hb, Ev.putAt, h, ixN, m0, m1, m2, m3, m4, m5, m6, d1, e1, e2, e3]
def ltrs : Str := "abcdefghijklmnopqrstuvwxyz"
def one (c : Nat) : Str := ⟨#[c]⟩
structure Word (w : Str) : Prop where
  lo : 1 ≤ w.length
  hi : w.length ≤ 8
  ch : ∀ c ∈ w.cps.toList, c ∈ ltrs.cps.toList
theorem ltrs_len : ltrs.cps.toList.length = 26 := by decide +kernel
theorem join_chars : ∀ cs : List Nat, Txt.join "" (cs.map one) = ⟨cs.toArray⟩ := by
  have key : ∀ (r : List Nat) (b : Array Nat), ((r.map one).foldl (fun acc p => acc ++ ("" : Str).cps ++ p.cps) b) = b ++ r.toArray := by
    intro r
    induction r with
    | nil => intro b; simp
    | cons c r ih =>
      intro b
      rw [List.map_cons, List.foldl_cons, ih]
      have e : ("" : Str).cps = #[] := by decide +kernel
      rw [e]
      apply Array.ext'
      simp [one]
  intro cs
  cases cs with
  | nil => rfl
  | cons c r =>
    show (⟨((r.map one).foldl (fun acc p => acc ++ ("" : Str).cps ++ p.cps) #[c])⟩ : Str) = _
    rw [key]
    simp
theorem strs_one (cs : List Nat) : strsOf (cs.map fun c => D.str (one c)) = some (cs.map one) := by
  have : (cs.map fun c => D.str (one c)) = (cs.map one).map D.str := by simp
  rw [this, strsOf_map]
theorem joinF_one (cs : List Nat) (S : Sta) (h : cs.length ≤ 16777216) : joinF (.d (.str "")) (.d (.lst (cs.map fun c => D.str (one c)))) S = .ok (.d (.str ⟨cs.toArray⟩)) S := by
  have e0 : ∀ l : List Nat, ((l.map one).map (·.length)).sum = l.length := by
    intro l
    induction l with
    | nil => rfl
    | cons c r ih =>
      simp only [List.map_cons, List.sum_cons, List.length_cons, ih]
      show 1 + r.length = r.length + 1
      omega
  have e2 : ("" : Str).length = 0 := by decide +kernel
  unfold joinF
  dsimp only
  rw [rdlOf_lst]
  dsimp only
  rw [strs_one]
  dsimp only
  rw [if_pos (by rw [e0, e2]; omega), join_chars]
/-- a letter drawn -/
theorem letter_ok {P : List Ob} {B : Bx} {i : Nat} {n : Int} (h : St3 B i n) (hn : n ≤ 2 ^ 30) : ∃ d B' c, c ∈ ltrs.cps.toList ∧ atI ltrs.cps.toList d = some c ∧ Adv i B B' ∧ St3 B' i (n + 1) ∧ F__law_take [.box i, .d (.int 26)] ⟨P, B⟩ = .ok (.d (.int d)) ⟨P, B'⟩ := by
  obtain ⟨d, B', h1, h2, h3, h4, h5⟩ := take_ok (P := P) h hn (base := 26) (by omega) (by omega)
  obtain ⟨c, e1, e2⟩ := atI_of ltrs.cps.toList d h1 (by rw [ltrs_len]; exact h2)
  exact ⟨d, B', c, e2, e1, h3, h4, h5⟩
theorem word_ok {P : List Ob} {B : Bx} {i : Nat} {n : Int} (h : St3 B i n) (hn : n ≤ 2 ^ 29) : ∃ w B', Word w ∧ Adv i B B' ∧ St3 B' i (n + 9) ∧ F__law_word [.box i] ⟨P, B⟩ = .ok (.d (.str w)) ⟨P, B'⟩ := by
  obtain ⟨d, B1, h1, h2, h3, h4, h5⟩ := take_ok (P := P) h (by omega) (base := 8) (by omega) (by omega)
  have loop := loopL_inv (chk := fun _ => true) (tg := gNm 3) (step := eltStep tTrue (eBin ixF (eVar 1) (eCallF F__law_take [] (aCons (eVar 0) (aCons (eC (.int 26)) (aNil)))))) (σ := wipeV [some (.box i), some (.d (.str ltrs)), some (.d (.int (1 + d))), none] [3])
    (fun r acc S => ∃ B' cs, S = ⟨P, B'⟩ ∧ Adv i B B' ∧ St3 B' i (n + 1 + (cs.length : Nat)) ∧ acc = cs.map (fun c => D.str (one c)) ∧ (∀ c ∈ cs, c ∈ ltrs.cps.toList) ∧ (cs.length : Int) + (r.length : Nat) = 1 + d)
    (fun _ _ _ _ => rfl) (by
      rintro x r acc S ⟨B2, cs, rfl, a1, s1, rfl, cc, hl⟩
      have hl' : (cs.length : Int) + ((r.length : Nat) + 1) = 1 + d := by simpa using hl
      obtain ⟨e, B3, c, q1, q2, q3, q4, q5⟩ := letter_ok (P := P) s1 (by omega)
      refine ⟨_, rfl, (cs ++ [c]).map (fun c => D.str (one c)), ⟨P, B3⟩, ?_, B3, cs ++ [c], rfl, a1.trans q3, by
        have : n + 1 + (cs.length : Int) + 1 = n + 1 + ((cs ++ [c]).length : Nat) := by simp; omega
        rw [← this]; exact q4, rfl, fun z hz => by
          rcases List.mem_append.mp hz with hz | hz
          · exact cc z hz
          · rw [List.mem_singleton.mp hz]; exact q1, by simp; omega⟩
      have hs : cs.length < sizeLine := by unfold sizeLine; omega
      have hs2 : ltrs.length ≤ sizeLine := by decide +kernel
      simp [wipeV, q5, q2, hs, hs2, one]) (rng (1 + d)) [] ⟨P, B1⟩ ⟨B1, [], rfl, h3, by simpa using h4, rfl, by simp, by simp; omega⟩
  obtain ⟨acc', S', e1, B2, cs, rfl, a1, s1, rfl, cc, hl⟩ := loop
  have hl' : (cs.length : Int) = 1 + d := by simpa using hl
  refine ⟨⟨cs.toArray⟩, B2, ⟨by show 1 ≤ cs.toArray.size; simp; omega, by show cs.toArray.size ≤ 8; simp; omega, by simpa using cc⟩, a1, s1.mono (by omega), ?_⟩
  have ltr : (Str.ofString "abcdefghijklmnopqrstuvwxyz") = ltrs := rfl
  simp only [F__law_word, mkFn, t__law_word]
  obtain ⟨x, rfl⟩ := a1
  simp [h5, itemsR1_eq (1 + d) _ (by omega) (by omega), ltr, e1, joinF_one cs _ (by omega)]
/-! lists of texts in a box -/
theorem flats (ws : List Str) : (ws.map D.str).all flatD = true := by
  rw [List.all_map]; exact List.all_eq_true.mpr fun _ _ => rfl
theorem okStrs (n : Nat) (ws : List Str) : okDs n (ws.map D.str) = true := okDs_iff.mpr fun x hx => by
  obtain ⟨w, _, rfl⟩ := List.mem_map.mp hx
  cases n <;> rfl
theorem inD_strs (w : Str) (ws : List Str) : inD (.str w) (ws.map D.str) = decide (w ∈ ws) := by
  unfold inD
  induction ws with
  | nil => rfl
  | cons v r ih =>
    rw [List.map_cons, List.any_cons, ih, eqD_str]
    by_cases h : v = w
    · subst h; simp
    · have : w ≠ v := fun e => h e.symm
      simp [h, this]
theorem inF_box {k : Nat} {b : Bool} {ws : List Str} {S : Sta} (h : S.B[k]? = some (b, ws.map D.str)) (w : Str) : inF (.d (.str w)) (.box k) S = .ok (.d (.bl (decide (w ∈ ws)))) S := by
  have e : inB (.d (.str w)) (.box k) S = some (decide (w ∈ ws)) := by
    show (match rdlOf (.box k) S with | some l => (if flatD (.str w) = true ∧ l.all flatD = true then some (inD (.str w) l) else none) | none => none) = _
    rw [rdlOf_box h]
    dsimp only
    rw [if_pos ⟨rfl, flats ws⟩, inD_strs]
  unfold inF
  rw [e]
theorem notInF_box {k : Nat} {b : Bool} {ws : List Str} {S : Sta} (h : S.B[k]? = some (b, ws.map D.str)) (w : Str) : notInF (.d (.str w)) (.box k) S = .ok (.d (.bl (!decide (w ∈ ws)))) S := by
  have e : inB (.d (.str w)) (.box k) S = some (decide (w ∈ ws)) := by
    show (match rdlOf (.box k) S with | some l => (if flatD (.str w) = true ∧ l.all flatD = true then some (inD (.str w) l) else none) | none => none) = _
    rw [rdlOf_box h]
    dsimp only
    rw [if_pos ⟨rfl, flats ws⟩, inD_strs]
  unfold notInF
  rw [e]
theorem neF_boxNil {k : Nat} {b : Bool} {ws : List Str} {S : Sta} (h : S.B[k]? = some (b, ws.map D.str)) : neF (.box k) (.d (.lst [])) S = .ok (.d (.bl (!ws.isEmpty))) S := by
  unfold neF
  rw [datOf_box h]
  show (if okD 60 (.lst (ws.map D.str)) = true ∧ okD 60 (.lst []) = true then _ else _) = _
  rw [if_pos ⟨okStrs 59 ws, rfl⟩]
  cases ws <;> rfl
/-! cuts of texts -/
theorem str_len (w : Str) : w.length = w.cps.toList.length := by simp [Str.length]
theorem word_of {w : Str} (h1 : 1 ≤ w.cps.toList.length) (h2 : w.cps.toList.length ≤ 8) (h3 : ∀ c ∈ w.cps.toList, c ∈ ltrs.cps.toList) : Word w := ⟨by rw [str_len]; exact h1, by rw [str_len]; exact h2, h3⟩
theorem app_list (x y : Str) : (x ++ y).cps.toList = x.cps.toList ++ y.cps.toList := by
  show (x.cps ++ y.cps).toList = _
  simp
theorem cutS_pre (z : Str) (k : Nat) (h : k ≤ z.length) : (cutS z none (some (k : Int))).cps.toList = z.cps.toList.take k := by
  unfold cutS
  rw [HT.sIx_none, HT.sIx_nat, Nat.min_eq_left h]
  simp
theorem cutS_suf (z : Str) (k : Nat) (h : k ≤ z.length) : (cutS z (some (k : Int)) none).cps.toList = z.cps.toList.drop k := by
  unfold cutS
  rw [HT.sIx_none, HT.sIx_nat, Nat.min_eq_left h]
  have : z.length - k = (z.cps.toList.drop k).length := by rw [List.length_drop, str_len]
  rw [this, List.take_length]
theorem slF_str (z : Str) (lo hi : Option Int) (S : Sta) (h : z.length ≤ sizeLine) : slF (.d (.str z)) lo hi S = .ok (.d (.str (cutS z lo hi))) S := by
  unfold slF
  dsimp only
  rw [if_pos h]
/-! a letter that is not there yet -/
theorem filter_ne_len {α : Type} [DecidableEq α] (a : α) : ∀ l : List α, l.Nodup → l.length ≤ (l.filter fun x => decide (x ≠ a)).length + 1
  | [], _ => by simp
  | x :: r, h => by
    obtain ⟨h1, h2⟩ := List.nodup_cons.mp h
    by_cases e : x = a
    · subst e
      have : (r.filter fun y => decide (y ≠ x)) = r := List.filter_eq_self.mpr fun y hy => by
        have : y ≠ x := fun z => h1 (z ▸ hy)
        simpa using this
      rw [List.filter_cons_of_neg (by simp), this]
      simp
    · have := filter_ne_len a r h2
      simp [e] at this ⊢
      omega
theorem filter_out_len {α : Type} [DecidableEq α] (l : List α) (h : l.Nodup) : ∀ ws : List α, l.length ≤ (l.filter fun x => decide (x ∉ ws)).length + ws.length
  | [] => by
    have : (l.filter fun x => decide (x ∉ ([] : List α))) = l := List.filter_eq_self.mpr fun y hy => by simp
    rw [this]; simp
  | w :: r => by
    have ih := filter_out_len l h r
    have h2 : (l.filter fun x => decide (x ∉ r)).Nodup := h.sublist List.filter_sublist
    have h3 := filter_ne_len w _ h2
    rw [List.filter_filter] at h3
    have e : (l.filter fun x => decide (x ∉ w :: r)) = l.filter fun x => (decide (x ≠ w) && decide (x ∉ r)) := by
      congr 1; funext x
      by_cases a : x = w <;> by_cases b : x ∈ r <;> simp [a, b]
    rw [e]
    simp only [List.length_cons]
    omega
def alone : List Str := ltrs.cps.toList.map one
theorem alone_nodup : alone.Nodup := by decide +kernel
theorem fresh_letter (ws : List Str) (h : ws.length < 26) : ∃ w r, (alone.filter fun x => decide (x ∉ ws)) = w :: r ∧ w ∉ ws ∧ Word w := by
  have h1 := filter_out_len alone alone_nodup ws
  have h2 : alone.length = 26 := by decide +kernel
  cases e : alone.filter fun x => decide (x ∉ ws) with
  | nil => rw [e] at h1; simp at h1; omega
  | cons w r =>
    have hm : w ∈ alone.filter fun x => decide (x ∉ ws) := by rw [e]; exact List.mem_cons_self
    obtain ⟨m1, m2⟩ := List.mem_filter.mp hm
    obtain ⟨c, hc, rfl⟩ := List.mem_map.mp m1
    exact ⟨_, r, rfl, by simpa using m2, word_of (by simp [one]) (by simp [one]) fun d hd => by
      have : d = c := by simpa [one] using hd
      rw [this]; exact hc⟩
theorem chrs_ltrs : chrs ltrs = alone.map D.str := by
  unfold chrs alone
  rw [List.map_map]; rfl
/-- the part that changes a word after the last one -/
noncomputable def wNear : SV := (sSeq (sSet 7 (eBin ixF (eVar 3) (eUn negF (eC (.int 1))))) (sSeq (sSet 8 (eCallF F__law_take [] (aCons (eVar 0) (aCons (eCall lenF (aCons (eVar 7) (aNil))) (aNil))))) (sSeq (sSet 5 (eBin addF (eBin addF (eSl (eVar 7) (oNone) (oSome (eVar 8))) (eBin ixF (eVar 2) (eCallF F__law_take [] (aCons (eVar 0) (aCons (eC (.int 26)) (aNil)))))) (eSl (eVar 7) (oSome (eBin addF (eVar 8) (eC (.int 1)))) (oNone)))) (sSeq (sIf (tAndW (tOf (eBin eqF (eVar 6) (eC (.int 2)))) (tOf (eBin ltF (eCall lenF (aCons (eVar 7) (aNil))) (eC (.int 8))))) (sSet 5 (eBin addF (eVar 7) (eBin ixF (eVar 5) (eVar 8)))) (sNext)) (sIf (tAndW (tOf (eBin eqF (eVar 6) (eC (.int 3)))) (tOf (eBin gtF (eCall lenF (aCons (eVar 7) (aNil))) (eC (.int 1))))) (sSet 5 (eBin addF (eSl (eVar 7) (oNone) (oSome (eVar 8))) (eSl (eVar 7) (oSome (eBin addF (eVar 8) (eC (.int 1)))) (oNone)))) (sNext))))))
abbrev sl10 (i : Nat) (cnt : Int) (k : Nat) (a4 a5 a6 a7 a8 a9 : Option Vl) : Sl := [some (.box i), some (.d (.int cnt)), some (.d (.str ltrs)), some (.box k), a4, a5, a6, a7, a8, a9]
theorem near_ok {P : List Ob} {B : Bx} {i j : Nat} {n cnt : Int} {ws : List Str} {way : Int} {a4 a5 a7 a8 a9 : Option Vl} (h : St3 B i n) (hn : n ≤ 2 ^ 29) (hj : B[j]? = some (true, ws.map D.str)) (hij : i ≠ j) (hw : ws ≠ []) (ww : ∀ w ∈ ws, Word w) :
    ∃ w B' b4 b7 b8 b9, Word w ∧ Adv i B B' ∧ St3 B' i (n + 2) ∧ wNear (sl10 i cnt j a4 a5 (some (.d (.int way))) a7 a8 a9) ⟨P, B⟩ = .nxt (sl10 i cnt j b4 (some (.d (.str w))) (some (.d (.int way))) b7 b8 b9) ⟨P, B'⟩ := by
  obtain ⟨r, w0, rfl⟩ : ∃ r w0, ws = r ++ [w0] := ⟨ws.dropLast, ws.getLast hw, (List.dropLast_concat_getLast hw).symm⟩
  have hw0 : Word w0 := ww w0 (by simp)
  have lo := hw0.lo; have hi := hw0.hi
  obtain ⟨d, B1, h1, h2, h3, h4, h5⟩ := take_ok (P := P) h (by omega) (base := (w0.length : Nat)) (by omega) (by omega)
  obtain ⟨k, rfl⟩ := Int.eq_ofNat_of_zero_le h1
  have hk : k < w0.length := by omega
  obtain ⟨d2, B2, c, c1, c2, c3, c4, c5⟩ := letter_ok (P := P) h4 (by omega)
  have hl : (w0.cps.toList).length = w0.length := (str_len w0).symm
  let w1 : Str := (cutS w0 none (some (k : Int)) ++ one c) ++ cutS w0 (some ((k : Int) + 1)) none
  have ek : ((k : Int) + 1) = ((k + 1 : Nat) : Int) := by omega
  have e1 : w1.cps.toList = w0.cps.toList.take k ++ [c] ++ w0.cps.toList.drop (k + 1) := by
    show ((cutS w0 none (some (k : Int)) ++ one c) ++ cutS w0 (some ((k : Int) + 1)) none).cps.toList = _
    rw [app_list, app_list, cutS_pre w0 k (by omega), ek, cutS_suf w0 (k + 1) (by omega)]
    rfl
  have l1 : w1.cps.toList.length = w0.length := by
    rw [e1]; simp only [List.length_append, List.length_take, List.length_drop, hl, List.length_singleton]; omega
  have m1 : ∀ x ∈ w1.cps.toList, x ∈ ltrs.cps.toList := by
    rw [e1]
    intro x hx
    simp only [List.mem_append, List.mem_singleton] at hx
    rcases hx with (hx | hx) | hx
    · exact hw0.ch x (List.mem_of_mem_take hx)
    · rw [hx]; exact c1
    · exact hw0.ch x (List.mem_of_mem_drop hx)
  have W1 : Word w1 := word_of (by omega) (by omega) m1
  obtain ⟨c', q1, q2⟩ := atI_of w1.cps.toList (k : Int) (by omega) (by omega)
  have W2 : w0.length < 8 → Word (w0 ++ one c') := fun z => word_of (by rw [app_list]; simp [one, hl]) (by rw [app_list]; simp [one, hl]; omega) (by
    rw [app_list]
    intro x hx
    simp only [List.mem_append] at hx
    rcases hx with hx | hx
    · exact hw0.ch x hx
    · have : x = c' := by simpa [one] using hx
      rw [this]; exact m1 c' q2)
  let w3 : Str := cutS w0 none (some (k : Int)) ++ cutS w0 (some ((k : Int) + 1)) none
  have e3 : w3.cps.toList = w0.cps.toList.take k ++ w0.cps.toList.drop (k + 1) := by
    show (cutS w0 none (some (k : Int)) ++ cutS w0 (some ((k : Int) + 1)) none).cps.toList = _
    rw [app_list, cutS_pre w0 k (by omega), ek, cutS_suf w0 (k + 1) (by omega)]
  have l3 : w3.cps.toList.length = w0.length - 1 := by
    rw [e3]; simp only [List.length_append, List.length_take, List.length_drop, hl]; omega
  have W3 : 1 < w0.length → Word w3 := fun z => word_of (by omega) (by omega) (by
    rw [e3]
    intro x hx
    simp only [List.mem_append] at hx
    rcases hx with hx | hx
    · exact hw0.ch x (List.mem_of_mem_take hx)
    · exact hw0.ch x (List.mem_of_mem_drop hx))
  have s0 : w0.length ≤ sizeLine := by unfold sizeLine; omega
  have s1 : ∀ (x y : Str), x.length ≤ 100 → y.length ≤ 100 → x.length + y.length ≤ sizeLine := fun x y a b => by unfold sizeLine; omega
  have t1 : (cutS w0 none (some (k : Int))).length ≤ 10 := by rw [str_len, cutS_pre w0 k (by omega), List.length_take]; omega
  have t2 : (cutS w0 (some ((k : Int) + 1)) none).length ≤ 10 := by rw [str_len, ek, cutS_suf w0 (k + 1) (by omega), List.length_drop, hl]; omega
  have t3 : (cutS w0 none (some (k : Int)) ++ one c).length ≤ 20 := by rw [str_len, app_list]; rw [str_len] at t1; simp [one] at t1 ⊢; omega
  have a1 : (cutS w0 none (some (k : Int))).length + (one c).length ≤ sizeLine := s1 _ _ (by omega) (by show 1 ≤ 100; omega)
  have a2 : (cutS w0 none (some (k : Int)) ++ one c).length + (cutS w0 (some ((k : Int) + 1)) none).length ≤ sizeLine := s1 _ _ (by omega) (by omega)
  have a3 : w0.length + (one c').length ≤ sizeLine := s1 _ _ (by omega) (by show 1 ≤ 100; omega)
  have a4' : (cutS w0 none (some (k : Int))).length + (cutS w0 (some ((k : Int) + 1)) none).length ≤ sizeLine := s1 _ _ (by omega) (by omega)
  have a5' : w1.length ≤ sizeLine := by rw [str_len, l1]; exact s0
  have hs2 : ltrs.length ≤ sizeLine := by decide +kernel
  have neg : atI (r.map D.str ++ [D.str w0]) (-1) = some (D.str w0) := Ev.atI_last _ _
  have hj' : B[j]? = some (true, r.map D.str ++ [D.str w0]) := by simpa using hj
  have base : ∀ (X : SV), (sSeq (sSet 7 (eBin ixF (eVar 3) (eUn negF (eC (.int 1))))) (sSeq (sSet 8 (eCallF F__law_take [] (aCons (eVar 0) (aCons (eCall lenF (aCons (eVar 7) (aNil))) (aNil))))) (sSeq (sSet 5 (eBin addF (eBin addF (eSl (eVar 7) (oNone) (oSome (eVar 8))) (eBin ixF (eVar 2) (eCallF F__law_take [] (aCons (eVar 0) (aCons (eC (.int 26)) (aNil)))))) (eSl (eVar 7) (oSome (eBin addF (eVar 8) (eC (.int 1)))) (oNone)))) X))) (sl10 i cnt j a4 a5 (some (.d (.int way))) a7 a8 a9) ⟨P, B⟩ =
      X (sl10 i cnt j a4 (some (.d (.str w1))) (some (.d (.int way))) (some (.d (.str w0))) (some (.d (.int k))) a9) ⟨P, B2⟩ := by
    intro X
    have c2' : atI ltrs.cps.toList d2 = some c := c2
    have fold1 : ∀ c, (⟨#[c]⟩ : Str) = one c := fun _ => rfl
    simp [sl10, ixF_box _ (S := ⟨P, B⟩) hj', neg, s0, h5, c5, hs2, c2', slF_str _ _ _ _ s0, a1, a2, fold1]
    rfl
  have fold1 : ∀ c, (⟨#[c]⟩ : Str) = one c := fun _ => rfl
  have st : St3 B2 i (n + 2) := by
    have : n + 1 + 1 = n + 2 := by omega
    rw [← this]; exact c4
  show ∃ w B' b4 b7 b8 b9, _ ∧ _ ∧ _ ∧ wNear _ _ = _
  unfold wNear
  rw [base]
  have e : (w0.length : Int) = ((w0.length : Nat) : Int) := rfl
  by_cases y2 : way = 2 ∧ (w0.length : Int) < 8
  · obtain ⟨rfl, z2⟩ := y2
    refine ⟨w0 ++ one c', B2, a4, some (.d (.str w0)), some (.d (.int (k : Nat))), a9, W2 (by omega), h3.trans c3, st, ?_⟩
    simp [sl10, s0, z2, a5', q1, fold1, a3]
  · by_cases y3 : way = 3 ∧ 1 < (w0.length : Int)
    · obtain ⟨rfl, z3⟩ := y3
      refine ⟨w3, B2, a4, some (.d (.str w0)), some (.d (.int (k : Nat))), a9, W3 (by omega), h3.trans c3, st, ?_⟩
      simp [sl10, s0, z3, slF_str _ _ _ _ s0, a4']
      rfl
    · refine ⟨w1, B2, a4, some (.d (.str w0)), some (.d (.int (k : Nat))), a9, W1, h3.trans c3, st, ?_⟩
      have z : ∀ (k : Bool) (x y : SOut), (if k = true then x else y) = if k = true then x else y := fun _ _ _ => rfl
      by_cases p2 : way = 2
      · have p3 : ¬ (w0.length : Int) < 8 := fun z => y2 ⟨p2, z⟩
        subst p2
        simp [sl10, s0, p3]
      · by_cases p4 : way = 3
        · have p5 : ¬ 1 < (w0.length : Int) := fun z => y3 ⟨p4, z⟩
          subst p4
          simp [sl10, s0, p5]
        · simp [sl10, s0, p2, p4]
noncomputable def wDup : SV := (sIf (tOf (eBin inF (eVar 5) (eVar 3))) (sSet 5 (eBin ixF (eLc [9] (iOf itemsA (eVar 2)) (gNm 9) (tOf (eBin notInF (eVar 9) (eVar 3))) (eVar 9)) (eC (.int 0)))) (sNext))
def outF (ws : List Str) : D → List D
  | .str w => if w ∈ ws then [] else [.str w]
  | _ => []
theorem outF_map (ws : List Str) : ∀ l : List Str, (l.map D.str).flatMap (outF ws) = (l.filter fun x => decide (x ∉ ws)).map D.str
  | [] => rfl
  | w :: r => by
    rw [List.map_cons, List.flatMap_cons, outF_map ws r]
    by_cases h : w ∈ ws
    · simp [outF, h]
    · simp [outF, h]
theorem dup_ok {P : List Ob} {B : Bx} {i j : Nat} {cnt : Int} {ws : List Str} {w : Str} {a4 a6 a7 a8 a9 : Option Vl} (hj : B[j]? = some (true, ws.map D.str)) (hl : ws.length < 26) (W : Word w) :
    ∃ w', Word w' ∧ w' ∉ ws ∧ wDup (sl10 i cnt j a4 (some (.d (.str w))) a6 a7 a8 a9) ⟨P, B⟩ = .nxt (sl10 i cnt j a4 (some (.d (.str w'))) a6 a7 a8 a9) ⟨P, B⟩ := by
  by_cases hw : w ∈ ws
  · obtain ⟨w', r, e1, e2, e3⟩ := fresh_letter ws hl
    refine ⟨w', e3, e2, ?_⟩
    have loop := loopL_map (chk := fun _ => true) (tg := gNm 9) (step := eltStep (tOf (eBin notInF (eVar 9) (eVar 3))) (eVar 9)) (σ := sl10 i cnt j a4 (some (.d (.str w))) a6 a7 a8 none) (S := ⟨P, B⟩) (outF ws) rfl (chrs ltrs) []
      (fun x hx => by
        rw [chrs_ltrs] at hx
        obtain ⟨v, hv, rfl⟩ := List.mem_map.mp hx
        refine ⟨_, rfl, fun acc _ hz => ?_⟩
        by_cases hm : v ∈ ws
        · simp [sl10, notInF_box (S := ⟨P, B⟩) hj, hm, outF]
        · have hz' : acc.length < sizeLine := by simp [outF, hm] at hz; omega
          simp [sl10, notInF_box (S := ⟨P, B⟩) hj, hm, outF, hz']) (by
        rw [chrs_ltrs, outF_map]
        have : (alone.filter fun x => decide (x ∉ ws)).length ≤ alone.length := List.length_filter_le _ _
        have h2 : alone.length = 26 := by decide +kernel
        simp only [List.nil_append, List.length_map]
        unfold sizeLine; omega)
    rw [chrs_ltrs, outF_map, e1] at loop
    simp only [List.nil_append, List.map_cons] at loop
    simp [wDup, sl10, inF_box (S := ⟨P, B⟩) hj, hw, wipeV, chrs_ltrs, -List.map_map]
    rw [show (sl10 i cnt j a4 (some (.d (.str w))) a6 a7 a8 none) = [some (Vl.box i), some (Vl.d (D.int cnt)), some (Vl.d (D.str ltrs)), some (Vl.box j), a4, some (Vl.d (D.str w)), a6, a7, a8, none] from rfl] at loop
    rw [loop]
    simp
  · exact ⟨w, W, hw, by simp [wDup, sl10, inF_box (S := ⟨P, B⟩) hj, hw]⟩
noncomputable def wBody : SV := (sSeq (sSet 5 (eCallF F__law_word [] (aCons (eVar 0) (aNil)))) (sSeq (sSet 6 (eCallF F__law_take [] (aCons (eVar 0) (aCons (eC (.int 4)) (aNil))))) (sSeq (sIf (tAndW (tOf (eBin neF (eVar 3) (eLst (aNil)))) (tOf (eBin gtF (eVar 6) (eC (.int 0))))) wNear (sNext)) (sSeq wDup (sExpr (eLm appendF (eVar 3) (eVar 5)))))))
theorem body_ok {P : List Ob} {B : Bx} {i : Nat} {n cnt : Int} {ws : List Str} {a4 a5 a6 a7 a8 a9 : Option Vl} (h : St3 B i n) (hn : n ≤ 2 ^ 28) (hl : ws.length < 26) (ww : ∀ w ∈ ws, Word w) :
    ∃ w B' b4 b5 b6 b7 b8 b9, Word w ∧ w ∉ ws ∧ Adv i B B' ∧ St3 B' i (n + 12) ∧ wBody (sl10 i cnt B.length a4 a5 a6 a7 a8 a9) ⟨P, B ++ [(true, ws.map D.str)]⟩ = .nxt (sl10 i cnt B.length b4 b5 b6 b7 b8 b9) ⟨P, B' ++ [(true, (ws ++ [w]).map D.str)]⟩ := by
  have hi := h.lt
  -- a box of the callers is drawn from: the words' box stays
  have lift : ∀ {B1 B2 : Bx} {C : Bx}, i < B1.length → Adv i (B1 ++ C) B2 → ∃ B3, B2 = B3 ++ C ∧ Adv i B1 B3 := by
    rintro B1 B2 C hi ⟨x, rfl⟩
    exact ⟨B1.set i x, by rw [List.set_append_left _ _ hi], ⟨x, rfl⟩⟩
  have down : ∀ {B1 C : Bx} {m : Int}, i < B1.length → St3 (B1 ++ C) i m → St3 B1 i m := by
    rintro B1 C m hi ⟨a, b, c, e, r⟩
    exact ⟨a, b, c, by rw [List.getElem?_append_left hi] at e; exact e, r⟩
  obtain ⟨w0, Ba, W0, A1, S1, E1⟩ := word_ok (P := P) (h.app (C := [(true, ws.map D.str)])) (by omega)
  obtain ⟨B1, rfl, A1'⟩ := lift hi A1
  have S1' := down (by rw [A1'.len]; exact hi) S1
  obtain ⟨d, Bb, d1, d2, A2, S2, E2⟩ := take_ok (P := P) S1 (by omega) (base := 4) (by omega) (by omega)
  obtain ⟨B2, rfl, A2'⟩ := lift (by rw [A1'.len]; exact hi) A2
  have S2' := down (by rw [A2'.len, A1'.len]; exact hi) S2
  have len2 : B2.length = B.length := by rw [A2'.len, A1'.len]
  have jx : (B2 ++ [(true, ws.map D.str)])[B.length]? = some (true, ws.map D.str) := by rw [← len2]; simp
  have hne : i ≠ B.length := by omega
  have eN : eLst aNil = fun σ S => Out.ok (.new []) S := by
    funext σ S
    simp [eLst]
  -- the near part
  have near : ∃ w1 B3 b4 b7 b8 b9, Word w1 ∧ Adv i (B2 ++ [(true, ws.map D.str)]) B3 ∧ St3 B3 i (n + 12) ∧
      (sIf (tAndW (tOf (eBin neF (eVar 3) (eLst (aNil)))) (tOf (eBin gtF (eVar 6) (eC (.int 0))))) wNear (sNext)) (sl10 i cnt B.length a4 (some (.d (.str w0))) (some (.d (.int d))) a7 a8 a9) ⟨P, B2 ++ [(true, ws.map D.str)]⟩ =
        .nxt (sl10 i cnt B.length b4 (some (.d (.str w1))) (some (.d (.int d))) b7 b8 b9) ⟨P, B3⟩ := by
    by_cases c : ws ≠ [] ∧ 0 < d
    · obtain ⟨w1, B3, b4, b7, b8, b9, q1, q2, q3, q4⟩ := near_ok (P := P) (cnt := cnt) (way := d) (a4 := a4) (a5 := some (.d (.str w0))) (a7 := a7) (a8 := a8) (a9 := a9) S2 (by omega) jx hne c.1 ww
      refine ⟨w1, B3, b4, b7, b8, b9, q1, q2, q3.mono (by omega), ?_⟩
      have ce : ws.isEmpty = false := by simpa using c.1
      have : sl10 i cnt B.length a4 (some (.d (.str w0))) (some (.d (.int d))) a7 a8 a9 = [some (.box i), some (.d (.int cnt)), some (.d (.str ltrs)), some (.box B.length), a4, some (.d (.str w0)), some (.d (.int d)), a7, a8, a9] := rfl
      simp only [sIf, tAndW, tOf, eBin, eVar, eN, eC, this, List.getElem?_cons_succ, List.getElem?_cons_zero, Out.bind_ok, frz_box, frz_new, neF_boxNil (S := ⟨P, B2 ++ [(true, ws.map D.str)]⟩) jx, ce, Bool.not_false, if_true, gtF_int, c.2, decide_true, frz_d, Out.stB_ok]
      rw [← this]; exact q4
    · refine ⟨w0, _, a4, a7, a8, a9, W0, ⟨_, (List.set_getElem_self (i := i) (by simp; omega)).symm⟩, S2.mono (by omega), ?_⟩
      by_cases c1 : ws = []
      · subst c1
        have z : neF (.box B.length) (.d (.lst [])) ⟨P, B2 ++ [(true, [])]⟩ = .ok (.d (.bl false)) ⟨P, B2 ++ [(true, [])]⟩ := neF_boxNil (ws := []) (S := ⟨P, B2 ++ [(true, [])]⟩) jx
        simp [sl10, eN, z]
      · have c2 : ¬ 0 < d := fun z => c ⟨c1, z⟩
        have ce : ws.isEmpty = false := by simpa using c1
        simp [sl10, eN, neF_boxNil (S := ⟨P, B2 ++ [(true, ws.map D.str)]⟩) jx, ce, c2]
  obtain ⟨w1, Bc, b4, b7, b8, b9, W1, A3, S3, E3⟩ := near
  obtain ⟨B3, rfl, A3'⟩ := lift (by rw [len2]; exact hi) A3
  have len3 : B3.length = B.length := by rw [A3'.len, len2]
  have jx3 : (B3 ++ [(true, ws.map D.str)])[B.length]? = some (true, ws.map D.str) := by rw [← len3]; simp
  obtain ⟨w2, W2, nin, E4⟩ := dup_ok (P := P) (i := i) (cnt := cnt) (a4 := b4) (a6 := some (.d (.int d))) (a7 := b7) (a8 := b8) (a9 := b9) jx3 hl W1
  refine ⟨w2, B3, b4, some (.d (.str w2)), some (.d (.int d)), b7, b8, b9, W2, nin, (A1'.trans A2').trans A3', down (by rw [len3]; exact hi) S3, ?_⟩
  unfold wBody
  have r1 : (sSet 5 (eCallF F__law_word [] (aCons (eVar 0) (aNil)))) (sl10 i cnt B.length a4 a5 a6 a7 a8 a9) ⟨P, B ++ [(true, ws.map D.str)]⟩ = .nxt (sl10 i cnt B.length a4 (some (.d (.str w0))) a6 a7 a8 a9) ⟨P, B1 ++ [(true, ws.map D.str)]⟩ := by simp [sl10, E1]
  have r2 : (sSet 6 (eCallF F__law_take [] (aCons (eVar 0) (aCons (eC (.int 4)) (aNil))))) (sl10 i cnt B.length a4 (some (.d (.str w0))) a6 a7 a8 a9) ⟨P, B1 ++ [(true, ws.map D.str)]⟩ = .nxt (sl10 i cnt B.length a4 (some (.d (.str w0))) (some (.d (.int d))) a7 a8 a9) ⟨P, B2 ++ [(true, ws.map D.str)]⟩ := by simp [sl10, E2]
  have seq : ∀ {A C : SV} {σ σ1 : Sl} {S S1 : Sta}, A σ S = .nxt σ1 S1 → sSeq A C σ S = C σ1 S1 := fun e => by simp only [sSeq, e, andThen_nxt]
  rw [seq r1, seq r2, seq E3, seq E4]
  have bo : boxOk (.box B.length) ⟨P, B3 ++ [(true, ws.map D.str)]⟩ = true := by
    unfold boxOk
    simp only [jx3]
  have sz : ws.length < sizeLine := by unfold sizeLine; omega
  simp [sl10, bo, jx3, sz, toD]
  rw [← len3]
  simp
theorem words_ok {P : List Ob} {B : Bx} {i : Nat} {n : Int} {cnt : Int} (h : St3 B i n) (hn : n ≤ 2 ^ 27) (h0 : 0 ≤ cnt) (h1 : cnt ≤ 20) :
    ∃ (ws : List Str) (B' : Bx), (ws.length : Int) = cnt ∧ ws.Nodup ∧ (∀ w ∈ ws, Word w) ∧ Adv i B B' ∧ St3 B' i (n + 240) ∧ F__law_words [.box i, .d (.int cnt)] ⟨P, B⟩ = .ok (.new (ws.map D.str)) ⟨P, B'⟩ := by
  have hi := h.lt
  have loop := forL_inv (chk := fun _ => true) (tg := gNm 4) (body := wBody) (fun r σ S => ∃ (B' : Bx) (ws : List Str) (b4 b5 b6 b7 b8 b9 : Option Vl), S = ⟨P, B' ++ [(true, ws.map D.str)]⟩ ∧ Adv i B B' ∧ St3 B' i (n + 12 * (ws.length : Nat)) ∧ σ = sl10 i cnt B.length b4 b5 b6 b7 b8 b9 ∧ ws.Nodup ∧ (∀ w ∈ ws, Word w) ∧ (ws.length : Int) + (r.length : Nat) = cnt)
    (fun _ _ _ _ => rfl) (by
      rintro x r σ S ⟨B1, ws, b4, b5, b6, b7, b8, b9, rfl, a1, s1, rfl, nd, ww, hl⟩
      have hl' : (ws.length : Int) + ((r.length : Nat) + 1) = cnt := by simpa using hl
      refine ⟨sl10 i cnt B.length (some (.d x)) b5 b6 b7 b8 b9, rfl, ?_⟩
      have lb : B.length = B1.length := a1.len.symm
      obtain ⟨w, B2, c4, c5, c6, c7, c8, c9, W, nin, a2, s2, e⟩ := body_ok (P := P) (B := B1) (cnt := cnt) (a4 := some (.d x)) (a5 := b5) (a6 := b6) (a7 := b7) (a8 := b8) (a9 := b9) s1 (by omega) (by omega) ww
      rw [← lb] at e
      refine ⟨_, _, .inl e, B2, ws ++ [w], c4, c5, c6, c7, c8, c9, rfl, a1.trans a2, s2.mono (by simp; omega), rfl, ?_, ?_, by simp; omega⟩
      · exact List.nodup_append.mpr ⟨nd, by simp, fun a ha b hb z => by
          have : b = w := by simpa using hb
          subst this; subst z; exact nin ha⟩
      · intro v hv
        rcases List.mem_append.mp hv with hv | hv
        · exact ww v hv
        · rw [List.mem_singleton.mp hv]; exact W) (rng cnt) (sl10 i cnt B.length none none none none none none) ⟨P, B ++ [(true, [])]⟩ ⟨B, [], none, none, none, none, none, none, rfl, ⟨_, (List.set_getElem_self (i := i) hi).symm⟩, by simpa using h, rfl, List.nodup_nil, by simp, by simp; omega⟩
  obtain ⟨σ', S', e1, B', ws, b4, b5, b6, b7, b8, b9, rfl, a1, s1, rfl, nd, ww, hl⟩ := loop
  have hl' : (ws.length : Int) = cnt := by simpa using hl
  refine ⟨ws, B', hl', nd, ww, a1, s1.mono (by omega), ?_⟩
  have eN : eLst aNil = fun σ S => Out.ok (.new []) S := by
    funext σ S
    simp [eLst]
  have tt : t__law_words = sSeq (sSet 2 (eC (.str "abcdefghijklmnopqrstuvwxyz"))) (sSeq (sSetB 3 (eLst (aNil))) (sSeq (sFor (iRan1 (aCons (eVar 1) (aNil))) (gNm 4) wBody) (sRet (eVar 3)))) := rfl
  have ltr : (Str.ofString "abcdefghijklmnopqrstuvwxyz") = ltrs := rfl
  have go : t__law_words [some (.box i), some (.d (.int cnt)), none, none, none, none, none, none, none, none] ⟨P, B⟩ = .ret (.box B.length) ⟨P, B' ++ [(true, ws.map D.str)]⟩ := by
    have f : ∀ (S : Sta), (sFor (iRan1 (aCons (eVar 1) (aNil))) (gNm 4) wBody) (sl10 i cnt B.length none none none none none none) S = forL (fun _ => true) (gNm 4) wBody (rng cnt) (sl10 i cnt B.length none none none none none none) S := by
      intro S
      simp [sl10, itemsR1_eq cnt S (by omega) (by omega)]
    have seq : ∀ {A C : SV} {σ σ1 : Sl} {S S1 : Sta}, A σ S = .nxt σ1 S1 → sSeq A C σ S = C σ1 S1 := fun e => by simp only [sSeq, e, andThen_nxt]
    have r1 : (sSet 2 (eC (.str "abcdefghijklmnopqrstuvwxyz"))) [some (.box i), some (.d (.int cnt)), none, none, none, none, none, none, none, none] ⟨P, B⟩ = .nxt [some (.box i), some (.d (.int cnt)), some (.d (.str ltrs)), none, none, none, none, none, none, none] ⟨P, B⟩ := by simp [ltr]
    have r2 : (sSetB 3 (eLst (aNil))) [some (.box i), some (.d (.int cnt)), some (.d (.str ltrs)), none, none, none, none, none, none, none] ⟨P, B⟩ = .nxt (sl10 i cnt B.length none none none none none none) ⟨P, B ++ [(true, [])]⟩ := by simp [eN, sl10]
    rw [tt, seq r1, seq r2, seq ((f _).trans e1)]
    simp [sl10]
  have jx : (B' ++ [(true, ws.map D.str)])[B.length]? = some (true, ws.map D.str) := by rw [← a1.len]; simp
  unfold F__law_words
  refine (mkFn_eq rfl).trans ?_
  show fin B.length (t__law_words [some (.box i), some (.d (.int cnt)), none, none, none, none, none, none, none, none] ⟨P, B⟩) = _
  rw [go, fin_box (by omega) jx, ← a1.len, cutB_app]
theorem Adv.lift {i : Nat} {B1 B2 C : Bx} (hi : i < B1.length) (h : Adv i (B1 ++ C) B2) : ∃ B3, B2 = B3 ++ C ∧ Adv i B1 B3 := by
  obtain ⟨x, rfl⟩ := h
  exact ⟨B1.set i x, by rw [List.set_append_left _ _ hi], ⟨x, rfl⟩⟩
theorem St3.down {i : Nat} {B1 C : Bx} {m : Int} (hi : i < B1.length) (h : St3 (B1 ++ C) i m) : St3 B1 i m := by
  obtain ⟨a, b, c, e, r⟩ := h
  exact ⟨a, b, c, by rw [List.getElem?_append_left hi] at e; exact e, r⟩
theorem Adv.refl {i : Nat} {B : Bx} (hi : i < B.length) : Adv i B B := ⟨_, (List.set_getElem_self (i := i) hi).symm⟩
structure Ent where
  name : Str
  uq : Bool
  refs : List (Str × Str)
def rD (r : Str × Str) : D := .tup [.str r.1, .str r.2]
def eD (e : Ent) : D := .tup [.str e.name, .bl e.uq, .tup (e.refs.map rD)]
def planD (p : List Ent) : D := .tup (p.map eD)
structure EntOk (names : List Str) (mc : Int) (e : Ent) : Prop where
  w : Word e.name
  len : (e.refs.length : Int) ≤ mc
  nd : (e.refs.map (·.1)).Nodup
  col : ∀ r ∈ e.refs, Word r.1 ∧ r.2 ∈ names
structure PlanOk (most mc : Int) (p : List Ent) : Prop where
  lo : 1 ≤ p.length
  hi : (p.length : Int) ≤ most
  nd : (p.map (·.name)).Nodup
  ent : ∀ e ∈ p, EntOk (p.map (·.name)) mc e
abbrev slT (i : Nat) (most mc : Int) (names : List Str) (k : Nat) (a5 a6 a7 a8 a9 : Option Vl) : Sl := [some (.box i), some (.d (.int most)), some (.d (.int mc)), some (.d (.lst (names.map D.str))), some (.box k), a5, a6, a7, a8, a9]
/-- the references of a table -/
theorem refs_ok {P : List Ob} {B C : Bx} {i k : Nat} {n most mc : Int} {names cols : List Str} {a5 a6 a8 a9 : Option Vl} (h : St3 B i n) (hn : n ≤ 2 ^ 27) (hnl : 1 ≤ names.length) (hnl2 : names.length ≤ 100) (hc : cols.length ≤ 100) :
    ∃ (rs : List (Str × Str)) (B' : Bx), rs.map (·.1) = cols ∧ (∀ r ∈ rs, r.2 ∈ names) ∧ Adv i B B' ∧ St3 B' i (n + 100) ∧
      (eLc [9] (iOf itemsA (eVar 7)) (gNm 9) (tTrue) (eTup (aCons (eVar 9) (aCons (eBin ixF (eVar 3) (eCallF F__law_take [] (aCons (eVar 0) (aCons (eCall lenF (aCons (eVar 3) (aNil))) (aNil))))) (aNil))))) (slT i most mc names k a5 a6 (some (.d (.lst (cols.map D.str)))) a8 a9) ⟨P, B ++ C⟩ =
        .ok (.new (rs.map rD)) ⟨P, B' ++ C⟩ := by
  have hi := h.lt
  have loop := loopL_inv (chk := fun _ => true) (tg := gNm 9) (step := eltStep tTrue (eTup (aCons (eVar 9) (aCons (eBin ixF (eVar 3) (eCallF F__law_take [] (aCons (eVar 0) (aCons (eCall lenF (aCons (eVar 3) (aNil))) (aNil))))) (aNil))))) (σ := slT i most mc names k a5 a6 (some (.d (.lst (cols.map D.str)))) a8 none)
    (fun r acc S => ∃ (rs : List (Str × Str)) (B' : Bx), S = ⟨P, B' ++ C⟩ ∧ acc = rs.map rD ∧ (rs.map (·.1)).map D.str ++ r = cols.map D.str ∧ (∀ r ∈ rs, r.2 ∈ names) ∧ Adv i B B' ∧ St3 B' i (n + (rs.length : Nat)) ∧ rs.length + r.length = cols.length)
    (fun _ _ _ _ => rfl) (by
      rintro x r acc S ⟨rs, B1, rfl, rfl, e1, hr, A1, S1, hl⟩
      have hl' : rs.length + (r.length + 1) = cols.length := by simpa using hl
      have hx : x ∈ cols.map D.str := by rw [← e1]; simp
      obtain ⟨c, hc', rfl⟩ := List.mem_map.mp hx
      obtain ⟨d, Bb, d1, d2, A2, S2, E2⟩ := take_ok (P := P) (S1.app (C := C)) (by omega) (base := (names.length : Nat)) (by omega) (by omega)
      obtain ⟨B2, rfl, A2'⟩ := A2.lift (by rw [A1.len]; exact hi)
      have S2' := S2.down (by rw [A2'.len, A1.len]; exact hi)
      obtain ⟨y, y1, y2⟩ := atI_of (names.map D.str) d d1 (by simpa using d2)
      obtain ⟨v, v1, rfl⟩ := List.mem_map.mp y2
      refine ⟨_, rfl, (rs ++ [(c, v)]).map rD, ⟨P, B2 ++ C⟩, ?_, rs ++ [(c, v)], B2, rfl, rfl, ?_, ?_, A1.trans A2', ?_, by simp; omega⟩
      · have hs : rs.length < sizeLine := by unfold sizeLine; omega
        simp [slT, E2, y1, hs, eTup, rD]
      · rw [← e1]; simp
      · intro q hq
        rcases List.mem_append.mp hq with hq | hq
        · exact hr q hq
        · rw [List.mem_singleton.mp hq]; exact v1
      · have : n + (rs.length : Int) + 1 = n + ((rs ++ [(c, v)]).length : Nat) := by simp; omega
        rw [← this]; exact S2') (cols.map D.str) [] ⟨P, B ++ C⟩ ⟨[], B, rfl, rfl, rfl, by simp, Adv.refl hi, by simpa using h, by simp⟩
  obtain ⟨acc, S', e1, rs, B', rfl, rfl, e2, hr, A1, S1, hl⟩ := loop
  have e3 : rs.map (·.1) = cols := by
    have : (rs.map (·.1)).map D.str = cols.map D.str := by simpa using e2
    exact (List.map_inj_right (fun a b h => by cases h; rfl)).mp this
  have hl' : rs.length = cols.length := by simpa using hl
  refine ⟨rs, B', e3, hr, A1, S1.mono (by omega), ?_⟩
  simp only [slT] at e1
  simp [slT, wipeV]
  rw [e1]
end Wk

set_option Elab.async false
set_option linter.all false
set_option maxRecDepth 100000
set_option maxHeartbeats 2000000
namespace Wk
open PySem PySem.Spec PyProof.Rows L2 Ev
open Classical
/-! a comprehension that leaves the state alone -/
theorem lc_map {chk : Sta → Bool} {tg : GV} {T : EV} {σ : Sl} {S : Sta} (f : D → D) {items : List D} (hc : chk S = true) (h : ∀ x ∈ items, ∃ σ1, tg x σ = some σ1 ∧ T σ1 S = .ok (.d (f x)) S) (hl : items.length ≤ sizeLine) :
    loopL chk tg (eltStep tTrue T) σ items [] S = .ok (items.map f) S := by
  have e : ∀ m : List D, m.flatMap (fun x => [f x]) = m.map f := fun m => by
    induction m with
    | nil => rfl
    | cons x r ih => rw [List.flatMap_cons, ih]; rfl
  have := loopL_map (chk := chk) (tg := tg) (step := eltStep tTrue T) (σ := σ) (S := S) (fun x => [f x]) hc items [] (fun x hx => by
    obtain ⟨σ1, e1, e2⟩ := h x hx
    refine ⟨σ1, e1, fun acc _ hz => ?_⟩
    have hz' : acc.length < sizeLine := by
      have : acc.length + 1 ≤ sizeLine := hz
      omega
    simp [e2, hz']) (by rw [e]; simpa using hl)
  rw [e] at this
  simpa using this
theorem all_bl (l : List D) (S : Sta) : allF [.d (.lst (l.map fun _ => D.bl true))] S = .ok (.d (.bl true)) S := by
  have e : (l.map fun _ => D.bl true) = (l.map fun _ => true).map D.bl := by simp
  rw [allF_lst, e, blsOf_map]
  have : ∀ m : List D, (m.map fun _ => true).all id = true := by
    intro m
    induction m with
    | nil => rfl
    | cons x r ih => simp
  dsimp only
  rw [this]
theorem inF_chr (c : Nat) (z : Str) (S : Sta) : inF (.d (.str (one c))) (.d (.str z)) S = .ok (.d (.bl (decide (c ∈ z.cps.toList)))) S := rfl
theorem inF_lst (w : Str) (ws : List Str) (S : Sta) : inF (.d (.str w)) (.d (.lst (ws.map D.str))) S = .ok (.d (.bl (decide (w ∈ ws)))) S := by
  have e : inB (.d (.str w)) (.d (.lst (ws.map D.str))) S = some (decide (w ∈ ws)) := by
    show (if flatD (.str w) = true ∧ (ws.map D.str).all flatD = true then some (inD (.str w) (ws.map D.str)) else none) = _
    rw [if_pos ⟨rfl, flats ws⟩, inD_strs]
  unfold inF
  rw [e]
/-! distinct texts -/
theorem metS_nodup (ys : List Str) (h : ys.Nodup) : ∀ i, i ≤ ys.length → metS ys i = ys.take i
  | 0, _ => by simp [metS]
  | i + 1, hi => by
    have e : ys[i]? = some ys[i] := List.getElem?_eq_getElem hi
    rw [metS_succ e, metS_nodup ys h i (by omega), List.take_add_one, e]
    unfold step_dedup
    rw [if_neg]
    · rfl
    · intro z
      obtain ⟨x, hx, e2⟩ := List.any_eq_true.mp z
      have e3 : x = ys[i] := by simpa using e2
      subst e3
      obtain ⟨j, hj, e4⟩ := List.mem_iff_getElem.mp hx
      simp only [List.getElem_take] at e4
      simp only [List.length_take] at hj
      have := (List.getElem_inj h).mp e4
      omega
theorem lenSet_ok (ys : List Str) (S : Sta) (h : ys.Nodup) (hl : ys.length < 4000) : lenSetF (.d (.lst (ys.map D.str))) S = .ok (.d (.int (ys.length : Nat))) S := by
  unfold lenSetF
  simp only [rdlOf_lst, strsOf_map]
  rw [if_pos (by unfold scanBound; omega), metS_nodup ys h _ (Nat.le_refl _), List.take_length]
/-! names, tables, plans are what they are -/
theorem is_name_ok {w : Str} (W : Word w) (S : Sta) : F_is_name [.d (.str w)] S = .ok (.d (.bl true)) S := by
  obtain ⟨P, B⟩ := S
  have lo := W.lo; have hi := W.hi
  have ne : w ≠ (Str.ofString "") := by
    intro e
    rw [e] at lo
    exact absurd lo (by decide +kernel)
  have sz : w.length ≤ sizeLine := le_sizeLine (by omega)
  have loop := lc_map (chk := fun _ => true) (tg := gNm 1) (T := eBin inF (eVar 1) (eC (.str (Str.ofString "abcdefghijklmnopqrstuvwxyz")))) (σ := [some (.d (.str w)), none]) (S := ⟨P, B⟩) (fun _ => D.bl true) (items := chrs w) rfl (fun x hx => by
    obtain ⟨c, hc, rfl⟩ := List.mem_map.mp hx
    refine ⟨_, rfl, ?_⟩
    have h2 : decide (c ∈ (Str.ofString "abcdefghijklmnopqrstuvwxyz").cps.toList) = true := decide_eq_true (W.ch c hc)
    have h3 : inF (.d (.str ⟨#[c]⟩)) (.d (.str (Str.ofString "abcdefghijklmnopqrstuvwxyz"))) ⟨P, B⟩ = .ok (.d (.bl true)) ⟨P, B⟩ := by
      have := inF_chr c (Str.ofString "abcdefghijklmnopqrstuvwxyz") ⟨P, B⟩
      rw [h2] at this
      exact this
    simp [h3]) (by simp [chrs]; exact sz)
  have h8 : ¬ (8 : Int) < (w.length : Nat) := by omega
  unfold F_is_name
  refine (mkFn_eq rfl).trans ?_
  simp only [t_is_name]
  simp [ne, sz, h8, isTab, wipeV]
  rw [loop]
  simp [all_bl, -allF_lst]
theorem is_ref_ok {r : Str × Str} (h1 : Word r.1) (h2 : Word r.2) (S : Sta) : F_is_reference [.d (rD r)] S = .ok (.d (.bl true)) S := by
  obtain ⟨P, B⟩ := S
  unfold F_is_reference
  refine (mkFn_eq rfl).trans ?_
  simp only [t_is_reference]
  simp [rD, isTab, is_name_ok h1, is_name_ok h2]
theorem is_table_ok {names : List Str} {e : Ent} (h : EntOk names 3 e) (hn : ∀ n ∈ names, Word n) (S : Sta) : F_is_table [.d (eD e)] S = .ok (.d (.bl true)) S := by
  obtain ⟨P, B⟩ := S
  have hl : (e.refs.length : Int) ≤ 3 := h.len
  have sz : e.refs.length ≤ sizeLine := le_sizeLine (by omega)
  have l1 := lc_map (chk := fun _ => true) (tg := gNm 4) (T := eCallF F_is_reference [] (aCons (eVar 4) (aNil))) (σ := [some (.d (eD e)), some (.d (.str e.name)), some (.d (.bl e.uq)), some (.d (.tup (e.refs.map rD))), none]) (S := ⟨P, B⟩) (fun _ => D.bl true) (items := e.refs.map rD) rfl (fun x hx => by
    obtain ⟨r, hr, rfl⟩ := List.mem_map.mp hx
    refine ⟨_, rfl, ?_⟩
    simp [is_ref_ok (h.col r hr).1 (hn _ (h.col r hr).2)]) (by simpa using sz)
  have l2 := lc_map (chk := fun _ => true) (tg := gNm 4) (T := eBin ixF (eVar 4) (eC (.int 0))) (σ := [some (.d (eD e)), some (.d (.str e.name)), some (.d (.bl e.uq)), some (.d (.tup (e.refs.map rD))), none]) (S := ⟨P, B⟩) (fun x => match x with | .tup (y :: _) => y | _ => .non) (items := e.refs.map rD) rfl (fun x hx => by
    obtain ⟨r, hr, rfl⟩ := List.mem_map.mp hx
    refine ⟨_, rfl, ?_⟩
    simp [rD]) (by simpa using sz)
  have e2 : (e.refs.map rD).map (fun x => match x with | .tup (y :: _) => y | _ => .non) = (e.refs.map (·.1)).map D.str := by
    rw [List.map_map, List.map_map]; rfl
  rw [e2] at l2
  have h3 : ¬ (3 : Int) < (e.refs.length : Nat) := by omega
  unfold F_is_table
  refine (mkFn_eq rfl).trans ?_
  simp only [t_is_table]
  have l1' := l1
  simp only [eD] at l1' l2
  simp [eD, isTab, is_name_ok h.w, h3, wipeV, -List.map_map]
  rw [l1']
  simp [all_bl, -allF_lst, -List.map_map]
  rw [l2]
  have l3 := lenSet_ok (e.refs.map (·.1)) ⟨P, B⟩ h.nd (by simp; omega)
  simp [l3, -List.map_map]
end Wk

set_option Elab.async false
set_option linter.all false
set_option maxRecDepth 100000
set_option maxHeartbeats 2000000
namespace Wk
open PySem PySem.Spec PyProof.Rows L2 Ev
open Classical
theorem okD_ref (n : Nat) (r : Str × Str) : okD (n + 1) (rD r) = true := by
  cases n <;> rfl
theorem okD_ent (n : Nat) (e : Ent) : okD (n + 3) (eD e) = true := by
  show okDs (n + 2) [.str e.name, .bl e.uq, .tup (e.refs.map rD)] = true
  refine okDs_iff.mpr fun x hx => ?_
  simp only [List.mem_cons, List.not_mem_nil, or_false] at hx
  rcases hx with rfl | rfl | rfl
  · rfl
  · rfl
  · show okDs (n + 1) (e.refs.map rD) = true
    refine okDs_iff.mpr fun x hx => ?_
    obtain ⟨r, _, rfl⟩ := List.mem_map.mp hx
    exact okD_ref n r
theorem okD_plan (n : Nat) (p : List Ent) : okD (n + 4) (planD p) = true := by
  show okDs (n + 3) (p.map eD) = true
  refine okDs_iff.mpr fun x hx => ?_
  obtain ⟨r, _, rfl⟩ := List.mem_map.mp hx
  exact okD_ent n r
theorem PlanOk.words {most mc : Int} {p : List Ent} (h : PlanOk most mc p) : ∀ n ∈ p.map (·.name), Word n := fun n hn => by
  obtain ⟨e, he, rfl⟩ := List.mem_map.mp hn
  exact (h.ent e he).w
theorem eTup_nil : eTup aNil = fun (σ : Sl) S => Out.ok (.d (.tup [])) S := by
  funext σ S
  have : 0 ≤ sizeLine := Nat.zero_le _
  simp [eTup]
theorem is_plan_ok {p : List Ent} (h : PlanOk 5 3 p) (S : Sta) : F_is_plan [.d (planD p)] S = .ok (.d (.bl true)) S := by
  obtain ⟨P, B⟩ := S
  have lo := h.lo
  have hi : (p.length : Int) ≤ 5 := h.hi
  have sz : p.length ≤ sizeLine := le_sizeLine (by omega)
  have l1 := lc_map (chk := fun _ => true) (tg := gNm 1) (T := eCallF F_is_table [] (aCons (eVar 1) (aNil))) (σ := [some (.d (planD p)), none]) (S := ⟨P, B⟩) (fun _ => D.bl true) (items := p.map eD) rfl (fun x hx => by
    obtain ⟨e, he, rfl⟩ := List.mem_map.mp hx
    refine ⟨_, rfl, ?_⟩
    simp [is_table_ok (h.ent e he) h.words]) (by simpa using sz)
  have l2 := lc_map (chk := fun _ => true) (tg := gNm 1) (T := eBin ixF (eVar 1) (eC (.int 0))) (σ := [some (.d (planD p)), none]) (S := ⟨P, B⟩) (fun x => match x with | .tup (y :: _) => y | _ => .non) (items := p.map eD) rfl (fun x hx => by
    obtain ⟨r, hr, rfl⟩ := List.mem_map.mp hx
    refine ⟨_, rfl, ?_⟩
    simp [eD]) (by simpa using sz)
  have e2 : (p.map eD).map (fun x => match x with | .tup (y :: _) => y | _ => .non) = (p.map (·.name)).map D.str := by
    rw [List.map_map, List.map_map]; rfl
  rw [e2] at l2
  have h3 : ¬ (5 : Int) < (p.length : Nat) := by omega
  have ne : eqF (.d (planD p)) (.d (.tup [])) ⟨P, B⟩ = .ok (.d (.bl false)) ⟨P, B⟩ := by
    rw [eqF_d, if_pos ⟨okD_plan 56 p, rfl⟩]
    cases p with
    | nil => simp at lo
    | cons e r => rfl
  unfold F_is_plan
  refine (mkFn_eq rfl).trans ?_
  simp only [t_is_plan, eTup_nil]
  have ty : tyN (.d (planD p)) ⟨P, B⟩ = some "tuple" := rfl
  have ln : lenF [.d (planD p)] ⟨P, B⟩ = .ok (.d (.int (p.length : Nat))) ⟨P, B⟩ := by simp [planD]
  have it : itemsA (.d (planD p)) ⟨P, B⟩ = .ok (p.map eD, fun _ => true) ⟨P, B⟩ := rfl
  simp [ty, ln, it, isTab, ne, h3, wipeV, -List.map_map]
  rw [l1]
  simp [all_bl, -allF_lst, -List.map_map, ln, it, wipeV]
  rw [l2]
  have l3 := lenSet_ok (p.map (·.name)) ⟨P, B⟩ h.nd (by simp; omega)
  simp [l3, -List.map_map, ln]
/-! Schema(plan) -/
def schO (p : List Ent) : Ob := .ins "Schema" [("plan", planD p)]
/-- a comprehension of two clauses -/
theorem lc2_map {chk : Sta → Bool} {tg Gt1 : GV} {I1 : IV} {T : EV} {vs1 : List Nat} {σ : Sl} {S : Sta} (f : D → List D) {items : List D} (hc : chk S = true)
    (h : ∀ x ∈ items, ∃ σ1 its chk1, tg x σ = some σ1 ∧ I1 σ1 S = .ok (its, chk1) S ∧ chk1 S = true ∧ ∃ g : D → D, f x = its.map g ∧ ∀ y ∈ its, ∃ σ2, Gt1 y (wipeV σ1 vs1) = some σ2 ∧ T σ2 S = .ok (.d (g y)) S) (hl : (items.flatMap f).length ≤ sizeLine) :
    loopL chk tg (innerStep tTrue vs1 I1 Gt1 tTrue T) σ items [] S = .ok (items.flatMap f) S := by
  have := loopL_map (chk := chk) (tg := tg) (step := innerStep tTrue vs1 I1 Gt1 tTrue T) (σ := σ) (S := S) f hc items [] (fun x hx => by
    obtain ⟨σ1, its, chk1, e1, e2, e3, g, e4, e5⟩ := h x hx
    refine ⟨σ1, e1, fun acc _ hz => ?_⟩
    have inner := loopL_map (chk := chk1) (tg := Gt1) (step := eltStep tTrue T) (σ := wipeV σ1 vs1) (S := S) (fun y => [g y]) e3 its acc (fun y hy => by
      obtain ⟨σ2, q1, q2⟩ := e5 y hy
      refine ⟨σ2, q1, fun acc _ hz => ?_⟩
      have hz' : acc.length < sizeLine := by
        have : acc.length + 1 ≤ sizeLine := hz
        omega
      simp [q2, hz']) (by
        have : its.flatMap (fun y => [g y]) = its.map g := by
          have : ∀ m : List D, m.flatMap (fun x => [g x]) = m.map g := fun m => by
            induction m with
            | nil => rfl
            | cons x r ih => rw [List.flatMap_cons, ih]; rfl
          exact this its
        rw [this, ← e4, List.length_append]; exact hz)
    have e6 : its.flatMap (fun y => [g y]) = its.map g := by
      have : ∀ m : List D, m.flatMap (fun x => [g x]) = m.map g := fun m => by
        induction m with
        | nil => rfl
        | cons x r ih => rw [List.flatMap_cons, ih]; rfl
      exact this its
    rw [e6, ← e4] at inner
    show (match tTrue σ1 S with
      | .ok true S1 => match I1 σ1 S1 with
        | .ok p S2 => loopL p.2 Gt1 (eltStep tTrue T) (wipeV σ1 vs1) p.1 acc S2
        | _ => .bad
      | .ok false S1 => .ok acc S1
      | _ => .bad) = _
    dsimp only [tTrue]
    rw [e2]
    exact inner) (by simpa using hl)
  simpa using this
end Wk

set_option Elab.async false
set_option linter.all false
set_option maxRecDepth 100000
set_option maxHeartbeats 2000000
/-! what is_name .. is_plan, Schema answer at any plain data -/
namespace Wk
open PySem PySem.Spec PyProof.Rows L2 Ev
open Classical
/- short texts, lists and tuples, nothing else: what the law passes -/
mutual
def tame : Nat → D → Bool
  | _, .non => true
  | _, .bl _ => true
  | _, .int _ => true
  | _, .str x => decide (x.length ≤ 1000)
  | 0, .tup _ => false
  | n + 1, .tup l => tames n l
  | 0, .lst _ => false
  | n + 1, .lst l => tames n l
  | _, _ => false
def tames : Nat → List D → Bool
  | _, [] => true
  | n, x :: r => tame n x && tames n r
end
theorem tames_iff {n : Nat} : ∀ {l : List D}, tames n l = true ↔ ∀ x ∈ l, tame n x = true
  | [] => by simp [tames]
  | x :: r => by simp [tames, tames_iff (l := r)]
mutual
theorem tame_ok : ∀ (n : Nat) (x : D), tame n x = true → okD n x = true
  | _, .non, _ => by simp [okD]
  | _, .bl _, _ => by simp [okD]
  | _, .int _, _ => by simp [okD]
  | _, .str _, _ => by simp [okD]
  | 0, .tup _, h => by simp [tame] at h
  | n + 1, .tup l, h => tames_ok n l (by simpa [tame] using h)
  | 0, .lst _, h => by simp [tame] at h
  | n + 1, .lst l, h => tames_ok n l (by simpa [tame] using h)
  | 0, .scr _, h => by simp [tame] at h
  | n + 1, .scr l, h => by simp [tame] at h
  | _, .obj _, h => by simp [tame] at h
  | _, .ty _, h => by simp [tame] at h
  | _, .cl _, h => by simp [tame] at h
theorem tames_ok : ∀ (n : Nat) (l : List D), tames n l = true → okDs n l = true
  | _, [], _ => by simp [okDs]
  | n, x :: r, h => by
    simp only [tames, Bool.and_eq_true] at h
    simp only [okDs, Bool.and_eq_true]
    exact ⟨tame_ok n x h.1, tames_ok n r h.2⟩
end
mutual
theorem okD_mono : ∀ (n m : Nat) (x : D), n ≤ m → okD n x = true → okD m x = true
  | _, m, .non, _, _ => by cases m <;> simp [okD]
  | _, m, .bl _, _, _ => by cases m <;> simp [okD]
  | _, m, .int _, _, _ => by cases m <;> simp [okD]
  | _, m, .str _, _, _ => by cases m <;> simp [okD]
  | 0, _, .tup _, _, h => by simp [okD] at h
  | n + 1, 0, .tup l, hm, h => by omega
  | n + 1, m + 1, .tup l, hm, h => okDs_mono n m l (by omega) (by simpa [okD] using h)
  | 0, _, .lst _, _, h => by simp [okD] at h
  | n + 1, 0, .lst l, hm, h => by omega
  | n + 1, m + 1, .lst l, hm, h => okDs_mono n m l (by omega) (by simpa [okD] using h)
  | 0, _, .scr _, _, h => by simp [okD] at h
  | n + 1, 0, .scr l, hm, h => by omega
  | n + 1, m + 1, .scr l, hm, h => okDs_mono n m l (by omega) (by simpa [okD] using h)
  | _, _, .obj _, _, h => by simp [okD] at h
  | _, _, .ty _, _, h => by simp [okD] at h
  | _, _, .cl _, _, h => by simp [okD] at h
theorem okDs_mono : ∀ (n m : Nat) (l : List D), n ≤ m → okDs n l = true → okDs m l = true
  | _, _, [], _, _ => by simp [okDs]
  | n, m, x :: r, hm, h => by
    simp only [okDs, Bool.and_eq_true] at h ⊢
    exact ⟨okD_mono n m x hm h.1, okDs_mono n m r hm h.2⟩
end
noncomputable def nameB : D → Bool
  | .str w => decide (Word w)
  | _ => false
noncomputable def refB : D → Bool
  | .tup [a, b] => nameB a && nameB b
  | _ => false
/-- what stands first, or nothing -/
def head0 : D → D
  | .tup (x :: _) => x
  | _ => .non
noncomputable def distinct (l : List D) : Bool := decide ((l.map head0).Nodup)
def isBl : D → Bool
  | .bl _ => true
  | _ => false
noncomputable def tabB : D → Bool
  | .tup [n, u, .tup rs] => nameB n && (isBl u && (decide (rs.length ≤ 3) && (rs.all refB && distinct rs)))
  | _ => false
noncomputable def planB : D → Bool
  | .tup ts => !ts.isEmpty && (decide (ts.length ≤ 5) && (ts.all tabB && distinct ts))
  | _ => false
/-- comprehensions whose tests tell a Bool for each item -/
theorem all_map (l : List D) (f : D → Bool) (S : Sta) : allF [.d (.lst (l.map fun x => D.bl (f x)))] S = .ok (.d (.bl (l.all f))) S := by
  have e : (l.map fun x => D.bl (f x)) = (l.map f).map D.bl := by simp
  rw [allF_lst, e, blsOf_map]
  dsimp only
  rw [List.all_map]; rfl
theorem word_iff (w : Str) : Word w ↔ 1 ≤ w.length ∧ w.length ≤ 8 ∧ ∀ c ∈ w.cps.toList, c ∈ ltrs.cps.toList := ⟨fun h => ⟨h.lo, h.hi, h.ch⟩, fun h => ⟨h.1, h.2.1, h.2.2⟩⟩
theorem tyN_tame {n : Nat} {x : D} (h : tame n x = true) (S : Sta) : ∃ t, tyN (.d x) S = some t ∧ ∀ b ∈ ["str", "tuple", "bool"], ∃ r, isTab t b = some r := by
  cases x with
  | non => exact ⟨_, rfl, by decide⟩
  | bl b => exact ⟨_, rfl, by decide⟩
  | int i => exact ⟨_, rfl, by decide⟩
  | str x => exact ⟨_, rfl, by decide⟩
  | tup l => exact ⟨_, rfl, by decide⟩
  | lst l => exact ⟨_, rfl, by decide⟩
  | scr l => cases n <;> simp [tame] at h
  | obj i => cases n <;> simp [tame] at h
  | ty s => cases n <;> simp [tame] at h
  | cl a => cases n <;> simp [tame] at h
theorem is_name_gen {n : Nat} {x : D} (h : tame n x = true) (S : Sta) : F_is_name [.d x] S = .ok (.d (.bl (nameB x))) S := by
  obtain ⟨P, B⟩ := S
  have no : ∀ t, tyN (.d x) ⟨P, B⟩ = some t → isTab t "str" = some false → nameB x = false → F_is_name [.d x] ⟨P, B⟩ = .ok (.d (.bl (nameB x))) ⟨P, B⟩ := by
    intro t h1 h2 h3
    rw [h3]
    unfold F_is_name
    refine (mkFn_eq rfl).trans ?_
    simp only [t_is_name]
    simp [h1, h2]
  cases x with
  | non => exact no _ rfl rfl rfl
  | bl b => exact no _ rfl rfl rfl
  | int i => exact no _ rfl rfl rfl
  | tup l => exact no _ rfl rfl rfl
  | lst l => exact no _ rfl rfl rfl
  | scr l => cases n <;> simp [tame] at h
  | obj i => cases n <;> simp [tame] at h
  | ty s => cases n <;> simp [tame] at h
  | cl a => cases n <;> simp [tame] at h
  | str w =>
    have hw : w.length ≤ 1000 := by cases n <;> simpa [tame] using h
    by_cases W : Word w
    · rw [is_name_ok W]
      simp [nameB, W]
    · have nb : nameB (.str w) = false := by simp [nameB, W]
      rw [nb]
      have sz : w.length ≤ sizeLine := le_sizeLine (by omega)
      by_cases e0 : w = Str.ofString ""
      · unfold F_is_name
        refine (mkFn_eq rfl).trans ?_
        simp only [t_is_name]
        simp [e0, isTab]
      · by_cases h8 : (8 : Int) < (w.length : Nat)
        · unfold F_is_name
          refine (mkFn_eq rfl).trans ?_
          simp only [t_is_name]
          simp [e0, isTab, sz, h8]
        · have loop := lc_map (chk := fun _ => true) (tg := gNm 1) (T := eBin inF (eVar 1) (eC (.str (Str.ofString "abcdefghijklmnopqrstuvwxyz")))) (σ := [some (.d (.str w)), none]) (S := ⟨P, B⟩) (fun x => match x with | .str y => D.bl (decide (y.cps[0]! ∈ ltrs.cps.toList)) | _ => .non) (items := chrs w) rfl (fun x hx => by
            obtain ⟨c, hc, rfl⟩ := List.mem_map.mp hx
            refine ⟨_, rfl, ?_⟩
            have h3 : inF (.d (.str ⟨#[c]⟩)) (.d (.str (Str.ofString "abcdefghijklmnopqrstuvwxyz"))) ⟨P, B⟩ = .ok (.d (.bl (decide (c ∈ ltrs.cps.toList)))) ⟨P, B⟩ := inF_chr c ltrs ⟨P, B⟩
            simp [h3]) (by simp [chrs]; exact sz)
          have e1 : (chrs w).map (fun x => match x with | .str y => D.bl (decide (y.cps[0]! ∈ ltrs.cps.toList)) | _ => .non) = (w.cps.toList.map fun c : Nat => D.int (c : Int)).map fun x => D.bl (match x with | .int c => decide (c.toNat ∈ ltrs.cps.toList) | _ => false) := by
            unfold chrs
            rw [List.map_map, List.map_map]
            refine List.map_congr_left fun c _ => ?_
            simp
          rw [e1] at loop
          have bad : ((w.cps.toList.map fun c : Nat => D.int (c : Int)).all fun x => match x with | .int c => decide (c.toNat ∈ ltrs.cps.toList) | _ => false) = false := by
            rw [Bool.eq_false_iff]
            intro z
            apply W
            rw [word_iff]
            refine ⟨?_, by omega, fun c hc => ?_⟩
            · by_cases hl : 1 ≤ w.length
              · exact hl
              · exfalso
                apply e0
                have : w.cps.size = 0 := by show w.length = 0; omega
                have : w.cps = #[] := Array.eq_empty_of_size_eq_zero this
                cases w
                simp only at this
                subst this
                decide +kernel
            · have := List.all_eq_true.mp z (.int c) (List.mem_map_of_mem (f := fun c : Nat => D.int (c : Int)) hc)
              simpa using this
          unfold F_is_name
          refine (mkFn_eq rfl).trans ?_
          simp only [t_is_name]
          simp [e0, isTab, sz, h8, wipeV, -List.map_map]
          rw [loop]
          simp only [Out.bind_ok, frz_new, all_map, bad, Out.st_ok, fin_d, cutB_self]
end Wk

set_option Elab.async false
set_option linter.all false
set_option maxRecDepth 100000
set_option maxHeartbeats 2000000
namespace Wk
open PySem PySem.Spec PyProof.Rows L2 Ev
open Classical
theorem is_ref_gen {n : Nat} {x : D} (h : tame (n + 1) x = true) (S : Sta) : F_is_reference [.d x] S = .ok (.d (.bl (refB x))) S := by
  obtain ⟨P, B⟩ := S
  have no : ∀ t, tyN (.d x) ⟨P, B⟩ = some t → isTab t "tuple" = some false → refB x = false → F_is_reference [.d x] ⟨P, B⟩ = .ok (.d (.bl (refB x))) ⟨P, B⟩ := by
    intro t h1 h2 h3
    rw [h3]
    unfold F_is_reference
    refine (mkFn_eq rfl).trans ?_
    simp only [t_is_reference]
    simp [h1, h2]
  cases x with
  | non => exact no _ rfl rfl rfl
  | bl b => exact no _ rfl rfl rfl
  | int i => exact no _ rfl rfl rfl
  | str w => exact no _ rfl rfl rfl
  | lst l => exact no _ rfl rfl rfl
  | scr l => simp [tame] at h
  | obj i => simp [tame] at h
  | ty s => simp [tame] at h
  | cl a => simp [tame] at h
  | tup l =>
    have hl : tames n l = true := by simpa [tame] using h
    unfold F_is_reference
    refine (mkFn_eq rfl).trans ?_
    simp only [t_is_reference]
    match l, hl with
    | [], _ => simp [isTab, refB]
    | [a], _ => simp [isTab, refB]
    | [a, b], hl =>
      simp only [tames, Bool.and_eq_true] at hl
      simp [isTab, refB, is_name_gen hl.1, is_name_gen hl.2.1]
      cases nameB a <;> simp
    | a :: b :: c :: r, _ =>
      have : ¬ ((r.length : Int) + 1 + 1 + 1 = 2) := by omega
      simp [isTab, refB, this]
theorem metS_full (xs : List Str) : ∀ i, i ≤ xs.length → (metS xs i).length = i → (xs.take i).Nodup ∧ metS xs i = xs.take i
  | 0, _, _ => by simp [metS]
  | i + 1, hi, hm => by
    have e : xs[i]? = some xs[i] := List.getElem?_eq_getElem hi
    rw [metS_succ e, stepS_len] at hm
    have le := metS_len xs i (by omega)
    split at hm
    · omega
    · rename_i c
      obtain ⟨h1, h2⟩ := metS_full xs i (by omega) (by omega)
      have e3 : xs.take (i + 1) = xs.take i ++ [xs[i]] := by rw [List.take_add_one, e]; rfl
      refine ⟨?_, ?_⟩
      · rw [e3]
        refine List.nodup_append.mpr ⟨h1, by simp, fun a ha b hb z => ?_⟩
        have : b = xs[i] := by simpa using hb
        subst this; subst z
        apply c
        rw [h2]
        exact List.any_eq_true.mpr ⟨_, ha, by simp⟩
      · rw [metS_succ e, e3]
        unfold step_dedup
        rw [if_neg c, h2]
theorem lenSet_dec (ys : List Str) : ((metS ys ys.length).length = ys.length) ↔ ys.Nodup := by
  constructor
  · intro h
    have := (metS_full ys ys.length (Nat.le_refl _) h).1
    rwa [List.take_length] at this
  · intro h
    rw [metS_nodup ys h _ (Nat.le_refl _), List.take_length]
theorem distinct_strs {l : List D} {ys : List Str} (h : l.map head0 = ys.map D.str) : distinct l = decide ys.Nodup := by
  unfold distinct
  rw [h]
  by_cases n : ys.Nodup
  · rw [decide_eq_true n, decide_eq_true]
    exact n.map D.str (fun a b z w => z (by cases w; rfl))
  · rw [decide_eq_false n, decide_eq_false]
    intro z
    exact n ((List.pairwise_map.mp z).imp fun h e => h (by rw [e]))
/-- len(set([one[0] for one in l])) == len(l) -/
theorem set_eq {ys : List Str} {l : List D} (h : l.map head0 = ys.map D.str) (hl : l.length ≤ 1000) (P : List Ob) (B : Bx) : lenSetF (.d (.lst (l.map head0))) ⟨P, B⟩ = .ok (.d (.int ((metS ys ys.length).length : Nat))) ⟨P, B⟩ ∧ decide ((((metS ys ys.length).length : Nat) : Int) = (l.length : Nat)) = distinct l := by
  have e : ys.length = l.length := by
    have := congrArg List.length h
    simpa using this.symm
  refine ⟨?_, ?_⟩
  · rw [h]
    unfold lenSetF
    simp only [rdlOf_lst, strsOf_map]
    rw [if_pos (by unfold scanBound; omega)]
  · rw [distinct_strs h, ← e]
    have := lenSet_dec ys
    by_cases n : ys.Nodup
    · rw [decide_eq_true n, decide_eq_true]
      rw [this.mpr n]
    · rw [decide_eq_false n, decide_eq_false]
      intro z
      exact n (this.mp (by omega))
theorem ref_heads : ∀ {rs : List D}, rs.all refB = true → ∃ ys : List Str, rs.map head0 = ys.map D.str
  | [], _ => ⟨[], rfl⟩
  | x :: r, h => by
    simp only [List.all_cons, Bool.and_eq_true] at h
    obtain ⟨ys, e⟩ := ref_heads h.2
    obtain ⟨w, ew⟩ : ∃ w, head0 x = .str w := by
      have h1 := h.1
      unfold refB at h1
      split at h1
      · rename_i a b
        rw [Bool.and_eq_true] at h1
        unfold nameB at h1
        cases a <;> simp at h1
        exact ⟨_, rfl⟩
      · cases h1
    exact ⟨w :: ys, by rw [List.map_cons, ew, e]; rfl⟩
theorem isTy_bl {n : Nat} {u : D} (h : tame n u = true) (σ : Sl) (i : Nat) (P : List Ob) (B : Bx) (hi : σ[i]? = some (some (.d u))) : eIsTy "bool" (eVar i) σ ⟨P, B⟩ = .ok (.d (.bl (isBl u))) ⟨P, B⟩ := by
  cases u with
  | non => simp [hi, isTab, isBl]
  | bl b => simp [hi, isTab, isBl]
  | int i => simp [hi, isTab, isBl]
  | str x => simp [hi, isTab, isBl]
  | tup l => simp [hi, isTab, isBl]
  | lst l => simp [hi, isTab, isBl]
  | scr l => cases n <;> simp [tame] at h
  | obj i => cases n <;> simp [tame] at h
  | ty s => cases n <;> simp [tame] at h
  | cl a => cases n <;> simp [tame] at h
theorem isTy_tup {n : Nat} {u : D} (h : tame n u = true) (σ : Sl) (i : Nat) (P : List Ob) (B : Bx) (hi : σ[i]? = some (some (.d u))) : eIsTy "tuple" (eVar i) σ ⟨P, B⟩ = .ok (.d (.bl (match u with | .tup _ => true | _ => false))) ⟨P, B⟩ := by
  cases u with
  | non => simp [hi, isTab]
  | bl b => simp [hi, isTab]
  | int i => simp [hi, isTab]
  | str x => simp [hi, isTab]
  | tup l => simp [hi, isTab]
  | lst l => simp [hi, isTab]
  | scr l => cases n <;> simp [tame] at h
  | obj i => cases n <;> simp [tame] at h
  | ty s => cases n <;> simp [tame] at h
  | cl a => cases n <;> simp [tame] at h
theorem is_table_gen {n : Nat} {x : D} (h : tame (n + 3) x = true) (S : Sta) : F_is_table [.d x] S = .ok (.d (.bl (tabB x))) S := by
  obtain ⟨P, B⟩ := S
  unfold F_is_table
  refine (mkFn_eq rfl).trans ?_
  show fin B.length (t_is_table [some (.d x), none, none, none, none] ⟨P, B⟩) = _
  have no : ∀ t, tyN (.d x) ⟨P, B⟩ = some t → isTab t "tuple" = some false → tabB x = false → fin B.length (t_is_table [some (.d x), none, none, none, none] ⟨P, B⟩) = .ok (.d (.bl (tabB x))) ⟨P, B⟩ := by
    intro t h1 h2 h3
    rw [h3]
    simp only [t_is_table]
    simp [h1, h2]
  have bad : ∀ l : List D, l.length ≠ 3 → tabB (.tup l) = false → fin B.length (t_is_table [some (.d (.tup l)), none, none, none, none] ⟨P, B⟩) = .ok (.d (.bl (tabB (.tup l)))) ⟨P, B⟩ := by
    intro l h1 h3
    have h4 : ¬ (l.length : Int) = 3 := by omega
    rw [h3]
    simp only [t_is_table]
    simp [isTab, h4]
  cases x with
  | non => exact no _ rfl rfl rfl
  | bl b => exact no _ rfl rfl rfl
  | int i => exact no _ rfl rfl rfl
  | str w => exact no _ rfl rfl rfl
  | lst l => exact no _ rfl rfl rfl
  | scr l => simp [tame] at h
  | obj i => simp [tame] at h
  | ty s => simp [tame] at h
  | cl a => simp [tame] at h
  | tup l =>
    have hl : tames (n + 2) l = true := by simpa [tame] using h
    match l, hl with
    | [], _ => exact bad _ (by simp) rfl
    | [_], _ => exact bad _ (by simp) rfl
    | [_, _], _ => exact bad _ (by simp) rfl
    | _ :: _ :: _ :: _ :: _, _ => exact bad _ (by simp) (by simp [tabB])
    | [a, u, r], hl =>
      simp only [tames, Bool.and_eq_true] at hl
      obtain ⟨ha, hu, hr, _⟩ := hl
      let σ1 : Sl := [some (.d (.tup [a, u, r])), some (.d a), some (.d u), some (.d r), none]
      have x1 : (sIf (tOrW (tNotW (tOf (eIsTy "tuple" (eVar 0)))) (tOf (eBin neF (eCall lenF (aCons (eVar 0) (aNil))) (eC (.int 3))))) (sRet (eC (.bl false))) (sNext)) [some (.d (.tup [a, u, r])), none, none, none, none] ⟨P, B⟩ = .nxt [some (.d (.tup [a, u, r])), none, none, none, none] ⟨P, B⟩ := by simp [isTab]
      have x2 : (sUnp (gTp 3 (gMore (gNm 1) (gMore (gNm 2) (gMore (gNm 3) (gNone))))) (eVar 0)) [some (.d (.tup [a, u, r])), none, none, none, none] ⟨P, B⟩ = .nxt σ1 ⟨P, B⟩ := by simp [σ1]
      have tu := isTy_bl hu σ1 2 P B rfl
      have tr := isTy_tup hr σ1 3 P B rfl
      let rest1 : SV := sIf (tOrW (tNotW (tOf (eIsTy "tuple" (eVar 3)))) (tOf (eBin gtF (eCall lenF (aCons (eVar 3) (aNil))) (eC (.int 3))))) (sRet (eC (.bl false))) (sNext)
      have ret : ∀ (A C : SV) (σ : Sl), A σ ⟨P, B⟩ = .ret (.d (.bl false)) ⟨P, B⟩ → fin B.length (sSeq A C σ ⟨P, B⟩) = .ok (.d (.bl false)) ⟨P, B⟩ := fun A C σ e => by
        simp only [sSeq, e, andThen_ret, fin_d, cutB_self]
      unfold t_is_table
      rw [seq_nxt x1, seq_nxt x2]
      by_cases c1 : nameB a = true ∧ isBl u = true
      · have y1 : (sIf (tOrW (tNotW (tOf (eCallF F_is_name [] (aCons (eVar 1) (aNil))))) (tNotW (tOf (eIsTy "bool" (eVar 2))))) (sRet (eC (.bl false))) (sNext)) σ1 ⟨P, B⟩ = .nxt σ1 ⟨P, B⟩ := by
          have e1 : eCallF F_is_name [] (aCons (eVar 1) (aNil)) σ1 ⟨P, B⟩ = .ok (.d (.bl true)) ⟨P, B⟩ := by simp [σ1, is_name_gen ha, c1.1]
          simp only [sIf, tOrW, tNotW, tOf, e1, tu, c1.2, Out.bind_ok, Bool.not_true, Bool.false_eq_true, if_false, Out.stB_ok, sNext]
        rw [seq_nxt y1]
        have tabE : tabB (.tup [a, u, r]) = (match r with | .tup rs => decide (rs.length ≤ 3) && (rs.all refB && distinct rs) | _ => false) := by
          unfold tabB
          split
          · rename_i n u rs e
            injection e with e
            simp only [List.cons.injEq, and_true] at e
            obtain ⟨rfl, rfl, rfl⟩ := e
            rw [c1.1, c1.2]; simp
          · rename_i hne
            cases r with
            | tup rs => exact absurd rfl (hne a u rs)
            | _ => rfl
        rw [tabE]
        cases r with
        | tup rs =>
          have hrs : tames (n + 1) rs = true := by simpa [tame] using hr
          dsimp only at tr
          by_cases c2 : rs.length ≤ 3
          · have h3 : ¬ (3 : Int) < (rs.length : Nat) := by omega
            have y2 : (sIf (tOrW (tNotW (tOf (eIsTy "tuple" (eVar 3)))) (tOf (eBin gtF (eCall lenF (aCons (eVar 3) (aNil))) (eC (.int 3))))) (sRet (eC (.bl false))) (sNext)) σ1 ⟨P, B⟩ = .nxt σ1 ⟨P, B⟩ := by
              simp [σ1, isTab, h3]
            rw [seq_nxt y2]
            have sz : rs.length ≤ sizeLine := le_sizeLine (by omega)
            have l1 := lc_map (chk := fun _ => true) (tg := gNm 4) (T := eCallF F_is_reference [] (aCons (eVar 4) (aNil))) (σ := σ1) (S := ⟨P, B⟩) (fun x => D.bl (refB x)) (items := rs) rfl (fun x hx => by
              refine ⟨_, rfl, ?_⟩
              simp [σ1, is_ref_gen (tames_iff.mp hrs x hx)]) sz
            have v1 := eLc_ok (vs := [4]) (I := iOf itemsA (eVar 3)) (σ := σ1) (S := ⟨P, B⟩) (its := rs) (chk := fun _ => true) (by simp [σ1]) l1
            have e2 : eCall allF (aCons (eLc [4] (iOf itemsA (eVar 3)) (gNm 4) (tTrue) (eCallF F_is_reference [] (aCons (eVar 4) (aNil)))) (aNil)) σ1 ⟨P, B⟩ = .ok (.d (.bl (rs.all refB))) ⟨P, B⟩ := by
              simp only [eCall, aCons, aNil, v1, Out.bind_ok, frz_new, all_map]
            by_cases c3 : rs.all refB = true
            · have y3 : (sIf (tNotW (tOf (eCall allF (aCons (eLc [4] (iOf itemsA (eVar 3)) (gNm 4) (tTrue) (eCallF F_is_reference [] (aCons (eVar 4) (aNil)))) (aNil))))) (sRet (eC (.bl false))) (sNext)) σ1 ⟨P, B⟩ = .nxt σ1 ⟨P, B⟩ := by
                simp only [sIf, tNotW, tOf, e2, c3, Out.bind_ok, Bool.not_true, Bool.false_eq_true, if_false, Out.stB_ok, sNext]
              rw [seq_nxt y3]
              obtain ⟨ys, ey⟩ := ref_heads c3
              have l2 := lc_map (chk := fun _ => true) (tg := gNm 4) (T := eBin ixF (eVar 4) (eC (.int 0))) (σ := σ1) (S := ⟨P, B⟩) head0 (items := rs) rfl (fun x hx => by
                refine ⟨_, rfl, ?_⟩
                have hx2 := List.all_eq_true.mp c3 x hx
                unfold refB at hx2
                split at hx2
                · simp [σ1, head0]
                · cases hx2) sz
              have v2 := eLc_ok (vs := [4]) (I := iOf itemsA (eVar 3)) (σ := σ1) (S := ⟨P, B⟩) (its := rs) (chk := fun _ => true) (by simp [σ1]) l2
              obtain ⟨q1, q2⟩ := set_eq ey (by omega) P B
              have e3 : eUn lenSetF (eLc [4] (iOf itemsA (eVar 3)) (gNm 4) (tTrue) (eBin ixF (eVar 4) (eC (.int 0)))) σ1 ⟨P, B⟩ = .ok (.d (.int ((metS ys ys.length).length : Nat))) ⟨P, B⟩ := by
                simp only [eUn, v2, Out.bind_ok, frz_new, q1]
              have e4 : eCall lenF (aCons (eVar 3) (aNil)) σ1 ⟨P, B⟩ = .ok (.d (.int (rs.length : Nat))) ⟨P, B⟩ := by simp [σ1]
              simp only [sRet, eBin, e3, e4, Out.bind_ok, frz_d, eqF_int, Out.st_ok, fin_d, cutB_self, q2, c3, decide_eq_true c2, Bool.true_and]
            · have c3' : rs.all refB = false := by simpa using c3
              rw [ret _ _ _ (by simp only [sIf, tNotW, tOf, e2, c3', Out.bind_ok, Bool.not_false, if_true, Out.stB_ok, sRet, eC, Out.st_ok])]
              simp [c3']
          · have h3 : (3 : Int) < (rs.length : Nat) := by omega
            rw [ret _ _ _ (by simp [σ1, isTab, h3])]
            simp [c2]
        | non => exact ret _ _ _ (by simp [σ1, isTab])
        | bl b => exact ret _ _ _ (by simp [σ1, isTab])
        | int i => exact ret _ _ _ (by simp [σ1, isTab])
        | str x => exact ret _ _ _ (by simp [σ1, isTab])
        | lst l => exact ret _ _ _ (by simp [σ1, isTab])
        | scr l => simp [tame] at hr
        | obj i => simp [tame] at hr
        | ty s => simp [tame] at hr
        | cl a => simp [tame] at hr
      · have tf : tabB (.tup [a, u, r]) = false := by
          unfold tabB
          split
          · rename_i n u rs e
            injection e with e
            simp only [List.cons.injEq, and_true] at e
            obtain ⟨rfl, rfl, rfl⟩ := e
            rw [Bool.eq_false_iff]
            intro z
            simp only [Bool.and_eq_true] at z
            exact c1 ⟨z.1, z.2.1⟩
          · rfl
        rw [tf]
        refine ret _ _ _ ?_
        have e1 : eCallF F_is_name [] (aCons (eVar 1) (aNil)) σ1 ⟨P, B⟩ = .ok (.d (.bl (nameB a))) ⟨P, B⟩ := by simp [σ1, is_name_gen ha]
        by_cases c4 : nameB a = true
        · have c5 : isBl u = false := by
            rw [Bool.eq_false_iff]; exact fun z => c1 ⟨c4, z⟩
          simp only [sIf, tOrW, tNotW, tOf, e1, tu, c4, c5, Out.bind_ok, Bool.not_true, Bool.not_false, Bool.false_eq_true, if_false, if_true, Out.stB_ok, sRet, eC, Out.st_ok]
        · have c4' : nameB a = false := by simpa using c4
          simp only [sIf, tOrW, tNotW, tOf, e1, c4', Out.bind_ok, Bool.not_false, if_true, Out.stB_ok, sRet, eC, Out.st_ok]
end Wk

set_option Elab.async false
set_option linter.all false
set_option maxRecDepth 100000
set_option maxHeartbeats 2000000
namespace Wk
open PySem PySem.Spec PyProof.Rows L2 Ev
open Classical
theorem tab_head {x : D} (h : tabB x = true) : ∃ w r, x = .tup (.str w :: r) ∧ Word w := by
  unfold tabB at h
  split at h
  · rename_i n u rs
    simp only [Bool.and_eq_true] at h
    have h1 := h.1
    unfold nameB at h1
    cases n <;> simp at h1
    exact ⟨_, _, rfl, h1⟩
  · cases h
theorem tab_heads : ∀ {rs : List D}, rs.all tabB = true → ∃ ys : List Str, rs.map head0 = ys.map D.str
  | [], _ => ⟨[], rfl⟩
  | x :: r, h => by
    simp only [List.all_cons, Bool.and_eq_true] at h
    obtain ⟨ys, e⟩ := tab_heads h.2
    obtain ⟨w, r', rfl, _⟩ := tab_head h.1
    exact ⟨w :: ys, by rw [List.map_cons, e]; rfl⟩
theorem is_plan_no {x : D} {P : List Ob} {B : Bx} (h : eIsTy "tuple" (eVar 0) [some (.d x), none] ⟨P, B⟩ = .ok (.d (.bl false)) ⟨P, B⟩) : F_is_plan [.d x] ⟨P, B⟩ = .ok (.d (.bl false)) ⟨P, B⟩ := by
  unfold F_is_plan
  refine (mkFn_eq rfl).trans ?_
  show fin B.length (t_is_plan [some (.d x), none] ⟨P, B⟩) = _
  unfold t_is_plan
  simp only [sSeq, sIf, tOrW, tNotW, tOf, h, Out.bind_ok, Bool.not_false, if_true, Out.stB_ok, sRet, eC, Out.st_ok, andThen_ret, fin_d, cutB_self]
theorem is_plan_gen {n : Nat} (hn : n ≤ 40) {x : D} (h : tame (n + 4) x = true) (S : Sta) : F_is_plan [.d x] S = .ok (.d (.bl (planB x))) S := by
  obtain ⟨P, B⟩ := S
  have ty := isTy_tup h [some (.d x), none] 0 P B rfl
  cases x with
  | non => exact is_plan_no ty
  | bl b => exact is_plan_no ty
  | int i => exact is_plan_no ty
  | str w => exact is_plan_no ty
  | lst l => exact is_plan_no ty
  | scr l => simp [tame] at h
  | obj i => simp [tame] at h
  | ty s => simp [tame] at h
  | cl a => simp [tame] at h
  | tup ts =>
    have hts : tames (n + 3) ts = true := by simpa [tame] using h
    have ret : ∀ (A C : SV) (σ : Sl), A σ ⟨P, B⟩ = .ret (.d (.bl false)) ⟨P, B⟩ → fin B.length (sSeq A C σ ⟨P, B⟩) = .ok (.d (.bl false)) ⟨P, B⟩ := fun A C σ e => by
      simp only [sSeq, e, andThen_ret, fin_d, cutB_self]
    have okx : okD 60 (.tup ts) = true := okD_mono _ 60 _ (by omega) (tame_ok _ _ h)
    have eq : eqF (.d (.tup ts)) (.d (.tup [])) ⟨P, B⟩ = .ok (.d (.bl ts.isEmpty)) ⟨P, B⟩ := by
      rw [eqF_d, if_pos ⟨okx, rfl⟩]
      cases ts <;> rfl
    unfold F_is_plan
    refine (mkFn_eq rfl).trans ?_
    show fin B.length (t_is_plan [some (.d (.tup ts)), none] ⟨P, B⟩) = _
    unfold t_is_plan
    by_cases c1 : ts.isEmpty = false ∧ ts.length ≤ 5
    · have h5 : ¬ (5 : Int) < (ts.length : Nat) := by omega
      have sz : ts.length ≤ sizeLine := le_sizeLine (by omega)
      have y1 : (sIf (tOrW (tNotW (tOf (eIsTy "tuple" (eVar 0)))) (tOrW (tOf (eBin eqF (eVar 0) (eTup (aNil)))) (tOf (eBin gtF (eCall lenF (aCons (eVar 0) (aNil))) (eC (.int 5)))))) (sRet (eC (.bl false))) (sNext)) [some (.d (.tup ts)), none] ⟨P, B⟩ = .nxt [some (.d (.tup ts)), none] ⟨P, B⟩ := by
        simp only [eTup_nil]
        simp [isTab, eq, c1.1, h5]
      have l1 := lc_map (chk := fun _ => true) (tg := gNm 1) (T := eCallF F_is_table [] (aCons (eVar 1) (aNil))) (σ := [some (.d (.tup ts)), none]) (S := ⟨P, B⟩) (fun x => D.bl (tabB x)) (items := ts) rfl (fun x hx => by
        refine ⟨_, rfl, ?_⟩
        simp [is_table_gen (tames_iff.mp hts x hx)]) sz
      have v1 := eLc_ok (vs := [1]) (I := iOf itemsA (eVar 0)) (σ := [some (.d (.tup ts)), none]) (S := ⟨P, B⟩) (its := ts) (chk := fun _ => true) (by simp) l1
      have e2 : eCall allF (aCons (eLc [1] (iOf itemsA (eVar 0)) (gNm 1) (tTrue) (eCallF F_is_table [] (aCons (eVar 1) (aNil)))) (aNil)) [some (.d (.tup ts)), none] ⟨P, B⟩ = .ok (.d (.bl (ts.all tabB))) ⟨P, B⟩ := by
        simp only [eCall, aCons, aNil, v1, Out.bind_ok, frz_new, all_map]
      rw [seq_nxt y1]
      by_cases c3 : ts.all tabB = true
      · have y3 : (sIf (tNotW (tOf (eCall allF (aCons (eLc [1] (iOf itemsA (eVar 0)) (gNm 1) (tTrue) (eCallF F_is_table [] (aCons (eVar 1) (aNil)))) (aNil))))) (sRet (eC (.bl false))) (sNext)) [some (.d (.tup ts)), none] ⟨P, B⟩ = .nxt [some (.d (.tup ts)), none] ⟨P, B⟩ := by
          simp only [sIf, tNotW, tOf, e2, c3, Out.bind_ok, Bool.not_true, Bool.false_eq_true, if_false, Out.stB_ok, sNext]
        rw [seq_nxt y3]
        obtain ⟨ys, ey⟩ := tab_heads c3
        have l2 := lc_map (chk := fun _ => true) (tg := gNm 1) (T := eBin ixF (eVar 1) (eC (.int 0))) (σ := [some (.d (.tup ts)), none]) (S := ⟨P, B⟩) head0 (items := ts) rfl (fun x hx => by
          refine ⟨_, rfl, ?_⟩
          obtain ⟨w, r, rfl, _⟩ := tab_head (List.all_eq_true.mp c3 x hx)
          simp [head0]) sz
        have v2 := eLc_ok (vs := [1]) (I := iOf itemsA (eVar 0)) (σ := [some (.d (.tup ts)), none]) (S := ⟨P, B⟩) (its := ts) (chk := fun _ => true) (by simp) l2
        obtain ⟨q1, q2⟩ := set_eq ey (by omega) P B
        have e3 : eUn lenSetF (eLc [1] (iOf itemsA (eVar 0)) (gNm 1) (tTrue) (eBin ixF (eVar 1) (eC (.int 0)))) [some (.d (.tup ts)), none] ⟨P, B⟩ = .ok (.d (.int ((metS ys ys.length).length : Nat))) ⟨P, B⟩ := by
          simp only [eUn, v2, Out.bind_ok, frz_new, q1]
        have e4 : eCall lenF (aCons (eVar 0) (aNil)) [some (.d (.tup ts)), none] ⟨P, B⟩ = .ok (.d (.int (ts.length : Nat))) ⟨P, B⟩ := by simp
        simp only [sRet, eBin, e3, e4, Out.bind_ok, frz_d, eqF_int, Out.st_ok, fin_d, cutB_self, q2, planB, c1.1, c3, decide_eq_true c1.2, Bool.true_and, Bool.not_false]
      · have c3' : ts.all tabB = false := by simpa using c3
        rw [ret _ _ _ (by simp only [sIf, tNotW, tOf, e2, c3', Out.bind_ok, Bool.not_false, if_true, Out.stB_ok, sRet, eC, Out.st_ok])]
        simp [planB, c3']
    · have pf : planB (.tup ts) = false := by
        show (!ts.isEmpty && (decide (ts.length ≤ 5) && (ts.all tabB && distinct ts))) = false
        by_cases c2 : ts.isEmpty = true
        · rw [c2]; rfl
        · have c2' : ts.isEmpty = false := by simpa using c2
          have c4 : ¬ ts.length ≤ 5 := fun z => c1 ⟨c2', z⟩
          rw [c2', decide_eq_false c4]; rfl
      rw [pf]
      refine ret _ _ _ ?_
      simp only [eTup_nil]
      by_cases c2 : ts.isEmpty = true
      · simp [isTab, eq, c2]
      · have c2' : ts.isEmpty = false := by simpa using c2
        have c4 : (5 : Int) < (ts.length : Nat) := by
          have : ¬ ts.length ≤ 5 := fun z => c1 ⟨c2', z⟩
          omega
        simp [isTab, eq, c2', c4]
@[simp] theorem fin_exc (n : Nat) (c fs) (σ : Sl) (S : Sta) : fin n (.exc c fs σ S) = .exc c fs (cutB n S) := rfl
/-- a thing that is no plan is refused -/
theorem init_no {x : D} {k : Nat} {P : List Ob} {B : Bx} (h : F_is_plan [.d x] ⟨P, B⟩ = .ok (.d (.bl false)) ⟨P, B⟩) : F_Schema_init [.d (.obj k), .d x] ⟨P, B⟩ = .exc "NoSchema" (some [("part", .str (Str.ofString "tables"))]) ⟨P, B⟩ := by
  unfold F_Schema_init
  refine (mkFn_eq rfl).trans ?_
  show fin B.length (t_Schema_init [some (.d (.obj k)), some (.d x), none, none, none, none, none] ⟨P, B⟩) = _
  unfold t_Schema_init
  simp [h]
/-- the law's question -/
theorem part_of {x : D} {P : List Ob} {B : Bx} {w : Str} (h : F_Schema_init [.d (.obj P.length), .d x] ⟨P ++ [.ins "Schema" []], B⟩ = .exc "NoSchema" (some [("part", .str w)]) ⟨P ++ [.ins "Schema" []], B⟩) : F__law_part [.d x] ⟨P, B⟩ = .ok (.d (.str w)) ⟨P ++ [.ins "Schema" []], B⟩ := by
  unfold F__law_part
  refine (mkFn_eq rfl).trans ?_
  show fin B.length (t__law_part [some (.d x), none, none] ⟨P, B⟩) = _
  unfold t__law_part
  simp [mkF, h, test_NoSchema]
theorem part_no {x : D} {P : List Ob} {B : Bx} (h : F_is_plan [.d x] ⟨P ++ [.ins "Schema" []], B⟩ = .ok (.d (.bl false)) ⟨P ++ [.ins "Schema" []], B⟩) : F__law_part [.d x] ⟨P, B⟩ = .ok (.d (.str (Str.ofString "tables"))) ⟨P ++ [.ins "Schema" []], B⟩ := part_of (init_no h)
end Wk

set_option Elab.async false
set_option linter.all false
set_option maxRecDepth 100000
set_option maxHeartbeats 2000000
namespace Wk
open PySem PySem.Spec PyProof.Rows L2 Ev
open Classical
/-- a plan whose references go to any words -/
structure EntW (e : Ent) : Prop where
  w : Word e.name
  len : e.refs.length ≤ 3
  nd : (e.refs.map (·.1)).Nodup
  col : ∀ r ∈ e.refs, Word r.1 ∧ Word r.2
structure PlanW (p : List Ent) : Prop where
  lo : 1 ≤ p.length
  hi : p.length ≤ 5
  nd : (p.map (·.name)).Nodup
  ent : ∀ e ∈ p, EntW e
theorem PlanOk.toW {p : List Ent} {most mc : Int} (h : PlanOk most mc p) (h1 : most ≤ 5) (h2 : mc ≤ 3) : PlanW p := ⟨h.lo, by have := h.hi; omega, h.nd, fun e he => ⟨(h.ent e he).w, by have := (h.ent e he).len; omega, (h.ent e he).nd, fun r hr => ⟨((h.ent e he).col r hr).1, h.words _ ((h.ent e he).col r hr).2⟩⟩⟩
theorem refB_rD {r : Str × Str} (h1 : Word r.1) (h2 : Word r.2) : refB (rD r) = true := by
  simp [refB, rD, nameB, h1, h2]
theorem heads_refs (rs : List (Str × Str)) : (rs.map rD).map head0 = (rs.map (·.1)).map D.str := by
  rw [List.map_map, List.map_map]; rfl
theorem heads_plan (p : List Ent) : (p.map eD).map head0 = (p.map (·.name)).map D.str := by
  rw [List.map_map, List.map_map]; rfl
theorem tabB_eD {e : Ent} (h : EntW e) : tabB (eD e) = true := by
  have h1 : (e.refs.map rD).all refB = true := by
    rw [List.all_map]
    exact List.all_eq_true.mpr fun r hr => refB_rD (h.col r hr).1 (h.col r hr).2
  have h2 : distinct (e.refs.map rD) = true := by rw [distinct_strs (heads_refs e.refs)]; exact decide_eq_true h.nd
  have h3 : (e.refs.map rD).length ≤ 3 := by rw [List.length_map]; exact h.len
  have h4 : nameB (.str e.name) = true := by simp [nameB, h.w]
  show (nameB (.str e.name) && (isBl (.bl e.uq) && (decide ((e.refs.map rD).length ≤ 3) && ((e.refs.map rD).all refB && distinct (e.refs.map rD))))) = true
  rw [h1, h2, h4, decide_eq_true h3]; rfl
theorem planB_planD {p : List Ent} (h : PlanW p) : planB (planD p) = true := by
  have h1 : (p.map eD).all tabB = true := by
    rw [List.all_map]
    exact List.all_eq_true.mpr fun e he => tabB_eD (h.ent e he)
  have h2 : distinct (p.map eD) = true := by rw [distinct_strs (heads_plan p)]; exact decide_eq_true h.nd
  have h3 : (p.map eD).length ≤ 5 := by rw [List.length_map]; exact h.hi
  have h4 : (p.map eD).isEmpty = false := by
    have := h.lo
    cases p with
    | nil => simp at this
    | cons e r => rfl
  show (!(p.map eD).isEmpty && (decide ((p.map eD).length ≤ 5) && ((p.map eD).all tabB && distinct (p.map eD)))) = true
  rw [h1, h2, h4, decide_eq_true h3]; rfl
theorem tame_word {w : Str} (h : Word w) (n : Nat) : tame n (.str w) = true := by
  have := h.hi
  cases n <;> simp [tame] <;> omega
theorem tame_rD {r : Str × Str} (h1 : Word r.1) (h2 : Word r.2) (n : Nat) : tame (n + 1) (rD r) = true := by
  show tames n [.str r.1, .str r.2] = true
  simp [tames, tame_word h1, tame_word h2]
theorem tame_eD {e : Ent} (h : EntW e) (n : Nat) : tame (n + 3) (eD e) = true := by
  show tames (n + 2) [.str e.name, .bl e.uq, .tup (e.refs.map rD)] = true
  have : tame (n + 2) (.tup (e.refs.map rD)) = true := by
    show tames (n + 1) (e.refs.map rD) = true
    refine tames_iff.mpr fun x hx => ?_
    obtain ⟨r, hr, rfl⟩ := List.mem_map.mp hx
    exact tame_rD (h.col r hr).1 (h.col r hr).2 n
  simp only [tames, tame_word h.w, this, Bool.and_true, Bool.true_and]
  rfl
theorem tame_plan {p : List Ent} (h : PlanW p) (n : Nat) : tame (n + 4) (planD p) = true := by
  show tames (n + 3) (p.map eD) = true
  refine tames_iff.mpr fun x hx => ?_
  obtain ⟨e, he, rfl⟩ := List.mem_map.mp hx
  exact tame_eD (h.ent e he) n
theorem is_plan_w {p : List Ent} (h : PlanW p) (S : Sta) : F_is_plan [.d (planD p)] S = .ok (.d (.bl true)) S := by
  rw [is_plan_gen (n := 0) (by omega) (tame_plan h 0), planB_planD h]
def places (p : List Ent) : List Str := (p.map fun e => e.refs.map (·.2)).flatten
theorem ref_places (p : List Ent) : (p.map eD).flatMap (fun x => match x with | .tup (_ :: _ :: .tup l :: _) => l.map (fun y => match y with | .tup (_ :: z :: _) => z | _ => .non) | _ => []) = (places p).map D.str := by
  induction p with
  | nil => rfl
  | cons e r ih =>
    rw [List.map_cons, List.flatMap_cons, ih]
    simp [places, eD, rD, Function.comp_def]
theorem refs_fewW {p : List Ent} (h : PlanW p) : (places p).length ≤ 400 := by
  have key : ∀ l : List Ent, (∀ e ∈ l, e.refs.length ≤ 3) → (places l).length ≤ 3 * l.length := by
    intro l
    induction l with
    | nil => intro _; simp [places]
    | cons e r ih =>
      intro hl
      have h1 := hl e List.mem_cons_self
      have h2 := ih fun x hx => hl x (List.mem_cons_of_mem _ hx)
      simp only [places, List.map_cons, List.flatten_cons, List.length_append, List.length_map, List.length_cons] at h2 ⊢
      omega
  have := key p fun e he => (h.ent e he).len
  have := h.hi
  omega
noncomputable def inNames (p : List Ent) : Bool := (places p).all fun w => decide (w ∈ p.map (·.name))
theorem init_w {p : List Ent} (h : PlanW p) (P : List Ob) (B : Bx) : F_Schema_init [.d (.obj P.length), .d (planD p)] ⟨P ++ [.ins "Schema" []], B⟩ = if inNames p = true then .ok (.d .non) ⟨P ++ [schO p], B⟩ else .exc "NoSchema" (some [("part", .str (Str.ofString "references"))]) ⟨P ++ [.ins "Schema" []], B⟩ := by
  have lo := h.lo
  have hi := h.hi
  have sz : p.length ≤ sizeLine := le_sizeLine (by omega)
  let S : Sta := ⟨P ++ [.ins "Schema" []], B⟩
  have it : ∀ S, itemsA (.d (planD p)) S = .ok (p.map eD, fun _ => true) S := fun _ => rfl
  let s1 : Sl := [some (.d (.obj P.length)), some (.d (planD p)), none, none, none, none, none]
  let s2 : Sl := [some (.d (.obj P.length)), some (.d (planD p)), some (.d (.lst ((p.map (·.name)).map D.str))), none, none, none, none]
  let s3 : Sl := [some (.d (.obj P.length)), some (.d (planD p)), some (.d (.lst ((p.map (·.name)).map D.str))), none, some (.d (.lst ((places p).map D.str))), none, none]
  have l1 := lc_map (chk := fun _ => true) (tg := gNm 3) (T := eBin ixF (eVar 3) (eC (.int 0))) (σ := s1) (S := S) head0 (items := p.map eD) rfl (fun x hx => by
    obtain ⟨r, hr, rfl⟩ := List.mem_map.mp hx
    refine ⟨_, rfl, ?_⟩
    simp [eD, head0, s1]) (by simpa using sz)
  rw [heads_plan] at l1
  have v1 := eLc_ok (vs := [3]) (I := iOf itemsA (eVar 1)) (σ := s1) (S := S) (its := p.map eD) (chk := fun _ => true) (by simp [s1, it]) l1
  have few := refs_fewW h
  have l2 := lc2_map (chk := fun _ => true) (tg := gNm 3) (vs1 := [5, 6]) (I1 := iOf itemsA (eBin ixF (eVar 3) (eC (.int 2)))) (Gt1 := gTp 2 (gMore (gNm 5) (gMore (gNm 6) (gNone)))) (T := eVar 6) (σ := s2) (S := S)
    (fun x => match x with | .tup (_ :: _ :: .tup l :: _) => l.map (fun y => match y with | .tup (_ :: z :: _) => z | _ => .non) | _ => []) (items := p.map eD) rfl (fun x hx => by
    obtain ⟨e, he, rfl⟩ := List.mem_map.mp hx
    refine ⟨_, e.refs.map rD, fun _ => true, rfl, by simp [eD, s2], rfl, (fun y => match y with | .tup (_ :: z :: _) => z | _ => .non), rfl, fun y hy => ?_⟩
    obtain ⟨r, hr, rfl⟩ := List.mem_map.mp hy
    exact ⟨_, rfl, by simp [wipeV, rD, s2]⟩) (by rw [ref_places, List.length_map]; exact le_sizeLine (by omega))
  rw [ref_places] at l2
  have l3 := lc_map (chk := fun _ => true) (tg := gNm 6) (T := eBin inF (eVar 6) (eVar 2)) (σ := s3) (S := S) (fun x => D.bl (match x with | .str w => decide (w ∈ p.map (·.name)) | _ => false)) (items := (places p).map D.str) rfl (fun x hx => by
    obtain ⟨w, hw, rfl⟩ := List.mem_map.mp hx
    refine ⟨_, rfl, ?_⟩
    have := inF_lst w (p.map (·.name)) S
    simpa [-List.map_map, s3] using this) (by rw [List.length_map]; exact le_sizeLine (by omega))
  have v3 := eLc_ok (vs := [6]) (I := iOf itemsA (eVar 4)) (σ := s3) (S := S) (its := (places p).map D.str) (chk := fun _ => true) (by simp [s3, -List.map_map]) l3
  have al : ((places p).map D.str).all (fun x => match x with | .str w => decide (w ∈ p.map (·.name)) | _ => false) = inNames p := by
    rw [List.all_map]; rfl
  unfold F_Schema_init
  refine (mkFn_eq rfl).trans ?_
  show fin B.length (t_Schema_init s1 S) = _
  have x1 : (sIf (tNotW (tOf (eCallF F_is_plan [] (aCons (eVar 1) (aNil))))) (sRaise "NoSchema" ["part"] (aCons (eC (.str "tables")) (aNil))) (sNext)) s1 S = .nxt s1 S := by
    simp [is_plan_w h, s1]
  have x2 : (sSet 2 (eLc [3] (iOf itemsA (eVar 1)) (gNm 3) (tTrue) (eBin ixF (eVar 3) (eC (.int 0))))) s1 S = .nxt s2 S := by
    simp only [sSet, v1, Out.st_ok, frz_new]
    rfl
  have x3 : (sSet 4 (eLc2 [3, 5, 6] (iOf itemsA (eVar 1)) (gNm 3) (tTrue) [5, 6] (iOf itemsA (eBin ixF (eVar 3) (eC (.int 2)))) (gTp 2 (gMore (gNm 5) (gMore (gNm 6) (gNone)))) (tTrue) (eVar 6))) s2 S = .nxt s3 S := by
    have v2 : eLc2 [3, 5, 6] (iOf itemsA (eVar 1)) (gNm 3) (tTrue) [5, 6] (iOf itemsA (eBin ixF (eVar 3) (eC (.int 2)))) (gTp 2 (gMore (gNm 5) (gMore (gNm 6) (gNone)))) (tTrue) (eVar 6) s2 S = .ok (.new ((places p).map D.str)) S := by
      unfold eLc2
      have i1 : iOf itemsA (eVar 1) s2 S = .ok (p.map eD, fun _ => true) S := by simp [s2, it]
      rw [i1]
      dsimp only
      have e : wipeV s2 [3, 5, 6] = s2 := rfl
      rw [e, l2]
    simp only [sSet, v2, Out.st_ok, frz_new]
    rfl
  have e4 : eCall allF (aCons (eLc [6] (iOf itemsA (eVar 4)) (gNm 6) (tTrue) (eBin inF (eVar 6) (eVar 2))) (aNil)) s3 S = .ok (.d (.bl (inNames p))) S := by
    simp only [eCall, aCons, aNil, v3, Out.bind_ok, frz_new, all_map, al]
  unfold t_Schema_init
  rw [seq_nxt x1, seq_nxt x2, seq_nxt x3]
  have o1 : S.P[P.length]? = some (.ins "Schema" []) := by simp [S]
  by_cases c : inNames p = true
  · have x4 : (sIf (tNotW (tOf (eCall allF (aCons (eLc [6] (iOf itemsA (eVar 4)) (gNm 6) (tTrue) (eBin inF (eVar 6) (eVar 2))) (aNil))))) (sRaise "NoSchema" ["part"] (aCons (eC (.str "references")) (aNil))) (sNext)) s3 S = .nxt s3 S := by
      simp only [sIf, tNotW, tOf, e4, c, Out.bind_ok, Bool.not_true, Bool.false_eq_true, if_false, Out.stB_ok, sNext]
    rw [seq_nxt x4, if_pos c]
    simp [setFld, o1, putFs, S, schO, s3]
  · have c' : inNames p = false := by simpa using c
    rw [if_neg c]
    have x4 : (sIf (tNotW (tOf (eCall allF (aCons (eLc [6] (iOf itemsA (eVar 4)) (gNm 6) (tTrue) (eBin inF (eVar 6) (eVar 2))) (aNil))))) (sRaise "NoSchema" ["part"] (aCons (eC (.str "references")) (aNil))) (sNext)) s3 S = .exc "NoSchema" (some [("part", .str (Str.ofString "references"))]) s3 S := by
      simp only [sIf, tNotW, tOf, e4, c', Out.bind_ok, Bool.not_false, if_true, Out.stB_ok]
      simp
    simp only [sSeq, x4, andThen_exc, fin_exc]
    simp [S]
theorem part_refs {p : List Ent} (h : PlanW p) (hn : inNames p = false) (P : List Ob) (B : Bx) : F__law_part [.d (planD p)] ⟨P, B⟩ = .ok (.d (.str (Str.ofString "references"))) ⟨P ++ [.ins "Schema" []], B⟩ := part_of (by rw [init_w h, hn]; rfl)
theorem make_w {p : List Ent} (h : PlanW p) (hn : inNames p = true) (P : List Ob) (B : Bx) : mkF "Schema" F_Schema_init [.d (planD p)] ⟨P, B⟩ = .ok (.d (.obj P.length)) ⟨P ++ [schO p], B⟩ := by
  unfold mkF
  dsimp only
  rw [init_w h, if_pos hn]
end Wk

set_option Elab.async false
set_option linter.all false
set_option maxRecDepth 100000
set_option maxHeartbeats 2000000
namespace Wk
open PySem PySem.Spec PyProof.Rows L2 Ev
open Classical
theorem upper_ltr : ∀ c ∈ ltrs.cps.toList, Unicode.upperOf c = [c - 32] := by decide +kernel
theorem upper_no : ∀ c ∈ ltrs.cps.toList, c - 32 ∉ ltrs.cps.toList ∧ c - 32 < 0x110000 := by decide +kernel
theorem upper_word {w : Str} (h : ∀ c ∈ w.cps.toList, c ∈ ltrs.cps.toList) : (Txt.upper w).cps.toList = w.cps.toList.map (· - 32) := by
  show (PySem.placed w fun _ c => Unicode.upperOf c).toList = _
  unfold PySem.placed
  rw [Array.toList_flatten]
  have e : ((w.cps.mapIdx fun i c => (Unicode.upperOf c).toArray).toList.map Array.toList) = w.cps.toList.map fun c => Unicode.upperOf c := by
    rw [Array.toList_mapIdx]
    refine List.ext_getElem? fun i => ?_
    simp only [List.getElem?_map, List.getElem?_mapIdx]
    cases w.cps.toList[i]? <;> rfl
  rw [e]
  have : ∀ l : List Nat, (∀ c ∈ l, c ∈ ltrs.cps.toList) → (l.map fun c => Unicode.upperOf c).flatten = l.map (· - 32) := by
    intro l
    induction l with
    | nil => intro _; rfl
    | cons c r ih =>
      intro hl
      rw [List.map_cons, List.flatten_cons, upper_ltr c (hl c List.mem_cons_self), ih fun d hd => hl d (List.mem_cons_of_mem _ hd)]
      rfl
  exact this _ h
theorem not_word {w : Str} {c : Nat} (h : c ∈ w.cps.toList) (hc : c ∉ ltrs.cps.toList) : ¬ Word w := fun z => hc (z.ch c h)
theorem not_word_len {w : Str} (h : 9 ≤ w.length) : ¬ Word w := fun z => by have := z.hi; omega
theorem nameB_not {w : Str} (h : ¬ Word w) : nameB (.str w) = false := by simp [nameB, h]
theorem cutS_len (z : Str) (lo hi : Option Int) : (cutS z lo hi).length ≤ z.length := by
  unfold cutS
  show (List.toArray _).size ≤ _
  simp only [List.size_toArray, List.length_take, List.length_drop]
  rw [str_len]
  omega
theorem no_name_ok {P : List Ob} {B : Bx} {i : Nat} {n : Int} (h : St3 B i n) (hn : n ≤ 2 ^ 28) : ∃ x B', nameB x = false ∧ tame 2 x = true ∧ Adv i B B' ∧ St3 B' i (n + 12) ∧ F__law_no_name [.box i] ⟨P, B⟩ = .ok (.d x) ⟨P, B'⟩ := by
  obtain ⟨w, B1, W, A1, S1, E1⟩ := word_ok (P := P) h (by omega)
  have lo := W.lo; have hi := W.hi
  obtain ⟨d, B2, d1, d2, A2, S2, E2⟩ := take_ok (P := P) S1 (by omega) (base := (w.length : Nat) + 1) (by omega) (by omega)
  obtain ⟨s, B3, s1, s2, A3, S3, E3⟩ := take_ok (P := P) S2 (by omega) (base := 6) (by omega) (by omega)
  obtain ⟨q, B4, q1, q2, A4, S4, E4⟩ := take_ok (P := P) S3 (by omega) (base := 9) (by omega) (by omega)
  have len6 : ((" Z7_-." : Str).cps.toList).length = 6 := by decide +kernel
  obtain ⟨c, c1, c2⟩ := atI_of (" Z7_-." : Str).cps.toList s s1 (by rw [len6]; exact s2)
  have cno : ∀ c ∈ (" Z7_-." : Str).cps.toList, c ∉ ltrs.cps.toList := by decide +kernel
  have sz6 : (" Z7_-." : Str).length ≤ sizeLine := by decide +kernel
  let bent : Str := (cutS w none (some d) ++ one c) ++ cutS w (some d) (some 7)
  have b1 : ¬ Word bent := not_word (c := c) (by
    show c ∈ ((cutS w none (some d) ++ one c) ++ cutS w (some d) (some 7)).cps.toList
    rw [app_list, app_list]
    simp [one]) (cno c c2)
  have l1 := cutS_len w none (some d)
  have l2 := cutS_len w (some d) (some 7)
  have lo1 : (one c).length = 1 := rfl
  have la : ∀ x y : Str, (x ++ y).length = x.length + y.length := fun x y => by rw [str_len, app_list, List.length_append, ← str_len, ← str_len]
  have lb : bent.length ≤ 17 := by
    show ((cutS w none (some d) ++ one c) ++ cutS w (some d) (some 7)).length ≤ 17
    rw [la, la, lo1]; omega
  let long : Str := w ++ (Str.ofString "abcdefgh")
  have le8 : (Str.ofString "abcdefgh").length = 8 := by decide +kernel
  have g1 : long.length = w.length + 8 := by show (w ++ _).length = _; rw [la, le8]
  have g2 : ¬ Word long := not_word_len (by omega)
  let up : Str := Txt.upper w
  have u0 : up.cps.toList = w.cps.toList.map (· - 32) := upper_word W.ch
  have u1 : ¬ Word up := by
    cases e : w.cps.toList with
    | nil => rw [str_len, e] at lo; simp at lo
    | cons a r =>
      refine not_word (c := a - 32) (by rw [u0, e]; simp) (upper_no a (W.ch a (by rw [e]; simp))).1
  have u2 : PyData.strOk up = true := strOk_iff.mpr fun c hc => by
    rw [u0] at hc
    obtain ⟨a, ha, rfl⟩ := List.mem_map.mp hc
    exact (upper_no a (W.ch a ha)).2
  have u3 : up.length = w.length := by rw [str_len, u0, List.length_map, ← str_len]
  let some_ : List D := [.str (Str.ofString ""), .str bent, .int 5, .non, .bl true, .tup [.str w], .str long, .lst [.str w], .str up]
  obtain ⟨x, x1, x2⟩ := atI_of some_ q q1 (by simp [some_]; omega)
  refine ⟨x, B4, ?_, ?_, ((A1.trans A2).trans A3).trans A4, S4.mono (by omega), ?_⟩
  · simp only [some_, List.mem_cons, List.not_mem_nil, or_false] at x2
    rcases x2 with rfl | rfl | rfl | rfl | rfl | rfl | rfl | rfl | rfl
    · exact nameB_not fun z => absurd z.lo (by decide +kernel)
    · exact nameB_not b1
    · rfl
    · rfl
    · rfl
    · rfl
    · exact nameB_not g2
    · rfl
    · exact nameB_not u1
  · simp only [some_, List.mem_cons, List.not_mem_nil, or_false] at x2
    have e0 : (Str.ofString "").length = 0 := by decide +kernel
    rcases x2 with rfl | rfl | rfl | rfl | rfl | rfl | rfl | rfl | rfl <;> simp [tame, tames] <;> omega
  · have sz : w.length ≤ sizeLine := le_sizeLine (by omega)
    have z1 : (cutS w none (some d)).length + (one c).length ≤ sizeLine := le_sizeLine (by omega)
    have z2 : (cutS w none (some d) ++ one c).length + (cutS w (some d) (some 7)).length ≤ sizeLine := le_sizeLine (by rw [la]; omega)
    have z3 : w.length + (Str.ofString "abcdefgh").length ≤ sizeLine := le_sizeLine (by omega)
    have z4 : w.length ≤ 5592405 := by omega
    have fold1 : ∀ c, (⟨#[c]⟩ : Str) = one c := fun _ => rfl
    unfold F__law_no_name
    refine (mkFn_eq rfl).trans ?_
    show fin B.length (t__law_no_name [some (.box i), none, none, none, none, none] ⟨P, B⟩) = _
    have x3 : (sSet 1 (eCallF F__law_word [] (aCons (eVar 0) (aNil)))) [some (.box i), none, none, none, none, none] ⟨P, B⟩ = .nxt [some (.box i), some (.d (.str w)), none, none, none, none] ⟨P, B1⟩ := by simp [E1]
    have x4 : (sSet 2 (eCallF F__law_take [] (aCons (eVar 0) (aCons (eBin addF (eCall lenF (aCons (eVar 1) (aNil))) (eC (.int 1))) (aNil))))) [some (.box i), some (.d (.str w)), none, none, none, none] ⟨P, B1⟩ = .nxt [some (.box i), some (.d (.str w)), some (.d (.int d)), none, none, none] ⟨P, B2⟩ := by simp [sz, E2]
    have x5 : (sSet 3 (eBin ixF (eC (.str " Z7_-.")) (eCallF F__law_take [] (aCons (eVar 0) (aCons (eC (.int 6)) (aNil)))))) [some (.box i), some (.d (.str w)), some (.d (.int d)), none, none, none] ⟨P, B2⟩ = .nxt [some (.box i), some (.d (.str w)), some (.d (.int d)), some (.d (.str (one c))), none, none] ⟨P, B3⟩ := by
      have c1' : atI (Str.ofString " Z7_-.").cps.toList s = some c := c1
      have sz6' : (Str.ofString " Z7_-.").length ≤ sizeLine := sz6
      simp [E3, c1', sz6', fold1]
    have x6 : (sSet 4 (eBin addF (eBin addF (eSl (eVar 1) (oNone) (oSome (eVar 2))) (eVar 3)) (eSl (eVar 1) (oSome (eVar 2)) (oSome (eC (.int 7)))))) [some (.box i), some (.d (.str w)), some (.d (.int d)), some (.d (.str (one c))), none, none] ⟨P, B3⟩ = .nxt [some (.box i), some (.d (.str w)), some (.d (.int d)), some (.d (.str (one c))), some (.d (.str bent)), none] ⟨P, B3⟩ := by
      simp [slF_str _ _ _ _ sz, z1, z2]
      rfl
    have x7 : (sSet 5 (eLst (aCons (eC (.str "")) (aCons (eVar 4) (aCons (eC (.int 5)) (aCons (eC .non) (aCons (eC (.bl true)) (aCons (eTup (aCons (eVar 1) (aNil))) (aCons (eBin addF (eVar 1) (eC (.str "abcdefgh"))) (aCons (eLst (aCons (eVar 1) (aNil))) (aCons (eUp (eVar 1)) (aNil)))))))))))) [some (.box i), some (.d (.str w)), some (.d (.int d)), some (.d (.str (one c))), some (.d (.str bent)), none] ⟨P, B3⟩ = .nxt [some (.box i), some (.d (.str w)), some (.d (.int d)), some (.d (.str (one c))), some (.d (.str bent)), some (.d (.lst some_))] ⟨P, B3⟩ := by
      simp [eLst, eTup, z3, upperF, z4, u2, up]
      rfl
    unfold t__law_no_name
    rw [seq_nxt x3, seq_nxt x4, seq_nxt x5, seq_nxt x6, seq_nxt x7]
    simp [E4, x1]
    obtain ⟨y, rfl⟩ := ((A1.trans A2).trans A3).trans A4
    simp
end Wk

set_option Elab.async false
set_option linter.all false
set_option maxRecDepth 100000
set_option maxHeartbeats 4000000
namespace Wk
open PySem PySem.Spec PyProof.Rows L2 Ev
open Classical
theorem cut_pre {α : Type} (l : List α) (k : Nat) (h : k ≤ l.length) : cut l none (some (k : Int)) = l.take k := by
  unfold cut
  rw [HT.sIx_none, HT.sIx_nat, Nat.min_eq_left h]
  simp
theorem cut_suf {α : Type} (l : List α) (k : Nat) (h : k ≤ l.length) : cut l (some (k : Int)) none = l.drop k := by
  unfold cut
  rw [HT.sIx_none, HT.sIx_nat, Nat.min_eq_left h]
  have : l.length - k = (l.drop k).length := by rw [List.length_drop]
  rw [this, List.take_length]
@[simp] theorem slF_tup (l : List D) (lo hi : Option Int) (S : Sta) : slF (.d (.tup l)) lo hi S = .ok (.d (.tup (cut l lo hi))) S := rfl
@[simp] theorem slF_lst (l : List D) (lo hi : Option Int) (S : Sta) : slF (.d (.lst l)) lo hi S = .ok (.new (cut l lo hi)) S := rfl
@[simp] theorem addF_tup (l m : List D) (S : Sta) : addF (.d (.tup l)) (.d (.tup m)) S = if l.length + m.length ≤ sizeLine then .ok (.d (.tup (l ++ m))) S else .bad := rfl
@[simp] theorem addF_lst (l m : List D) (S : Sta) : addF (.d (.lst l)) (.d (.lst m)) S = if l.length + m.length ≤ sizeLine then .ok (.new (l ++ m)) S else .bad := rfl
@[simp] theorem listF_tup (l : List D) (S : Sta) : listF [.d (.tup l)] S = .ok (.new l) S := rfl
@[simp] theorem listF_lst (l : List D) (S : Sta) : listF [.d (.lst l)] S = .ok (.new l) S := rfl
noncomputable def refsX (x : D) : Bool := match x with
  | .tup rs => decide (rs.length ≤ 3) && (rs.all refB && distinct rs)
  | _ => false
theorem refsX_mem {l : List D} {x : D} (h : x ∈ l) (hx : refB x = false) : refsX (.tup l) = false := by
  show (decide (l.length ≤ 3) && (l.all refB && distinct l)) = false
  have : l.all refB = false := by
    rw [Bool.eq_false_iff]
    intro z
    have := List.all_eq_true.mp z x h
    rw [hx] at this; cases this
  rw [this]; simp
abbrev slR (i : Nat) (rs : List (Str × Str)) (sg : Str) (way : Int) (a4 a5 a6 a7 a8 a9 : Option Vl) : Sl := [some (.box i), some (.d (.tup (rs.map rD))), some (.d (.str sg)), some (.d (.int way)), a4, a5, a6, a7, a8, a9]
section
variable {P : List Ob} {B : Bx} {i : Nat} {n : Int} {rs : List (Str × Str)} {sg : Str} {way : Int}
/-- references with one at k put in place -/
def repl (rs : List (Str × Str)) (k : Nat) (one : D) : List D := (rs.map rD).take k ++ [one] ++ (rs.map rD).drop (k + 1)
theorem refs_tail (k : Nat) (hk : k < rs.length) (hl : rs.length ≤ 3) (one : D) (S : Sta) (a5 a6 a7 a8 : Option Vl) : (sRet (eBin addF (eBin addF (eSl (eVar 1) (oNone) (oSome (eVar 4))) (eTup (aCons (eVar 9) (aNil)))) (eSl (eVar 1) (oSome (eBin addF (eVar 4) (eC (.int 1)))) (oNone)))) (slR i rs sg way (some (.d (.int (k : Nat)))) a5 a6 a7 a8 (some (.d one))) S = .ret (.d (.tup (repl rs k one))) S := by
  have e1 : cut (rs.map rD) none (some (k : Int)) = (rs.map rD).take k := cut_pre _ k (by simp; omega)
  have e2 : cut (rs.map rD) (some ((k : Int) + 1)) none = (rs.map rD).drop (k + 1) := cut_suf _ (k + 1) (by simp; omega)
  have z1 : ((rs.map rD).take k).length + [one].length ≤ sizeLine := le_sizeLine (by simp; omega)
  have z2 : ((rs.map rD).take k ++ [one]).length + ((rs.map rD).drop (k + 1)).length ≤ sizeLine := le_sizeLine (by simp; omega)
  have et : eTup (aCons (eVar 9) (aNil)) (slR i rs sg way (some (.d (.int (k : Nat)))) a5 a6 a7 a8 (some (.d one))) S = .ok (.d (.tup [one])) S := by simp [eTup, slR]
  simp only [slR] at et ⊢
  simp only [sRet, eBin, eSl, oNone, oSome, eVar, eC, List.getElem?_cons_succ, List.getElem?_cons_zero, Out.bind_ok, frz_d, slF_tup, e1, et, addF_tup, if_pos z1, addF_int, e2, if_pos z2, Out.st_ok]
  rfl
/-- the head of the def -/
theorem refs_head (h : St3 B i n) (hn : n ≤ 2 ^ 27) (h1 : 1 ≤ rs.length) (h2 : rs.length ≤ 3) : ∃ (k : Nat) (B1 : Bx), k < rs.length ∧ Adv i B B1 ∧ St3 B1 i (n + 1) ∧ ∀ R : SV, (sSeq (sSet 4 (eCallF F__law_take [] (aCons (eVar 0) (aCons (eCall lenF (aCons (eVar 1) (aNil))) (aNil))))) (sSeq (sUnp (gTp 2 (gMore (gNm 5) (gMore (gNm 6) (gNone)))) (eBin ixF (eVar 1) (eVar 4))) R)) (slR i rs sg way none none none none none none) ⟨P, B⟩ = R (slR i rs sg way (some (.d (.int (k : Nat)))) (some (.d (.str (rs[k]!).1))) (some (.d (.str (rs[k]!).2))) none none none) ⟨P, B1⟩ := by
  obtain ⟨d, B1, d1, d2, A1, S1, E1⟩ := take_ok (P := P) h (by omega) (base := (rs.length : Nat)) (by omega) (by omega)
  obtain ⟨k, rfl⟩ := Int.eq_ofNat_of_zero_le d1
  have hk : k < rs.length := by omega
  refine ⟨k, B1, hk, A1, S1, fun R => ?_⟩
  have at_ : atI (rs.map rD) (k : Int) = some (rD (rs[k]!)) := by
    rw [Ev.atI_nat, List.getElem?_map, List.getElem?_eq_getElem hk]
    simp [hk]
  have x1 : (sSet 4 (eCallF F__law_take [] (aCons (eVar 0) (aCons (eCall lenF (aCons (eVar 1) (aNil))) (aNil))))) (slR i rs sg way none none none none none none) ⟨P, B⟩ = .nxt (slR i rs sg way (some (.d (.int (k : Nat)))) none none none none none) ⟨P, B1⟩ := by simp [slR, E1]
  have x2 : (sUnp (gTp 2 (gMore (gNm 5) (gMore (gNm 6) (gNone)))) (eBin ixF (eVar 1) (eVar 4))) (slR i rs sg way (some (.d (.int (k : Nat)))) none none none none none) ⟨P, B1⟩ = .nxt (slR i rs sg way (some (.d (.int (k : Nat)))) (some (.d (.str (rs[k]!).1))) (some (.d (.str (rs[k]!).2))) none none none) ⟨P, B1⟩ := by
    simp [slR, at_, rD]
  rw [seq_nxt x1, seq_nxt x2]
/-- a test of the way -/
theorem way_if (c : Int) (A C : SV) (S : Sta) (a4 a5 a6 a7 a8 a9 : Option Vl) : (sIf (tOf (eBin eqF (eVar 3) (eC (.int c)))) A C) (slR i rs sg way a4 a5 a6 a7 a8 a9) S = if way = c then A (slR i rs sg way a4 a5 a6 a7 a8 a9) S else C (slR i rs sg way a4 a5 a6 a7 a8 a9) S := by
  simp [slR]
theorem way_or (c d : Int) (A C : SV) (S : Sta) (a4 a5 a6 a7 a8 a9 : Option Vl) : (sIf (tOrW (tOf (eBin eqF (eVar 3) (eC (.int c)))) (tOf (eBin eqF (eVar 3) (eC (.int d))))) A C) (slR i rs sg way a4 a5 a6 a7 a8 a9) S = if way = c ∨ way = d then A (slR i rs sg way a4 a5 a6 a7 a8 a9) S else C (slR i rs sg way a4 a5 a6 a7 a8 a9) S := by
  by_cases h1 : way = c
  · simp [slR, h1]
  · by_cases h2 : way = d
    · simp [slR, h1, h2]
    · simp [slR, h1, h2]
theorem seq_if {p : Prop} [Decidable p] {A A' C : SV} {σ : Sl} {S : Sta} (h : A σ S = if p then A' σ S else .nxt σ S) (hp : ¬ p) : sSeq A C σ S = C σ S := by
  rw [if_neg hp] at h
  exact seq_nxt h
/-- what the changed references are -/
def RefBad (x : D) : Prop := refsX x = false ∧ tame 6 x = true
theorem tame_refs (hw : ∀ r ∈ rs, Word r.1 ∧ Word r.2) : tames 5 (rs.map rD) = true := tames_iff.mpr fun x hx => by
  obtain ⟨r, hr, rfl⟩ := List.mem_map.mp hx
  exact tame_rD (hw r hr).1 (hw r hr).2 4
theorem tame_repl (hw : ∀ r ∈ rs, Word r.1 ∧ Word r.2) (k : Nat) {one : D} (h : tame 5 one = true) : tame 6 (.tup (repl rs k one)) = true := by
  show tames 5 (repl rs k one) = true
  have t := tames_iff.mp (tame_refs hw)
  refine tames_iff.mpr fun x hx => ?_
  unfold repl at hx
  simp only [List.mem_append, List.mem_singleton] at hx
  rcases hx with (hx | rfl) | hx
  · exact t x (List.mem_of_mem_take hx)
  · exact h
  · exact t x (List.mem_of_mem_drop hx)
theorem bad_repl (hw : ∀ r ∈ rs, Word r.1 ∧ Word r.2) (k : Nat) {one : D} (h : tame 5 one = true) (hb : refB one = false) : RefBad (.tup (repl rs k one)) := ⟨refsX_mem (x := one) (by simp [repl]) hb, tame_repl hw k h⟩
end
end Wk

set_option Elab.async false
set_option linter.all false
set_option maxRecDepth 100000
set_option maxHeartbeats 4000000
namespace Wk
open PySem PySem.Spec PyProof.Rows L2 Ev
open Classical
mutual
theorem tame_mono : ∀ (n m : Nat) (x : D), n ≤ m → tame n x = true → tame m x = true
  | _, m, .non, _, _ => by cases m <;> simp [tame]
  | _, m, .bl _, _, _ => by cases m <;> simp [tame]
  | _, m, .int _, _, _ => by cases m <;> simp [tame]
  | n, m, .str x, _, h => by
    have : x.length ≤ 1000 := by cases n <;> simpa [tame] using h
    cases m <;> simp [tame, this]
  | 0, _, .tup _, _, h => by simp [tame] at h
  | n + 1, 0, .tup l, hm, h => by omega
  | n + 1, m + 1, .tup l, hm, h => tames_mono n m l (by omega) (by simpa [tame] using h)
  | 0, _, .lst _, _, h => by simp [tame] at h
  | n + 1, 0, .lst l, hm, h => by omega
  | n + 1, m + 1, .lst l, hm, h => tames_mono n m l (by omega) (by simpa [tame] using h)
  | n, _, .scr _, _, h => by cases n <;> simp [tame] at h
  | n, _, .obj _, _, h => by cases n <;> simp [tame] at h
  | n, _, .ty _, _, h => by cases n <;> simp [tame] at h
  | n, _, .cl _, _, h => by cases n <;> simp [tame] at h
theorem tames_mono : ∀ (n m : Nat) (l : List D), n ≤ m → tames n l = true → tames m l = true
  | _, _, [], _, _ => by simp [tames]
  | n, m, x :: r, hm, h => by
    simp only [tames, Bool.and_eq_true] at h ⊢
    exact ⟨tame_mono n m x hm h.1, tames_mono n m r hm h.2⟩
end
section
variable {P : List Ob} {B : Bx} {i : Nat} {n : Int} {rs : List (Str × Str)} {sg : Str} {way : Int}
theorem skipW {c : Int} (h : way ≠ c) (A C : SV) (S : Sta) (a4 a5 a6 a7 a8 a9 : Option Vl) : sSeq (sIf (tOf (eBin eqF (eVar 3) (eC (.int c)))) A (sNext)) C (slR i rs sg way a4 a5 a6 a7 a8 a9) S = C (slR i rs sg way a4 a5 a6 a7 a8 a9) S := seq_nxt ((way_if c A _ S a4 a5 a6 a7 a8 a9).trans (if_neg h))
theorem takeW {c : Int} (h : way = c) (A C : SV) (S : Sta) (a4 a5 a6 a7 a8 a9 : Option Vl) : sSeq (sIf (tOf (eBin eqF (eVar 3) (eC (.int c)))) A (sNext)) C (slR i rs sg way a4 a5 a6 a7 a8 a9) S = (A (slR i rs sg way a4 a5 a6 a7 a8 a9) S).andThen C := by
  show ((sIf _ A _ _ _).andThen C) = _
  rw [way_if, if_pos h]
theorem skipO {c d : Int} (h : ¬ (way = c ∨ way = d)) (A C : SV) (S : Sta) (a4 a5 a6 a7 a8 a9 : Option Vl) : sSeq (sIf (tOrW (tOf (eBin eqF (eVar 3) (eC (.int c)))) (tOf (eBin eqF (eVar 3) (eC (.int d))))) A (sNext)) C (slR i rs sg way a4 a5 a6 a7 a8 a9) S = C (slR i rs sg way a4 a5 a6 a7 a8 a9) S := seq_nxt ((way_or c d A _ S a4 a5 a6 a7 a8 a9).trans (if_neg h))
theorem takeO {c d : Int} (h : way = c ∨ way = d) (A C : SV) (S : Sta) (a4 a5 a6 a7 a8 a9 : Option Vl) : sSeq (sIf (tOrW (tOf (eBin eqF (eVar 3) (eC (.int c)))) (tOf (eBin eqF (eVar 3) (eC (.int d))))) A (sNext)) C (slR i rs sg way a4 a5 a6 a7 a8 a9) S = (A (slR i rs sg way a4 a5 a6 a7 a8 a9) S).andThen C := by
  show ((sIf _ A _ _ _).andThen C) = _
  rw [way_or, if_pos h]
noncomputable def bTail : SV := (sSeq (sIf (tOf (eBin eqF (eVar 3) (eC (.int 9)))) (sSet 9 (eTup (aCons (eCallF F__law_no_name [] (aCons (eVar 0) (aNil))) (aCons (eVar 6) (aNil))))) (sNext)) (sSeq (sIf (tOf (eBin eqF (eVar 3) (eC (.int 11)))) (sSet 9 (eBin ixF (eLst (aCons (eTup (aCons (eVar 5) (aNil))) (aCons (eLst (aCons (eVar 5) (aCons (eVar 6) (aNil)))) (aCons (eTup (aCons (eVar 5) (aCons (eVar 6) (aCons (eVar 6) (aNil))))) (aCons (eVar 5) (aNil)))))) (eCallF F__law_take [] (aCons (eVar 0) (aCons (eC (.int 4)) (aNil)))))) (sNext)) (sSeq (sIf (tOf (eBin eqF (eVar 3) (eC (.int 13)))) (sSet 9 (eTup (aCons (eVar 5) (aCons (eCallF F__law_no_name [] (aCons (eVar 0) (aNil))) (aNil))))) (sNext)) (sSeq (sIf (tOrW (tOf (eBin eqF (eVar 3) (eC (.int 14)))) (tOf (eBin eqF (eVar 3) (eC (.int 15))))) (sSet 9 (eTup (aCons (eVar 5) (aCons (eVar 2) (aNil))))) (sNext)) (sRet (eBin addF (eBin addF (eSl (eVar 1) (oNone) (oSome (eVar 4))) (eTup (aCons (eVar 9) (aNil)))) (eSl (eVar 1) (oSome (eBin addF (eVar 4) (eC (.int 1)))) (oNone))))))))
/-- the items put in place, by the way -/
theorem btail_ok (h : St3 B i n) (hn : n ≤ 2 ^ 27) (hl : rs.length ≤ 3) (k : Nat) (hk : k < rs.length) (c p : Str) (wc : Word c) (wp : Word p) (ws : Word sg) (a7 a8 a9 : Option Vl) (hw : way = 9 ∨ way = 11 ∨ way = 13 ∨ way = 14 ∨ way = 15) :
    ∃ (one : D) (B' : Bx), Adv i B B' ∧ St3 B' i (n + 50) ∧ tame 5 one = true ∧ ((way = 14 ∨ way = 15) ∧ one = rD (c, sg) ∨ ¬ (way = 14 ∨ way = 15) ∧ refB one = false) ∧ bTail (slR i rs sg way (some (.d (.int (k : Nat)))) (some (.d (.str c))) (some (.d (.str p))) a7 a8 a9) ⟨P, B⟩ = .ret (.d (.tup (repl rs k one))) ⟨P, B'⟩ := by
  have hi := h.lt
  unfold bTail
  rcases hw with rfl | rfl | rfl | rfl | rfl
  · obtain ⟨x, B1, b1, b2, A1, S1, E1⟩ := no_name_ok (P := P) h (by omega)
    refine ⟨.tup [x, .str p], B1, ⟨A1, S1.mono (by omega), ?_, .inr ⟨by omega, ?_⟩, ?_⟩⟩
    · have : tame 4 x = true := by
        have := b2
        exact tame_mono _ _ _ (by omega) this
      show tames 4 [x, .str p] = true
      simp [tames, this, tame_word wp]
    · simp [refB, b1]
    · rw [takeW rfl]
      have e : (sSet 9 (eTup (aCons (eCallF F__law_no_name [] (aCons (eVar 0) (aNil))) (aCons (eVar 6) (aNil))))) (slR i rs sg 9 (some (.d (.int (k : Nat)))) (some (.d (.str c))) (some (.d (.str p))) a7 a8 a9) ⟨P, B⟩ = .nxt (slR i rs sg 9 (some (.d (.int (k : Nat)))) (some (.d (.str c))) (some (.d (.str p))) a7 a8 (some (.d (.tup [x, .str p])))) ⟨P, B1⟩ := by simp [slR, E1, eTup]
      rw [e, andThen_nxt, skipW (by omega), skipW (by omega), skipO (by omega), refs_tail k hk hl]
  · obtain ⟨q, B1, q1, q2, A1, S1, E1⟩ := take_ok (P := P) h (by omega) (base := 4) (by omega) (by omega)
    let l : List D := [.tup [.str c], .lst [.str c, .str p], .tup [.str c, .str p, .str p], .str c]
    obtain ⟨x, x1, x2⟩ := atI_of l q q1 (by simp [l]; omega)
    have t : tame 5 x = true ∧ refB x = false := by
      simp only [l, List.mem_cons, List.not_mem_nil, or_false] at x2
      rcases x2 with rfl | rfl | rfl | rfl
      · exact ⟨by show tames 4 _ = true; simp [tames, tame_word wc], rfl⟩
      · exact ⟨by show tames 4 _ = true; simp [tames, tame_word wc, tame_word wp], rfl⟩
      · exact ⟨by show tames 4 _ = true; simp [tames, tame_word wc, tame_word wp], rfl⟩
      · exact ⟨tame_word wc 5, rfl⟩
    refine ⟨x, B1, ⟨A1, S1.mono (by omega), t.1, .inr ⟨by omega, t.2⟩, ?_⟩⟩
    have x1' : atI [D.tup [.str c], .lst [.str c, .str p], .tup [.str c, .str p, .str p], .str c] q = some x := x1
    rw [skipW (by omega), takeW rfl]
    have e : (sSet 9 (eBin ixF (eLst (aCons (eTup (aCons (eVar 5) (aNil))) (aCons (eLst (aCons (eVar 5) (aCons (eVar 6) (aNil)))) (aCons (eTup (aCons (eVar 5) (aCons (eVar 6) (aCons (eVar 6) (aNil))))) (aCons (eVar 5) (aNil)))))) (eCallF F__law_take [] (aCons (eVar 0) (aCons (eC (.int 4)) (aNil)))))) (slR i rs sg 11 (some (.d (.int (k : Nat)))) (some (.d (.str c))) (some (.d (.str p))) a7 a8 a9) ⟨P, B⟩ = .nxt (slR i rs sg 11 (some (.d (.int (k : Nat)))) (some (.d (.str c))) (some (.d (.str p))) a7 a8 (some (.d x))) ⟨P, B1⟩ := by simp [slR, E1, eTup, eLst, x1']
    rw [e, andThen_nxt, skipW (by omega), skipO (by omega), refs_tail k hk hl]
  · obtain ⟨x, B1, b1, b2, A1, S1, E1⟩ := no_name_ok (P := P) h (by omega)
    refine ⟨.tup [.str c, x], B1, ⟨A1, S1.mono (by omega), ?_, .inr ⟨by omega, ?_⟩, ?_⟩⟩
    · have : tame 4 x = true := tame_mono _ _ _ (by omega) b2
      show tames 4 [.str c, x] = true
      simp [tames, this, tame_word wc]
    · simp [refB, b1]
    · rw [skipW (by omega), skipW (by omega), takeW rfl]
      have e : (sSet 9 (eTup (aCons (eVar 5) (aCons (eCallF F__law_no_name [] (aCons (eVar 0) (aNil))) (aNil))))) (slR i rs sg 13 (some (.d (.int (k : Nat)))) (some (.d (.str c))) (some (.d (.str p))) a7 a8 a9) ⟨P, B⟩ = .nxt (slR i rs sg 13 (some (.d (.int (k : Nat)))) (some (.d (.str c))) (some (.d (.str p))) a7 a8 (some (.d (.tup [.str c, x])))) ⟨P, B1⟩ := by simp [slR, E1, eTup]
      rw [e, andThen_nxt, skipO (by omega), refs_tail k hk hl]
  · refine ⟨rD (c, sg), B, ⟨Adv.refl hi, h.mono (by omega), tame_rD wc ws 4, .inl ⟨.inl rfl, rfl⟩, ?_⟩⟩
    rw [skipW (by omega), skipW (by omega), skipW (by omega), takeO (.inl rfl)]
    have e : (sSet 9 (eTup (aCons (eVar 5) (aCons (eVar 2) (aNil))))) (slR i rs sg 14 (some (.d (.int (k : Nat)))) (some (.d (.str c))) (some (.d (.str p))) a7 a8 a9) ⟨P, B⟩ = .nxt (slR i rs sg 14 (some (.d (.int (k : Nat)))) (some (.d (.str c))) (some (.d (.str p))) a7 a8 (some (.d (rD (c, sg))))) ⟨P, B⟩ := by simp [slR, eTup, rD]
    rw [e, andThen_nxt, refs_tail k hk hl]
  · refine ⟨rD (c, sg), B, ⟨Adv.refl hi, h.mono (by omega), tame_rD wc ws 4, .inl ⟨.inr rfl, rfl⟩, ?_⟩⟩
    rw [skipW (by omega), skipW (by omega), skipW (by omega), takeO (.inr rfl)]
    have e : (sSet 9 (eTup (aCons (eVar 5) (aCons (eVar 2) (aNil))))) (slR i rs sg 15 (some (.d (.int (k : Nat)))) (some (.d (.str c))) (some (.d (.str p))) a7 a8 a9) ⟨P, B⟩ = .nxt (slR i rs sg 15 (some (.d (.int (k : Nat)))) (some (.d (.str c))) (some (.d (.str p))) a7 a8 (some (.d (rD (c, sg))))) ⟨P, B⟩ := by simp [slR, eTup, rD]
    rw [e, andThen_nxt, refs_tail k hk hl]
end
end Wk

set_option Elab.async false
set_option linter.all false
set_option maxRecDepth 100000
set_option maxHeartbeats 4000000
namespace Wk
open PySem PySem.Spec PyProof.Rows L2 Ev
open Classical
section
variable {P : List Ob} {B : Bx} {i : Nat} {n : Int} {rs : List (Str × Str)} {sg : Str} {way : Int}
theorem repl_set (k : Nat) (hk : k < rs.length) (r : Str × Str) : repl rs k (rD r) = (rs.set k r).map rD := by
  unfold repl
  rw [List.set_eq_take_append_cons_drop, if_pos hk]
  simp
theorem long_refs {l : List D} (h : 3 < l.length) : refsX (.tup l) = false := by
  show (decide (l.length ≤ 3) && (l.all refB && distinct l)) = false
  rw [decide_eq_false (by omega)]; rfl
theorem twice_refs {l : List D} {ys : List Str} (h : l.map head0 = ys.map D.str) (nd : ¬ ys.Nodup) : refsX (.tup l) = false := by
  show (decide (l.length ≤ 3) && (l.all refB && distinct l)) = false
  rw [distinct_strs h, decide_eq_false nd]; simp
theorem brefs_ok (h : St3 B i n) (hn : n ≤ 2 ^ 26) (h1 : 1 ≤ rs.length) (h2 : rs.length ≤ 3) (hw : ∀ r ∈ rs, Word r.1 ∧ Word r.2) (ws : Word sg) (hway : way = 7 ∨ way = 8 ∨ way = 10 ∨ (way = 9 ∨ way = 11 ∨ way = 13 ∨ way = 14 ∨ way = 15)) :
    ∃ (v : Vl) (x : D) (B' : Bx), frz v = .d x ∧ Adv i B B' ∧ St3 B' i (n + 400) ∧ ((way = 14 ∨ way = 15) ∧ (∃ k, k < rs.length ∧ x = .tup ((rs.set k ((rs[k]!).1, sg)).map rD)) ∨ ¬ (way = 14 ∨ way = 15) ∧ RefBad x) ∧ F__law_bent_references [.box i, .d (.tup (rs.map rD)), .d (.str sg), .d (.int way)] ⟨P, B⟩ = .ok v ⟨P, B'⟩ := by
  obtain ⟨k, B1, hk, A1, S1, hd⟩ := refs_head (P := P) (sg := sg) (way := way) h (by omega) h1 h2
  have mem : rs[k]! ∈ rs := by
    have : rs[k]! = rs[k] := by simp [hk]
    rw [this]; exact List.getElem_mem hk
  obtain ⟨wc, wp⟩ := hw _ mem
  have call : ∀ (v : Vl) (B' : Bx), Adv i B B' → (match v with | .box _ => False | _ => True) → t__law_bent_references (slR i rs sg way none none none none none none) ⟨P, B⟩ = .ret v ⟨P, B'⟩ → F__law_bent_references [.box i, .d (.tup (rs.map rD)), .d (.str sg), .d (.int way)] ⟨P, B⟩ = .ok v ⟨P, B'⟩ := by
    rintro v B' ⟨y, rfl⟩ hv e
    unfold F__law_bent_references
    refine (mkFn_eq rfl).trans ?_
    show fin B.length (t__law_bent_references (slR i rs sg way none none none none none none) ⟨P, B⟩) = _
    rw [e]
    cases v with
    | d x => simp
    | new l => simp
    | box j => exact hv.elim
  have tames_ := tame_refs hw
  unfold t__law_bent_references at call
  rcases hway with rfl | rfl | rfl | hway
  · refine ⟨.new (rs.map rD), .lst (rs.map rD), B1, rfl, A1, S1.mono (by omega), .inr ⟨by omega, rfl, tames_⟩, call _ _ A1 trivial ?_⟩
    rw [hd, takeW rfl]
    simp [slR]
  · obtain ⟨words, B2, c1, c2, c3, A2, S2, E2⟩ := words_ok (P := P) (cnt := 4 - (rs.length : Nat)) S1 (by omega) (by omega) (by omega)
    let items : List D := words.map fun w => rD (w, (rs[k]!).2)
    let x : D := .tup (rs.map rD ++ items)
    have li : items.length = words.length := by simp [items]
    refine ⟨.d x, x, B2, rfl, A1.trans A2, S2.mono (by omega), .inr ⟨by omega, long_refs (by simp; omega), ?_⟩, call _ _ (A1.trans A2) trivial ?_⟩
    · show tames 5 (rs.map rD ++ items) = true
      refine tames_iff.mpr fun y hy => ?_
      rcases List.mem_append.mp hy with hy | hy
      · exact tames_iff.mp tames_ y hy
      · obtain ⟨w, hw2, rfl⟩ := List.mem_map.mp hy
        exact tame_rD (r := (w, (rs[k]!).2)) (c3 w hw2) wp 4
    · rw [hd, skipW (by omega), takeW rfl]
      have l1 := lc_map (chk := fun _ => true) (tg := gNm 7) (T := eTup (aCons (eVar 7) (aCons (eVar 6) (aNil)))) (σ := slR i rs sg 8 (some (.d (.int (k : Nat)))) (some (.d (.str (rs[k]!).1))) (some (.d (.str (rs[k]!).2))) none none none) (S := ⟨P, B2⟩) (fun z => match z with | .str w => rD (w, (rs[k]!).2) | _ => .non) (items := words.map D.str) rfl (fun z hz => by
        obtain ⟨w, _, rfl⟩ := List.mem_map.mp hz
        exact ⟨_, rfl, by simp [slR, eTup, rD]⟩) (by rw [List.length_map]; exact le_sizeLine (by omega))
      have em : (words.map D.str).map (fun z => match z with | .str w => rD (w, (rs[k]!).2) | _ => .non) = items := by
        rw [List.map_map]; rfl
      rw [em] at l1
      have i1 : iOf itemsA (eCallF F__law_words [] (aCons (eVar 0) (aCons (eBin subF (eC (.int 4)) (eCall lenF (aCons (eVar 1) (aNil)))) (aNil)))) (slR i rs sg 8 (some (.d (.int (k : Nat)))) (some (.d (.str (rs[k]!).1))) (some (.d (.str (rs[k]!).2))) none none none) ⟨P, B1⟩ = .ok (words.map D.str, fun _ => true) ⟨P, B2⟩ := by
        simp [slR, E2]
      have v1 := eLc_ok (vs := [7]) i1 l1
      have sz : (rs.map rD).length + items.length ≤ sizeLine := le_sizeLine (by simp; omega)
      simp only [sRet, eBin, eCall, aCons, aNil, v1, eVar, slR, List.getElem?_cons_succ, List.getElem?_cons_zero, Out.bind_ok, frz_d, frz_new, tupleF_lst, addF_tup, if_pos sz, Out.st_ok, andThen_ret]
      rfl
  · obtain ⟨d, B2, d1, d2, A2, S2, E2⟩ := take_ok (P := P) S1 (by omega) (base := (rs.length : Nat) + 1) (by omega) (by omega)
    obtain ⟨t, rfl⟩ := Int.eq_ofNat_of_zero_le d1
    have ht : t ≤ rs.length := by omega
    let l : List D := (rs.map rD).take t ++ [rD (rs[k]!)] ++ (rs.map rD).drop t
    have ll : l.length = rs.length + 1 := by simp [l]; omega
    have hh : l.map head0 = ((rs.map (·.1)).take t ++ [(rs[k]!).1] ++ (rs.map (·.1)).drop t).map D.str := by
      simp only [l, List.map_append, List.map_take, List.map_drop, heads_refs, List.map_cons, List.map_nil]
      rfl
    refine ⟨.d (.tup l), .tup l, B2, rfl, A1.trans A2, S2.mono (by omega), .inr ⟨by omega, ?_, ?_⟩, call _ _ (A1.trans A2) trivial ?_⟩
    · refine twice_refs hh fun nd => ?_
      have hm : (rs[k]!).1 ∈ (rs.map (·.1)).take t ++ (rs.map (·.1)).drop t := by
        rw [List.take_append_drop]; exact List.mem_map_of_mem (f := fun r : Str × Str => r.1) mem
      have nd2 := List.nodup_append.mp nd
      have nd3 := List.nodup_append.mp nd2.1
      rcases List.mem_append.mp hm with hm | hm
      · exact nd3.2.2 _ hm _ (by simp) rfl
      · exact nd2.2.2 _ (List.mem_append_right _ (by simp)) _ hm rfl
    · show tames 5 l = true
      refine tames_iff.mpr fun y hy => ?_
      simp only [l, List.mem_append, List.mem_singleton] at hy
      rcases hy with (hy | rfl) | hy
      · exact tames_iff.mp tames_ y (List.mem_of_mem_take hy)
      · exact tame_rD wc wp 4
      · exact tames_iff.mp tames_ y (List.mem_of_mem_drop hy)
    · rw [hd, skipW (by omega), skipW (by omega), takeW rfl]
      have e1 : cut (rs.map rD) none (some (t : Int)) = (rs.map rD).take t := cut_pre _ t (by simp; omega)
      have e2 : cut (rs.map rD) (some (t : Int)) none = (rs.map rD).drop t := cut_suf _ t (by simp; omega)
      have z1 : ((rs.map rD).take t).length + [rD (rs[k]!)].length ≤ sizeLine := le_sizeLine (by simp; omega)
      have z2 : ((rs.map rD).take t ++ [rD (rs[k]!)]).length + ((rs.map rD).drop t).length ≤ sizeLine := le_sizeLine (by simp; omega)
      have x1 : (sSet 8 (eCallF F__law_take [] (aCons (eVar 0) (aCons (eBin addF (eCall lenF (aCons (eVar 1) (aNil))) (eC (.int 1))) (aNil))))) (slR i rs sg 10 (some (.d (.int (k : Nat)))) (some (.d (.str (rs[k]!).1))) (some (.d (.str (rs[k]!).2))) none none none) ⟨P, B1⟩ = .nxt (slR i rs sg 10 (some (.d (.int (k : Nat)))) (some (.d (.str (rs[k]!).1))) (some (.d (.str (rs[k]!).2))) none (some (.d (.int (t : Nat)))) none) ⟨P, B2⟩ := by simp [slR, E2]
      rw [seq_nxt x1]
      have et : eTup (aCons (eTup (aCons (eVar 5) (aCons (eVar 6) (aNil)))) (aNil)) (slR i rs sg 10 (some (.d (.int (k : Nat)))) (some (.d (.str (rs[k]!).1))) (some (.d (.str (rs[k]!).2))) none (some (.d (.int (t : Nat)))) none) ⟨P, B2⟩ = .ok (.d (.tup [rD (rs[k]!)])) ⟨P, B2⟩ := by simp [eTup, slR, rD]
      simp only [slR] at et ⊢
      simp only [sRet, eBin, eSl, oNone, oSome, eVar, eC, List.getElem?_cons_succ, List.getElem?_cons_zero, Out.bind_ok, frz_d, slF_tup, e1, et, addF_tup, if_pos z1, e2, if_pos z2, Out.st_ok, andThen_ret]
      rfl
  · have x0 : ∀ (S : Sta), (sSet 9 (eTup (aCons (eVar 5) (aCons (eVar 6) (aCons (eVar 6) (aNil)))))) (slR i rs sg way (some (.d (.int (k : Nat)))) (some (.d (.str (rs[k]!).1))) (some (.d (.str (rs[k]!).2))) none none none) S = .nxt (slR i rs sg way (some (.d (.int (k : Nat)))) (some (.d (.str (rs[k]!).1))) (some (.d (.str (rs[k]!).2))) none none (some (.d (.tup [.str (rs[k]!).1, .str (rs[k]!).2, .str (rs[k]!).2])))) S := fun S => by simp [slR, eTup]
    obtain ⟨one, B2, A2, S2, to_, hone, E2⟩ := btail_ok (P := P) (way := way) S1 (by omega) h2 k hk _ _ wc wp ws none none (some (.d (.tup [.str (rs[k]!).1, .str (rs[k]!).2, .str (rs[k]!).2]))) hway
    refine ⟨.d (.tup (repl rs k one)), .tup (repl rs k one), B2, rfl, A1.trans A2, S2.mono (by omega), ?_, call _ _ (A1.trans A2) trivial ?_⟩
    · rcases hone with ⟨h14, rfl⟩ | ⟨h14, hb⟩
      · exact .inl ⟨h14, k, hk, by rw [repl_set k hk]⟩
      · exact .inr ⟨h14, bad_repl hw k to_ hb⟩
    · rw [hd, skipW (by omega), skipW (by omega), skipW (by omega), seq_nxt (x0 _)]
      exact E2
end
end Wk

set_option Elab.async false
set_option linter.all false
set_option maxRecDepth 100000
set_option maxHeartbeats 4000000
namespace Wk
open PySem PySem.Spec PyProof.Rows L2 Ev
open Classical
theorem tabB3 (n u r : D) : tabB (.tup [n, u, r]) = (nameB n && (isBl u && refsX r)) := by
  cases r with
  | tup rs => rfl
  | _ => simp [tabB, refsX]
abbrev slB (i : Nat) (e : Ent) (sg : Str) (way : Int) (a4 a5 a6 : Option Vl) : Sl := [some (.box i), some (.d (eD e)), some (.d (.str sg)), some (.d (.int way)), a4, a5, a6]
section
variable {P : List Ob} {B : Bx} {i : Nat} {n : Int} {e : Ent} {sg : Str} {way : Int}
noncomputable def A5 : SV := (sIf (tOf (eBin eqF (eVar 3) (eC (.int 5)))) (sSet 4 (eCallF F__law_no_name [] (aCons (eVar 0) (aNil)))) (sNext))
noncomputable def A6 : SV := (sIf (tOrW (tOf (eBin eqF (eVar 3) (eC (.int 6)))) (tOf (eBin eqF (eVar 3) (eC (.int 15))))) (sSet 5 (eBin ixF (eLst (aCons (eCall intF (aCons (eVar 5) (aNil))) (aCons (eC .non) (aCons (eC (.str "any")) (aCons (eC (.int 2)) (aNil)))))) (eCallF F__law_take [] (aCons (eVar 0) (aCons (eC (.int 4)) (aNil)))))) (sNext))
noncomputable def A7 : SV := (sIf (tOf (eBin inF (eVar 3) (eTup (aCons (eC (.int 7)) (aCons (eC (.int 8)) (aCons (eC (.int 9)) (aCons (eC (.int 10)) (aCons (eC (.int 11)) (aCons (eC (.int 13)) (aCons (eC (.int 14)) (aCons (eC (.int 15)) (aNil)))))))))))) (sSet 6 (eCallF F__law_bent_references [] (aCons (eVar 0) (aCons (eVar 6) (aCons (eVar 2) (aCons (eVar 3) (aNil))))))) (sNext))
noncomputable def A12 : SV := (sIf (tOf (eBin eqF (eVar 3) (eC (.int 12)))) (sRet (eBin ixF (eLst (aCons (eLst (aCons (eVar 4) (aCons (eVar 5) (aCons (eVar 6) (aNil))))) (aCons (eTup (aCons (eVar 4) (aCons (eVar 5) (aNil)))) (aCons (eTup (aCons (eVar 4) (aCons (eVar 5) (aCons (eVar 6) (aCons (eTup (aNil)) (aNil)))))) (aCons (eVar 4) (aNil)))))) (eCallF F__law_take [] (aCons (eVar 0) (aCons (eC (.int 4)) (aNil)))))) (sNext))
noncomputable def Aend : SV := (sRet (eTup (aCons (eVar 4) (aCons (eVar 5) (aCons (eVar 6) (aNil))))))
theorem a5_skip (h : way ≠ 5) (S : Sta) (a4 a5 a6 : Option Vl) : A5 (slB i e sg way a4 a5 a6) S = .nxt (slB i e sg way a4 a5 a6) S := by simp [A5, slB, h]
theorem a6_skip (h : way ≠ 6) (h2 : way ≠ 15) (S : Sta) (a4 a5 a6 : Option Vl) : A6 (slB i e sg way a4 a5 a6) S = .nxt (slB i e sg way a4 a5 a6) S := by simp [A6, slB, h, h2]
theorem a12_skip (h : way ≠ 12) (S : Sta) (a4 a5 a6 : Option Vl) : A12 (slB i e sg way a4 a5 a6) S = .nxt (slB i e sg way a4 a5 a6) S := by simp [A12, slB, h]
theorem in_ways (w : Int) (S : Sta) : inF (.d (.int w)) (.d (.tup [.int 7, .int 8, .int 9, .int 10, .int 11, .int 13, .int 14, .int 15])) S = .ok (.d (.bl (decide (w = 7 ∨ w = 8 ∨ w = 9 ∨ w = 10 ∨ w = 11 ∨ w = 13 ∨ w = 14 ∨ w = 15)))) S := by
  have e : inB (.d (.int w)) (.d (.tup [.int 7, .int 8, .int 9, .int 10, .int 11, .int 13, .int 14, .int 15])) S = some (decide (w = 7 ∨ w = 8 ∨ w = 9 ∨ w = 10 ∨ w = 11 ∨ w = 13 ∨ w = 14 ∨ w = 15)) := by
    show (if flatD (.int w) = true ∧ ([D.int 7, .int 8, .int 9, .int 10, .int 11, .int 13, .int 14, .int 15] : List D).all flatD = true then some (inD (.int w) [D.int 7, .int 8, .int 9, .int 10, .int 11, .int 13, .int 14, .int 15]) else none) = _
    rw [if_pos ⟨rfl, rfl⟩]
    congr 1
    simp only [inD, List.any_cons, List.any_nil, eqD_int, Bool.or_false]
    have sy : ∀ k : Int, decide (k = w) = decide (w = k) := fun k => by
      by_cases h : k = w
      · subst h; rfl
      · rw [decide_eq_false h, decide_eq_false fun z => h z.symm]
    rw [sy, sy, sy, sy, sy, sy, sy, sy]
    simp only [Bool.decide_or]
  unfold inF
  rw [e]
theorem a7_skip (h : ¬ (way = 7 ∨ way = 8 ∨ way = 9 ∨ way = 10 ∨ way = 11 ∨ way = 13 ∨ way = 14 ∨ way = 15)) (S : Sta) (a4 a5 a6 : Option Vl) : A7 (slB i e sg way a4 a5 a6) S = .nxt (slB i e sg way a4 a5 a6) S := by
  have et : ∀ (σ : Sl) (S : Sta), eTup (aCons (eC (.int 7)) (aCons (eC (.int 8)) (aCons (eC (.int 9)) (aCons (eC (.int 10)) (aCons (eC (.int 11)) (aCons (eC (.int 13)) (aCons (eC (.int 14)) (aCons (eC (.int 15)) (aNil))))))))) σ S = .ok (.d (.tup [.int 7, .int 8, .int 9, .int 10, .int 11, .int 13, .int 14, .int 15])) S := fun σ S => by simp [eTup]
  simp only [A7, sIf, tOf, eBin, eVar, slB, List.getElem?_cons_succ, List.getElem?_cons_zero, Out.bind_ok, et, frz_d, in_ways, decide_eq_false h, Out.stB_ok, Bool.false_eq_true, if_false, sNext]
theorem a7_take (h : (way = 7 ∨ way = 8 ∨ way = 9 ∨ way = 10 ∨ way = 11 ∨ way = 13 ∨ way = 14 ∨ way = 15)) (S S2 : Sta) (a4 a5 : Option Vl) (x y : D) (v : Vl) (hv : frz v = .d y) (hc : F__law_bent_references [.box i, .d x, .d (.str sg), .d (.int way)] S = .ok v S2) : A7 (slB i e sg way a4 a5 (some (.d x))) S = .nxt (slB i e sg way a4 a5 (some (.d y))) S2 := by
  have et : ∀ (σ : Sl) (S : Sta), eTup (aCons (eC (.int 7)) (aCons (eC (.int 8)) (aCons (eC (.int 9)) (aCons (eC (.int 10)) (aCons (eC (.int 11)) (aCons (eC (.int 13)) (aCons (eC (.int 14)) (aCons (eC (.int 15)) (aNil))))))))) σ S = .ok (.d (.tup [.int 7, .int 8, .int 9, .int 10, .int 11, .int 13, .int 14, .int 15])) S := fun σ S => by simp [eTup]
  simp only [A7, sIf, tOf, eBin, eVar, slB, List.getElem?_cons_succ, List.getElem?_cons_zero, Out.bind_ok, et, frz_d, in_ways, decide_eq_true h, Out.stB_ok, if_true, sSet, eCallF, aCons, aNil, frz_box, List.map_nil, List.append_nil, hc, Out.st_ok, hv]
  rfl
theorem aend (S : Sta) (x y z : D) : Aend (slB i e sg way (some (.d x)) (some (.d y)) (some (.d z))) S = .ret (.d (.tup [x, y, z])) S := by simp [Aend, slB, eTup]
/-- a flag that is none -/
theorem flag_ok (h : St3 B i n) (hn : n ≤ 2 ^ 27) (hw : way = 6 ∨ way = 15) (a4 a6 : Option Vl) (b : Bool) : ∃ (y : D) (B1 : Bx), isBl y = false ∧ tame 5 y = true ∧ Adv i B B1 ∧ St3 B1 i (n + 1) ∧ A6 (slB i e sg way a4 (some (.d (.bl b))) a6) ⟨P, B⟩ = .nxt (slB i e sg way a4 (some (.d y)) a6) ⟨P, B1⟩ := by
  obtain ⟨q, B1, q1, q2, A1, S1, E1⟩ := take_ok (P := P) h (by omega) (base := 4) (by omega) (by omega)
  let l : List D := [.int (if b = true then 1 else 0), .non, .str (Str.ofString "any"), .int 2]
  obtain ⟨y, y1, y2⟩ := atI_of l q q1 (by simp [l]; omega)
  have y1' : atI [D.int (if b = true then 1 else 0), .non, .str (Str.ofString "any"), .int 2] q = some y := y1
  refine ⟨y, B1, ?_, ?_, A1, S1, ?_⟩
  · simp only [l, List.mem_cons, List.not_mem_nil, or_false] at y2
    rcases y2 with rfl | rfl | rfl | rfl <;> rfl
  · simp only [l, List.mem_cons, List.not_mem_nil, or_false] at y2
    have : (Str.ofString "any").length = 3 := by decide +kernel
    rcases y2 with rfl | rfl | rfl | rfl <;> simp [tame, this]
  · have ib : ∀ S : Sta, intF [.d (.bl b)] S = .ok (.d (.int (if b = true then 1 else 0))) S := fun _ => rfl
    rcases hw with rfl | rfl
    · simp [A6, slB, eLst, E1, y1', ib]
    · simp [A6, slB, eLst, E1, y1', ib]
/-- a table that one may spoil -/
structure EntR (e : Ent) : Prop where
  w : EntW e
  one : 1 ≤ e.refs.length
theorem btable_ok (h : St3 B i n) (hn : n ≤ 2 ^ 25) (he : EntR e) (ws : Word sg) (hway : way = 5 ∨ way = 6 ∨ way = 7 ∨ way = 8 ∨ way = 9 ∨ way = 10 ∨ way = 11 ∨ way = 12 ∨ way = 13 ∨ way = 14 ∨ way = 15) :
    ∃ (x : D) (B' : Bx), Adv i B B' ∧ St3 B' i (n + 500) ∧ (way = 14 ∧ (∃ k, k < e.refs.length ∧ x = eD { e with refs := e.refs.set k ((e.refs[k]!).1, sg) }) ∨ way ≠ 14 ∧ tabB x = false ∧ tame 8 x = true) ∧ F__law_bent_table [.box i, .d (eD e), .d (.str sg), .d (.int way)] ⟨P, B⟩ = .ok (.d x) ⟨P, B'⟩ := by
  have hi := h.lt
  have tn := tame_word he.w.w
  have tr : ∀ m, tame (m + 6) (.tup (e.refs.map rD)) = true := fun m => tame_mono 6 _ _ (by omega) (show tames 5 _ = true from tame_refs he.w.col)
  have call : ∀ (x : D) (B' : Bx), Adv i B B' → (sSeq A5 (sSeq A6 (sSeq A7 (sSeq A12 Aend)))) (slB i e sg way (some (.d (.str e.name))) (some (.d (.bl e.uq))) (some (.d (.tup (e.refs.map rD))))) ⟨P, B⟩ = .ret (.d x) ⟨P, B'⟩ → F__law_bent_table [.box i, .d (eD e), .d (.str sg), .d (.int way)] ⟨P, B⟩ = .ok (.d x) ⟨P, B'⟩ := by
    rintro x B' ⟨y, rfl⟩ q
    unfold F__law_bent_table
    refine (mkFn_eq rfl).trans ?_
    show fin B.length (t__law_bent_table (slB i e sg way none none none) ⟨P, B⟩) = _
    have x1 : (sUnp (gTp 3 (gMore (gNm 4) (gMore (gNm 5) (gMore (gNm 6) (gNone))))) (eVar 1)) (slB i e sg way none none none) ⟨P, B⟩ = .nxt (slB i e sg way (some (.d (.str e.name))) (some (.d (.bl e.uq))) (some (.d (.tup (e.refs.map rD))))) ⟨P, B⟩ := by simp [slB, eD]
    show fin B.length (sSeq _ (sSeq A5 (sSeq A6 (sSeq A7 (sSeq A12 Aend)))) _ _) = _
    rw [seq_nxt x1, q]
    simp
  have refs : ∀ {B0 : Bx} {m : Int}, St3 B0 i m → m ≤ 2 ^ 26 → (way = 7 ∨ way = 8 ∨ way = 10 ∨ (way = 9 ∨ way = 11 ∨ way = 13 ∨ way = 14 ∨ way = 15)) → _ := fun {B0 m} s hm hw => brefs_ok (P := P) (rs := e.refs) (sg := sg) (way := way) s hm he.one he.w.len he.w.col ws hw
  by_cases w5 : way = 5
  · subst w5
    obtain ⟨x, B1, b1, b2, A1, S1, E1⟩ := no_name_ok (P := P) h (by omega)
    refine ⟨.tup [x, .bl e.uq, .tup (e.refs.map rD)], B1, A1, S1.mono (by omega), .inr ⟨by omega, by rw [tabB3, b1]; rfl, ?_⟩, call _ _ A1 ?_⟩
    · show tames 7 _ = true
      simp only [tames, tame_mono 2 7 x (by omega) b2, tr 1, Bool.and_true, Bool.true_and]; rfl
    · have x5 : A5 (slB i e sg 5 (some (.d (.str e.name))) (some (.d (.bl e.uq))) (some (.d (.tup (e.refs.map rD))))) ⟨P, B⟩ = .nxt (slB i e sg 5 (some (.d x)) (some (.d (.bl e.uq))) (some (.d (.tup (e.refs.map rD))))) ⟨P, B1⟩ := by simp [A5, slB, E1]
      rw [seq_nxt x5, seq_nxt (a6_skip (by omega) (by omega) _ _ _ _), seq_nxt (a7_skip (by omega) _ _ _ _), seq_nxt (a12_skip (by omega) _ _ _ _), aend]
  · by_cases w6 : way = 6
    · subst w6
      obtain ⟨y, B1, y1, y2, A1, S1, E1⟩ := flag_ok (P := P) (e := e) (sg := sg) h (by omega) (.inl rfl) (some (.d (.str e.name))) (some (.d (.tup (e.refs.map rD)))) e.uq
      refine ⟨.tup [.str e.name, y, .tup (e.refs.map rD)], B1, A1, S1.mono (by omega), .inr ⟨by omega, by rw [tabB3, y1]; simp, ?_⟩, call _ _ A1 ?_⟩
      · show tames 7 _ = true
        simp only [tames, tn, tame_mono 5 7 y (by omega) y2, tr 1, Bool.and_true]
      · rw [seq_nxt (a5_skip (by omega) _ _ _ _), seq_nxt E1, seq_nxt (a7_skip (by omega) _ _ _ _), seq_nxt (a12_skip (by omega) _ _ _ _), aend]
    · by_cases w12 : way = 12
      · subst w12
        obtain ⟨q, B1, q1, q2, A1, S1, E1⟩ := take_ok (P := P) h (by omega) (base := 4) (by omega) (by omega)
        let l : List D := [.lst [.str e.name, .bl e.uq, .tup (e.refs.map rD)], .tup [.str e.name, .bl e.uq], .tup [.str e.name, .bl e.uq, .tup (e.refs.map rD), .tup []], .str e.name]
        obtain ⟨x, x1, x2⟩ := atI_of l q q1 (by simp [l]; omega)
        have x1' : atI [D.lst [.str e.name, .bl e.uq, .tup (e.refs.map rD)], .tup [.str e.name, .bl e.uq], .tup [.str e.name, .bl e.uq, .tup (e.refs.map rD), .tup []], .str e.name] q = some x := x1
        refine ⟨x, B1, A1, S1.mono (by omega), .inr ⟨by omega, ?_, ?_⟩, call _ _ A1 ?_⟩
        · simp only [l, List.mem_cons, List.not_mem_nil, or_false] at x2
          rcases x2 with rfl | rfl | rfl | rfl <;> simp [tabB]
        · simp only [l, List.mem_cons, List.not_mem_nil, or_false] at x2
          have z : ∀ m, tame m (.bl e.uq) = true := fun m => by cases m <;> rfl
          have z2 : tame 7 (.tup []) = true := rfl
          rcases x2 with rfl | rfl | rfl | rfl
          · show tames 7 _ = true
            simp only [tames, tn, z, tr 1, Bool.and_true]
          · show tames 7 _ = true
            simp only [tames, tn, z, Bool.and_true]
          · show tames 7 _ = true
            simp only [tames, tn, z, z2, tr 1, Bool.and_true]
          · exact tn 8
        · rw [seq_nxt (a5_skip (by omega) _ _ _ _), seq_nxt (a6_skip (by omega) (by omega) _ _ _ _), seq_nxt (a7_skip (by omega) _ _ _ _)]
          have x12 : A12 (slB i e sg 12 (some (.d (.str e.name))) (some (.d (.bl e.uq))) (some (.d (.tup (e.refs.map rD))))) ⟨P, B⟩ = .ret (.d x) ⟨P, B1⟩ := by
            simp [A12, slB, eLst, eTup, E1, x1']
          simp only [sSeq, x12, andThen_ret]
      · by_cases w15 : way = 15
        · subst w15
          obtain ⟨y, B1, y1, y2, A1, S1, E1⟩ := flag_ok (P := P) (e := e) (sg := sg) h (by omega) (.inr rfl) (some (.d (.str e.name))) (some (.d (.tup (e.refs.map rD)))) e.uq
          obtain ⟨v, z, B2, hv, A2, S2, hz, E2⟩ := refs S1 (by omega) (by omega)
          have tz : tame 6 z = true := by
            rcases hz with ⟨_, k, hk, rfl⟩ | ⟨hx, _⟩
            · refine show tames 5 _ = true from tames_iff.mpr fun x hx => ?_
              obtain ⟨r, hr, rfl⟩ := List.mem_map.mp hx
              have mem : e.refs[k]! ∈ e.refs := by
                have : e.refs[k]! = e.refs[k] := by simp [hk]
                rw [this]; exact List.getElem_mem hk
              rcases List.mem_or_eq_of_mem_set hr with hr | rfl
              · exact tame_rD (he.w.col r hr).1 (he.w.col r hr).2 4
              · exact tame_rD (r := ((e.refs[k]!).1, sg)) (he.w.col _ mem).1 ws 4
            · exact absurd (.inr rfl) hx
          refine ⟨.tup [.str e.name, y, z], B2, A1.trans A2, S2.mono (by omega), .inr ⟨by omega, by rw [tabB3, y1]; simp, ?_⟩, call _ _ (A1.trans A2) ?_⟩
          · show tames 7 _ = true
            simp only [tames, tn, tame_mono 5 7 y (by omega) y2, tame_mono 6 7 z (by omega) tz, Bool.and_true]
          · rw [seq_nxt (a5_skip (by omega) _ _ _ _), seq_nxt E1, seq_nxt (a7_take (by omega) _ _ _ _ _ z v hv E2), seq_nxt (a12_skip (by omega) _ _ _ _), aend]
        · have hw2 : way = 7 ∨ way = 8 ∨ way = 10 ∨ (way = 9 ∨ way = 11 ∨ way = 13 ∨ way = 14 ∨ way = 15) := by
            clear refs call; omega
          have hw3 : way = 7 ∨ way = 8 ∨ way = 9 ∨ way = 10 ∨ way = 11 ∨ way = 13 ∨ way = 14 ∨ way = 15 := by
            clear refs call; omega
          obtain ⟨v, z, B2, hv, A2, S2, hz, E2⟩ := refs h (by omega) hw2
          refine ⟨.tup [.str e.name, .bl e.uq, z], B2, A2, S2.mono (by omega), ?_, call _ _ A2 ?_⟩
          · rcases hz with ⟨h14, k, hk, rfl⟩ | ⟨h14, hb, ht⟩
            · exact .inl ⟨by omega, k, hk, rfl⟩
            · refine .inr ⟨by omega, by rw [tabB3, hb]; simp, ?_⟩
              show tames 7 _ = true
              simp only [tames, tn, tame_mono 6 7 z (by omega) ht, Bool.and_true]; rfl
          · rw [seq_nxt (a5_skip (by omega) _ _ _ _), seq_nxt (a6_skip (by omega) (by omega) _ _ _ _), seq_nxt (a7_take hw3 _ _ _ _ _ z v hv E2), seq_nxt (a12_skip (by omega) _ _ _ _), aend]
end
end Wk

set_option Elab.async false
set_option linter.all false
set_option maxRecDepth 100000
set_option maxHeartbeats 4000000
namespace Wk
open PySem PySem.Spec PyProof.Rows L2 Ev
open Classical
instance : Inhabited Ent := ⟨⟨Str.ofString "", false, []⟩⟩
abbrev slW (i : Nat) (p : List Ent) (words : List Str) (way : Int) (a4 a5 a6 a7 a8 a9 a10 a11 : Option Vl) : Sl := [some (.box i), some (.d (.lst (p.map eD))), some (.d (.lst (words.map D.str))), some (.d (.int way)), a4, a5, a6, a7, a8, a9, a10, a11]
/-- a plan that the law makes, of words whose sixth names no table -/
structure PlanR (words : List Str) (p : List Ent) : Prop where
  lo : 1 ≤ p.length
  hi : p.length ≤ 5
  nd : (p.map (·.name)).Nodup
  ent : ∀ e ∈ p, EntR e
  six : words.length = 6
  ww : ∀ w ∈ words, Word w
  out : ∀ w, words[5]? = some w → w ∉ p.map (·.name)
theorem PlanR.toW {words p} (h : PlanR words p) : PlanW p := ⟨h.lo, h.hi, h.nd, fun e he => (h.ent e he).w⟩
section
variable {P : List Ob} {B : Bx} {i : Nat} {n : Int} {p : List Ent} {words : List Str} {way : Int}
theorem skipB {c : Int} (h : way ≠ c) (A C : SV) (S : Sta) (a4 a5 a6 a7 a8 a9 a10 a11 : Option Vl) : sSeq (sIf (tOf (eBin eqF (eVar 3) (eC (.int c)))) A (sNext)) C (slW i p words way a4 a5 a6 a7 a8 a9 a10 a11) S = C (slW i p words way a4 a5 a6 a7 a8 a9 a10 a11) S := seq_nxt (by simp [slW, h])
theorem takeB {c : Int} (h : way = c) (A C : SV) (S : Sta) (a4 a5 a6 a7 a8 a9 a10 a11 : Option Vl) : sSeq (sIf (tOf (eBin eqF (eVar 3) (eC (.int c)))) A (sNext)) C (slW i p words way a4 a5 a6 a7 a8 a9 a10 a11) S = (A (slW i p words way a4 a5 a6 a7 a8 a9 a10 a11) S).andThen C := by
  show ((sIf _ A _ _ _).andThen C) = _
  congr 1
  simp [slW, h]
theorem plan_mem_bad {l : List D} {x : D} (h : x ∈ l) (hx : tabB x = false) : planB (.tup l) = false := by
  show (!l.isEmpty && (decide (l.length ≤ 5) && (l.all tabB && distinct l))) = false
  have : l.all tabB = false := by
    rw [Bool.eq_false_iff]
    intro z
    have := List.all_eq_true.mp z x h
    rw [hx] at this; cases this
  rw [this]; simp
theorem plan_long {l : List D} (h : 5 < l.length) : planB (.tup l) = false := by
  show (!l.isEmpty && (decide (l.length ≤ 5) && (l.all tabB && distinct l))) = false
  rw [decide_eq_false (by omega)]; simp
theorem plan_twice {l : List D} {ys : List Str} (h : l.map head0 = ys.map D.str) (nd : ¬ ys.Nodup) : planB (.tup l) = false := by
  show (!l.isEmpty && (decide (l.length ≤ 5) && (l.all tabB && distinct l))) = false
  rw [distinct_strs h, decide_eq_false nd]; simp
/-- refused as no plan, or for its references -/
def Refused_ (way : Int) (x : D) (P' : List Ob) : Prop := way ≠ 14 ∧ (∀ B, F_is_plan [.d x] ⟨P' ++ [.ins "Schema" []], B⟩ = .ok (.d (.bl false)) ⟨P' ++ [.ins "Schema" []], B⟩) ∨ way = 14 ∧ ∃ p', x = planD p' ∧ PlanW p' ∧ inNames p' = false
theorem refused_no {x : D} {P' : List Ob} (hw : way ≠ 14) (ht : tame 14 x = true) (hb : planB x = false) : Refused_ way x P' := .inl ⟨hw, fun B => by rw [is_plan_gen (n := 10) (by omega) ht, hb]⟩
theorem refused_ty {x : D} {P' : List Ob} (hw : way ≠ 14) (h : ∀ B, eIsTy "tuple" (eVar 0) [some (.d x), none] ⟨P' ++ [.ins "Schema" []], B⟩ = .ok (.d (.bl false)) ⟨P' ++ [.ins "Schema" []], B⟩) : Refused_ way x P' := .inl ⟨hw, fun B => is_plan_no (h B)⟩
theorem tames_plan (h : PlanR words p) : tames 13 (p.map eD) = true := tames_iff.mpr fun x hx => by
  obtain ⟨e, he, rfl⟩ := List.mem_map.mp hx
  exact tame_eD (h.ent e he).w 10
theorem eD_set (k : Nat) (hk : k < p.length) (e : Ent) : (p.map eD).take k ++ [eD e] ++ (p.map eD).drop (k + 1) = (p.set k e).map eD := by
  rw [List.set_eq_take_append_cons_drop, if_pos hk]
  simp
theorem mem_set_self {α : Type} {l : List α} {k : Nat} {x : α} (h : k < l.length) : x ∈ l.set k x := List.mem_of_getElem? (i := k) (by rw [List.getElem?_set_self h])
theorem moved (h : PlanR words p) {sg : Str} (hs : words[5]? = some sg) {a k : Nat} (ha : a < p.length) (hk : k < (p[a]!).refs.length) : PlanW (p.set a { p[a]! with refs := (p[a]!).refs.set k (((p[a]!).refs[k]!).1, sg) }) ∧ inNames (p.set a { p[a]! with refs := (p[a]!).refs.set k (((p[a]!).refs[k]!).1, sg) }) = false := by
  have ea : p[a]! = p[a] := getElem!_pos p a ha
  have mem : p[a]! ∈ p := by rw [ea]; exact List.getElem_mem ha
  have er := h.ent _ mem
  have ws : Word sg := h.ww sg (List.mem_of_getElem? hs)
  have rk : (p[a]!).refs[k]! ∈ (p[a]!).refs := by
    have : (p[a]!).refs[k]! = (p[a]!).refs[k] := getElem!_pos _ k hk
    rw [this]; exact List.getElem_mem hk
  have names : (p.set a { p[a]! with refs := (p[a]!).refs.set k (((p[a]!).refs[k]!).1, sg) }).map (·.name) = p.map (·.name) := by
    rw [List.map_set]
    refine List.ext_getElem? fun j => ?_
    by_cases hj : a = j
    · subst hj
      rw [List.getElem?_set_self (by simpa using ha), List.getElem?_map, List.getElem?_eq_getElem ha]
      simp [ea]
    · rw [List.getElem?_set_ne hj]
  have keys : ((p[a]!).refs.set k (((p[a]!).refs[k]!).1, sg)).map (·.1) = (p[a]!).refs.map (·.1) := by
    rw [List.map_set]
    refine List.ext_getElem? fun j => ?_
    by_cases hj : k = j
    · subst hj
      rw [List.getElem?_set_self (by simpa using hk), List.getElem?_map, List.getElem?_eq_getElem hk]
      simp only [Option.map_some]
      rw [getElem!_pos _ k hk]
    · rw [List.getElem?_set_ne hj]
  refine ⟨⟨by simpa using h.lo, by simpa using h.hi, by rw [names]; exact h.nd, fun e he => ?_⟩, ?_⟩
  · rcases List.mem_or_eq_of_mem_set he with he | rfl
    · exact (h.ent e he).w
    · refine ⟨er.w.w, by simpa using er.w.len, by rw [keys]; exact er.w.nd, fun r hr => ?_⟩
      rcases List.mem_or_eq_of_mem_set hr with hr | rfl
      · exact er.w.col r hr
      · exact ⟨(er.w.col _ rk).1, ws⟩
  · unfold inNames
    rw [Bool.eq_false_iff]
    intro z
    have z2 := List.all_eq_true.mp z sg (by
      unfold places
      rw [List.mem_flatten]
      refine ⟨((p[a]!).refs.set k (((p[a]!).refs[k]!).1, sg)).map (·.2), List.mem_map.mpr ⟨_, mem_set_self (by simpa using ha), rfl⟩, ?_⟩
      exact List.mem_map.mpr ⟨(_, sg), mem_set_self (by simpa using hk), rfl⟩)
    rw [names] at z2
    exact h.out sg hs (of_decide_eq_true z2)
end
end Wk

set_option Elab.async false
set_option linter.all false
set_option maxRecDepth 100000
set_option maxHeartbeats 4000000
namespace Wk
open PySem PySem.Spec PyProof.Rows L2 Ev
open Classical
section
variable {P : List Ob} {B : Bx} {i : Nat} {n : Int} {p : List Ent} {words : List Str} {way : Int}
noncomputable def C4 : SV := (sSet 4 (eCallF F__law_take [] (aCons (eVar 0) (aCons (eCall lenF (aCons (eVar 1) (aNil))) (aNil)))))
noncomputable def C0 : SV := (sRet (eCall listF (aCons (eVar 1) (aNil))))
noncomputable def C1 : SV := (sRet (eBin ixF (eLst (aCons (eC .non) (aCons (eC (.int 5)) (aCons (eC (.str "ab")) (aCons (eDic0) (aNil)))))) (eCallF F__law_take [] (aCons (eVar 0) (aCons (eC (.int 4)) (aNil))))))
noncomputable def C3 : SV := (sRet (eCall tupleF (aCons (eLc [5] (iOf itemsA (eVar 2)) (gNm 5) (tTrue) (eTup (aCons (eVar 5) (aCons (eC (.bl true)) (aCons (eTup (aNil)) (aNil)))))) (aNil))))
noncomputable def C16a : SV := (sSet 9 (eBin addF (eLst (aCons (eTup (aCons (eVar 6) (aCons (eVar 7) (aCons (eCallF F__law_bent_references [] (aCons (eVar 0) (aCons (eVar 8) (aCons (eBin ixF (eVar 2) (eC (.int 5))) (aCons (eC (.int 14)) (aNil)))))) (aNil))))) (aNil))) (eSl (eVar 1) (oSome (eC (.int 1))) (oNone))))
noncomputable def C16u : SV := (sUnp (gTp 3 (gMore (gNm 6) (gMore (gNm 7) (gMore (gNm 8) (gNone))))) (eBin ixF (eVar 1) (eC (.int 0))))
noncomputable def C16v : SV := (sUnp (gTp 3 (gMore (gNm 6) (gMore (gNm 7) (gMore (gNm 8) (gNone))))) (eBin ixF (eVar 9) (eUn negF (eC (.int 1)))))
noncomputable def C16f : SV := (sSet 10 (eBin ixF (eLst (aCons (eCall intF (aCons (eVar 7) (aNil))) (aCons (eC .non) (aCons (eC (.str "any")) (aCons (eC (.int 2)) (aNil)))))) (eCallF F__law_take [] (aCons (eVar 0) (aCons (eC (.int 4)) (aNil))))))
noncomputable def C16r : SV := (sRet (eCall tupleF (aCons (eBin addF (eSl (eVar 9) (oNone) (oSome (eUn negF (eC (.int 1))))) (eLst (aCons (eTup (aCons (eVar 6) (aCons (eVar 10) (aCons (eVar 8) (aNil))))) (aNil)))) (aNil))))
noncomputable def C16 : SV := sSeq C16u (sSeq C16a (sSeq C16v (sSeq C16f C16r)))
noncomputable def C4w : SV := (sSeq (sSet 11 (eCallF F__law_take [] (aCons (eVar 0) (aCons (eBin addF (eCall lenF (aCons (eVar 1) (aNil))) (eC (.int 1))) (aNil))))) (sRet (eCall tupleF (aCons (eBin addF (eBin addF (eSl (eVar 1) (oNone) (oSome (eVar 11))) (eLst (aCons (eTup (aCons (eBin ixF (eBin ixF (eVar 1) (eVar 4)) (eC (.int 0))) (aCons (eC (.bl false)) (aCons (eTup (aNil)) (aNil))))) (aNil)))) (eSl (eVar 1) (oSome (eVar 11)) (oNone))) (aNil)))))
noncomputable def Cend : SV := (sRet (eCall tupleF (aCons (eBin addF (eBin addF (eSl (eVar 1) (oNone) (oSome (eVar 4))) (eLst (aCons (eCallF F__law_bent_table [] (aCons (eVar 0) (aCons (eBin ixF (eVar 1) (eVar 4)) (aCons (eBin ixF (eVar 2) (eC (.int 5))) (aCons (eVar 3) (aNil)))))) (aNil)))) (eSl (eVar 1) (oSome (eBin addF (eVar 4) (eC (.int 1)))) (oNone))) (aNil))))
noncomputable def whenC (c : Int) (A C : SV) : SV := sSeq (sIf (tOf (eBin eqF (eVar 3) (eC (.int c)))) A (sNext)) C
noncomputable def Crest : SV := whenC 0 C0 (whenC 1 C1 (whenC 2 (sRet (eTup (aNil))) (whenC 3 C3 (whenC 16 C16 (whenC 4 C4w Cend)))))
theorem bent_is : t__law_bent = sSeq C4 Crest := rfl
/-- what a way gives -/
def Gives (P : List Ob) (B : Bx) (i : Nat) (n : Int) (p : List Ent) (words : List Str) (way : Int) (k : Nat) (R : SV) : Prop := ∃ (v : Vl) (x : D) (P' : List Ob) (B' : Bx), (match v with | .box _ => False | _ => True) ∧ frz v = .d x ∧ Adv i B B' ∧ St3 B' i (n + 1000) ∧ Refused_ way x P' ∧ R (slW i p words way (some (.d (.int (k : Nat)))) none none none none none none none) ⟨P, B⟩ = .ret v ⟨P', B'⟩
theorem whenC_skip {c : Int} {A C : SV} {k : Nat} (h : way ≠ c) (g : Gives P B i n p words way k C) : Gives P B i n p words way k (whenC c A C) := by
  obtain ⟨v, x, P', B', a, b, c', d, e, f⟩ := g
  exact ⟨v, x, P', B', a, b, c', d, e, by rw [← f]; exact skipB h A C _ _ _ _ _ _ _ _ _⟩
theorem whenC_take {c : Int} {A C : SV} {k : Nat} (h : way = c) (g : Gives P B i n p words way k A) : Gives P B i n p words way k (whenC c A C) := by
  obtain ⟨v, x, P', B', a, b, c', d, e, f⟩ := g
  exact ⟨v, x, P', B', a, b, c', d, e, by
    refine (takeB h A C _ _ _ _ _ _ _ _ _).trans ?_
    rw [f]; rfl⟩
theorem adv_refl (h : St3 B i n) : Adv i B B := by
  obtain ⟨a, b, c, h, _⟩ := h
  obtain ⟨hl, he⟩ := List.getElem?_eq_some_iff.mp h
  exact ⟨B[i], (List.set_getElem_self hl).symm⟩
theorem way0 (h : St3 B i n) (hp : PlanR words p) (hw : way = 0) (k : Nat) : Gives P B i n p words way k C0 := by
  subst hw
  refine ⟨.new (p.map eD), .lst (p.map eD), P, B, trivial, rfl, adv_refl h, h.mono (by omega), refused_no (by omega) (show tames 13 _ = true from tames_plan hp) rfl, ?_⟩
  simp [C0, slW]
theorem way1 (h : St3 B i n) (hn : n ≤ 2 ^ 24) (hw : way = 1) (k : Nat) : Gives P B i n p words way k C1 := by
  subst hw
  obtain ⟨q, B1, q1, q2, A1, S1, E1⟩ := take_ok (P := P ++ [.dic []]) h (by omega) (base := 4) (by omega) (by omega)
  let l : List D := [.non, .int 5, .str (Str.ofString "ab"), .obj P.length]
  obtain ⟨y, y1, y2⟩ := atI_of l q q1 (by simp [l]; omega)
  have y1' : atI [D.non, .int 5, .str (Str.ofString "ab"), .obj P.length] q = some y := y1
  refine ⟨.d y, y, P ++ [.dic []], B1, trivial, rfl, A1, S1.mono (by omega), ?_, ?_⟩
  · have t2 : (Str.ofString "ab").length = 2 := by decide +kernel
    simp only [l, List.mem_cons, List.not_mem_nil, or_false] at y2
    rcases y2 with rfl | rfl | rfl | rfl
    · exact refused_no (by omega) rfl rfl
    · exact refused_no (by omega) (by simp [tame]) rfl
    · exact refused_no (by omega) (by simp [tame, t2]) rfl
    · refine refused_ty (by omega) fun B => ?_
      have g : ((P ++ [Ob.dic []]) ++ [Ob.ins "Schema" []])[P.length]? = some (.dic []) := by simp
      simp [tyN, isTab, g]
  · simp [C1, slW, eLst, E1, y1']
theorem way2 (h : St3 B i n) (hw : way = 2) (k : Nat) : Gives P B i n p words way k (sRet (eTup (aNil))) := by
  subst hw
  refine ⟨.d (.tup []), .tup [], P, B, trivial, rfl, adv_refl h, h.mono (by omega), refused_no (by omega) rfl rfl, ?_⟩
  simp [eTup, slW]
theorem way3 (h : St3 B i n) (hp : PlanR words p) (hw : way = 3) (k : Nat) : Gives P B i n p words way k C3 := by
  subst hw
  let l : List D := words.map fun w => .tup [.str w, .bl true, .tup []]
  have l6 : l.length = 6 := by simp [l, hp.six]
  have x1 : eLc [5] (iOf itemsA (eVar 2)) (gNm 5) (tTrue) (eTup (aCons (eVar 5) (aCons (eC (.bl true)) (aCons (eTup (aNil)) (aNil))))) (slW i p words 3 (some (.d (.int (k : Nat)))) none none none none none none none) ⟨P, B⟩ = .ok (.new l) ⟨P, B⟩ := by
    have sz : (words.map D.str).length ≤ sizeLine := le_sizeLine (by simp [hp.six])
    have l2 := lc_map (chk := fun _ => true) (tg := gNm 5) (T := eTup (aCons (eVar 5) (aCons (eC (.bl true)) (aCons (eTup (aNil)) (aNil))))) (σ := slW i p words 3 (some (.d (.int (k : Nat)))) none none none none none none none) (S := ⟨P, B⟩) (fun x => .tup [x, .bl true, .tup []]) (items := words.map D.str) rfl (fun x hx => by
      refine ⟨_, rfl, ?_⟩
      simp [slW, eTup]) sz
    have v2 := eLc_ok (vs := [5]) (I := iOf itemsA (eVar 2)) (σ := slW i p words 3 (some (.d (.int (k : Nat)))) none none none none none none none) (S := ⟨P, B⟩) (its := words.map D.str) (chk := fun _ => true) (by simp [slW]) l2
    rw [v2]
    simp [l]
  refine ⟨.d (.tup l), .tup l, P, B, trivial, rfl, adv_refl h, h.mono (by omega), refused_no (by omega) ?_ (plan_long (by omega)), ?_⟩
  · show tames 13 l = true
    refine tames_iff.mpr fun x hx => ?_
    obtain ⟨w, hw, rfl⟩ := List.mem_map.mp hx
    show tames 12 _ = true
    simp only [tames, tame_word (hp.ww w hw), Bool.and_true, Bool.true_and]
    rfl
  · simp only [C3, sRet, eCall, aCons, aNil, x1, Out.bind_ok, frz_new, tupleF_lst, Out.st_ok]
end
end Wk

set_option Elab.async false
set_option linter.all false
set_option maxRecDepth 100000
set_option maxHeartbeats 4000000
namespace Wk
open PySem PySem.Spec PyProof.Rows L2 Ev
open Classical
section
variable {P : List Ob} {B : Bx} {i : Nat} {n : Int} {p : List Ent} {words : List Str} {way : Int}
theorem at_ent {k : Nat} (hk : k < p.length) : atI (p.map eD) (k : Int) = some (eD (p[k]!)) := by
  rw [Ev.atI_nat, List.getElem?_map, List.getElem?_eq_getElem hk, getElem!_pos p k hk]; rfl
theorem ent_mem {k : Nat} (hk : k < p.length) : p[k]! ∈ p := by rw [getElem!_pos p k hk]; exact List.getElem_mem hk
theorem way4 (h : St3 B i n) (hn : n ≤ 2 ^ 24) (hp : PlanR words p) (hw : way = 4) (k : Nat) (hk : k < p.length) : Gives P B i n p words way k C4w := by
  subst hw
  have hl := hp.hi
  obtain ⟨d, B1, d1, d2, A1, S1, E1⟩ := take_ok (P := P) h (by omega) (base := (p.length : Nat) + 1) (by omega) (by omega)
  obtain ⟨t, rfl⟩ := Int.eq_ofNat_of_zero_le d1
  have ht : t ≤ p.length := by omega
  obtain ⟨e, he⟩ : ∃ e, p[k]! = e := ⟨_, rfl⟩
  have em := at_ent hk
  have ee := ent_mem hk
  rw [he] at em ee
  let one : D := .tup [.str e.name, .bl false, .tup []]
  let l : List D := (p.map eD).take t ++ [one] ++ (p.map eD).drop t
  have x1 : (sSet 11 (eCallF F__law_take [] (aCons (eVar 0) (aCons (eBin addF (eCall lenF (aCons (eVar 1) (aNil))) (eC (.int 1))) (aNil))))) (slW i p words 4 (some (.d (.int (k : Nat)))) none none none none none none none) ⟨P, B⟩ = .nxt (slW i p words 4 (some (.d (.int (k : Nat)))) none none none none none none (some (.d (.int (t : Nat))))) ⟨P, B1⟩ := by simp [slW, E1]
  have e1 : cut (p.map eD) none (some (t : Int)) = (p.map eD).take t := cut_pre _ t (by simp; omega)
  have e2 : cut (p.map eD) (some (t : Int)) none = (p.map eD).drop t := cut_suf _ t (by simp; omega)
  have z1 : ((p.map eD).take t).length + [one].length ≤ sizeLine := le_sizeLine (by simp; omega)
  have z2 : ((p.map eD).take t ++ [one]).length + ((p.map eD).drop t).length ≤ sizeLine := le_sizeLine (by simp; omega)
  have nm : ∀ S : Sta, ixF (.d (eD e)) (.d (.int 0)) S = .ok (.d (.str e.name)) S := fun S => by simp [eD]
  have eo : eLst (aCons (eTup (aCons (eBin ixF (eBin ixF (eVar 1) (eVar 4)) (eC (.int 0))) (aCons (eC (.bl false)) (aCons (eTup (aNil)) (aNil))))) (aNil)) (slW i p words 4 (some (.d (.int (k : Nat)))) none none none none none none (some (.d (.int (t : Nat))))) ⟨P, B1⟩ = .ok (.new [one]) ⟨P, B1⟩ := by
    simp [slW, eLst, eTup, em, nm, one]
  refine ⟨.d (.tup l), .tup l, P, B1, trivial, rfl, A1, S1.mono (by omega), refused_no (by omega) ?_ ?_, ?_⟩
  · show tames 13 l = true
    have tp := tames_plan hp
    refine tames_iff.mpr fun x hx => ?_
    simp only [l, List.mem_append, List.mem_singleton] at hx
    rcases hx with (hx | rfl) | hx
    · exact tames_iff.mp tp x (List.mem_of_mem_take hx)
    · show tames 12 _ = true
      simp only [tames, tame_word (hp.ent _ ee).w.w, Bool.and_true, Bool.true_and]
      rfl
    · exact tames_iff.mp tp x (List.mem_of_mem_drop hx)
  · refine plan_twice (ys := (p.map (·.name)).take t ++ [e.name] ++ (p.map (·.name)).drop t) ?_ ?_
    · simp only [l, List.map_append, List.map_take, List.map_drop, heads_plan, List.map_cons, List.map_nil]
      rfl
    · intro nd
      have mem : e.name ∈ (p.map (·.name)).take t ++ (p.map (·.name)).drop t := by
        rw [List.take_append_drop]; exact List.mem_map.mpr ⟨_, ee, rfl⟩
      rw [List.append_assoc, List.nodup_append] at nd
      obtain ⟨n1, n2, n3⟩ := nd
      rcases List.mem_append.mp mem with m | m
      · exact n3 _ m _ (by simp) rfl
      · rw [List.singleton_append, List.nodup_cons] at n2
        exact n2.1 m
  · show sSeq _ _ _ _ = _
    rw [seq_nxt x1]
    simp only [sRet, eCall, aCons, aNil, eBin, eSl, oNone, oSome, eVar, eC, List.getElem?_cons_succ, List.getElem?_cons_zero, Out.bind_ok, frz_d, frz_new] at eo ⊢
    simp only [eo, Out.bind_ok, frz_d, frz_new, slF_lst, e1, addF_lst, if_pos z1, e2, if_pos z2, tupleF_lst, Out.st_ok]
    rfl
theorem wend (h : St3 B i n) (hn : n ≤ 2 ^ 24) (hp : PlanR words p) (hw : way = 5 ∨ way = 6 ∨ way = 7 ∨ way = 8 ∨ way = 9 ∨ way = 10 ∨ way = 11 ∨ way = 12 ∨ way = 13 ∨ way = 14 ∨ way = 15) (k : Nat) (hk : k < p.length) : Gives P B i n p words way k Cend := by
  have hl := hp.hi
  have six := hp.six
  obtain ⟨sg, hs⟩ : ∃ sg, words[5]? = some sg := ⟨words[5], List.getElem?_eq_getElem (by omega)⟩
  have ws : Word sg := hp.ww sg (List.mem_of_getElem? hs)
  obtain ⟨e, he⟩ : ∃ e, p[k]! = e := ⟨_, rfl⟩
  have em := at_ent hk
  have ee := ent_mem hk
  rw [he] at em ee
  obtain ⟨x, B1, A1, S1, hx, E1⟩ := btable_ok (P := P) (e := e) (sg := sg) h (by omega) (hp.ent _ ee) ws hw
  let l : List D := (p.map eD).take k ++ [x] ++ (p.map eD).drop (k + 1)
  have e1 : cut (p.map eD) none (some (k : Int)) = (p.map eD).take k := cut_pre _ k (by simp; omega)
  have e2 : cut (p.map eD) (some ((k : Int) + 1)) none = (p.map eD).drop (k + 1) := cut_suf _ (k + 1) (by simp; omega)
  have z1 : ((p.map eD).take k).length + [x].length ≤ sizeLine := le_sizeLine (by simp; omega)
  have z2 : ((p.map eD).take k ++ [x]).length + ((p.map eD).drop (k + 1)).length ≤ sizeLine := le_sizeLine (by simp; omega)
  have e5 : atI (words.map D.str) 5 = some (.str sg) := by
    rw [show (5 : Int) = ((5 : Nat) : Int) from rfl, Ev.atI_nat, List.getElem?_map, hs]; rfl
  have eo : eLst (aCons (eCallF F__law_bent_table [] (aCons (eVar 0) (aCons (eBin ixF (eVar 1) (eVar 4)) (aCons (eBin ixF (eVar 2) (eC (.int 5))) (aCons (eVar 3) (aNil)))))) (aNil)) (slW i p words way (some (.d (.int (k : Nat)))) none none none none none none none) ⟨P, B⟩ = .ok (.new [x]) ⟨P, B1⟩ := by
    simp [slW, eLst, em, e5, E1]
  refine ⟨.d (.tup l), .tup l, P, B1, trivial, rfl, A1, S1.mono (by omega), ?_, ?_⟩
  · rcases hx with ⟨h14, j, hj, rfl⟩ | ⟨h14, hb, ht⟩
    · subst he
      obtain ⟨m1, m2⟩ := moved hp hs hk hj
      refine .inr ⟨h14, _, ?_, m1, m2⟩
      show D.tup l = .tup _
      rw [← eD_set k hk]
    · refine refused_no h14 ?_ (plan_mem_bad (x := x) (by simp [l]) hb)
      show tames 13 l = true
      have tp := tames_plan hp
      refine tames_iff.mpr fun y hy => ?_
      simp only [l, List.mem_append, List.mem_singleton] at hy
      rcases hy with (hy | rfl) | hy
      · exact tames_iff.mp tp y (List.mem_of_mem_take hy)
      · exact tame_mono 8 13 _ (by omega) ht
      · exact tames_iff.mp tp y (List.mem_of_mem_drop hy)
  · show sRet _ _ _ = _
    simp only [sRet, eCall, aCons, aNil, eBin, eSl, oNone, oSome, eVar, eC, List.getElem?_cons_succ, List.getElem?_cons_zero, Out.bind_ok, frz_d, frz_new] at eo ⊢
    simp only [eo, Out.bind_ok, frz_d, frz_new, slF_lst, e1, addF_lst, if_pos z1, addF_int, e2, if_pos z2, tupleF_lst, Out.st_ok]
    rfl
end
end Wk

set_option Elab.async false
set_option linter.all false
set_option maxRecDepth 100000
set_option maxHeartbeats 4000000
namespace Wk
open PySem PySem.Spec PyProof.Rows L2 Ev
open Classical
section
variable {P : List Ob} {B : Bx} {i : Nat} {n : Int} {p : List Ent} {words : List Str} {way : Int}
theorem cut_init {α : Type} (l : List α) (x : α) : cut (l ++ [x]) none (some (-1)) = l := by
  unfold cut
  rw [HT.sIx_none]
  have : HT.sIx (l ++ [x]).length (l ++ [x]).length (some (-1)) = l.length := by
    unfold HT.sIx
    simp
    omega
  rw [this]
  simp
theorem way16 (h : St3 B i n) (hn : n ≤ 2 ^ 24) (hp : PlanR words p) (hw : way = 16) (k : Nat) : Gives P B i n p words way k C16 := by
  subst hw
  have hl := hp.hi
  have lo := hp.lo
  have six := hp.six
  obtain ⟨sg, hs⟩ : ∃ sg, words[5]? = some sg := ⟨words[5], List.getElem?_eq_getElem (by omega)⟩
  have ws : Word sg := hp.ww sg (List.mem_of_getElem? hs)
  have e5 : atI (words.map D.str) 5 = some (.str sg) := by
    rw [show (5 : Int) = ((5 : Nat) : Int) from rfl, Ev.atI_nat, List.getElem?_map, hs]; rfl
  have h0 : 0 < p.length := by omega
  obtain ⟨e, he⟩ : ∃ e, p[0]! = e := ⟨_, rfl⟩
  have em := at_ent h0
  have ee := ent_mem h0
  rw [he] at em ee
  have er := hp.ent e ee
  obtain ⟨v, z, B1, hv, A1, S1, hz, E1⟩ := brefs_ok (P := P) (rs := e.refs) (sg := sg) (way := 14) h (by omega) er.one er.w.len er.w.col ws (by omega)
  obtain ⟨j, hj, rfl⟩ : ∃ k, k < e.refs.length ∧ z = .tup ((e.refs.set k ((e.refs[k]!).1, sg)).map rD) := by
    rcases hz with ⟨_, hz⟩ | ⟨hz, _⟩
    · exact hz
    · exact absurd (.inl rfl) hz
  have mv := moved hp hs h0 (k := j) (by rw [he]; exact hj)
  rw [he] at mv
  obtain ⟨mv, _⟩ := mv
  obtain ⟨rs', hr⟩ : ∃ rs', e.refs.set j ((e.refs[j]!).1, sg) = rs' := ⟨_, rfl⟩
  rw [hr] at mv hv
  obtain ⟨p', hp'⟩ : ∃ p', p.set 0 { e with refs := rs' } = p' := ⟨_, rfl⟩
  have chg : [eD { e with refs := rs' }] ++ (p.map eD).drop 1 = p'.map eD := by
    rw [← hp', ← eD_set 0 h0]; simp
  rw [hp'] at mv
  have hl' := mv.hi
  obtain ⟨q, f, rfl⟩ : ∃ q f, p' = q ++ [f] := by
    have lo' := mv.lo
    exact ⟨p'.dropLast, p'.getLast (by intro z; rw [z] at lo'; simp at lo'), (List.dropLast_concat_getLast _).symm⟩
  have fe : EntW f := mv.ent f (by simp)
  have hq : q.length ≤ 4 := by simp at hl'; omega
  obtain ⟨r, B2, r1, r2, A2, S2, E2⟩ := take_ok (P := P) S1 (by omega) (base := 4) (by omega) (by omega)
  let fl : List D := [.int (if f.uq = true then 1 else 0), .non, .str (Str.ofString "any"), .int 2]
  obtain ⟨y, y1, y2⟩ := atI_of fl r r1 (by simp [fl]; omega)
  have y1' : atI [D.int (if f.uq = true then 1 else 0), .non, .str (Str.ofString "any"), .int 2] r = some y := y1
  have yb : isBl y = false ∧ tame 5 y = true := by
    simp only [fl, List.mem_cons, List.not_mem_nil, or_false] at y2
    have : (Str.ofString "any").length = 3 := by decide +kernel
    rcases y2 with rfl | rfl | rfl | rfl <;> simp [tame, this, isBl]
  have ib : ∀ (b : Bool) (S : Sta), intF [.d (.bl b)] S = .ok (.d (.int (if b = true then 1 else 0))) S := fun _ _ => rfl
  let x : D := .tup [.str f.name, y, .tup (f.refs.map rD)]
  let l : List D := q.map eD ++ [x]
  have x1 : C16u (slW i p words 16 (some (.d (.int (k : Nat)))) none none none none none none none) ⟨P, B⟩ = .nxt (slW i p words 16 (some (.d (.int (k : Nat)))) none (some (.d (.str e.name))) (some (.d (.bl e.uq))) (some (.d (.tup (e.refs.map rD)))) none none none) ⟨P, B⟩ := by
    have em' : atI (p.map eD) 0 = some (eD e) := em
    simp [C16u, slW, em', eD]
  have c1 : cut (p.map eD) (some 1) none = (p.map eD).drop 1 := cut_suf _ 1 (by simp; omega)
  have z1 : [eD { e with refs := rs' }].length + ((p.map eD).drop 1).length ≤ sizeLine := le_sizeLine (by simp; omega)
  have eo : eLst (aCons (eTup (aCons (eVar 6) (aCons (eVar 7) (aCons (eCallF F__law_bent_references [] (aCons (eVar 0) (aCons (eVar 8) (aCons (eBin ixF (eVar 2) (eC (.int 5))) (aCons (eC (.int 14)) (aNil)))))) (aNil))))) (aNil)) (slW i p words 16 (some (.d (.int (k : Nat)))) none (some (.d (.str e.name))) (some (.d (.bl e.uq))) (some (.d (.tup (e.refs.map rD)))) none none none) ⟨P, B⟩ = .ok (.new [eD { e with refs := rs' }]) ⟨P, B1⟩ := by
    simp [slW, eLst, eTup, e5, E1, hv, eD]
  have x2 : C16a (slW i p words 16 (some (.d (.int (k : Nat)))) none (some (.d (.str e.name))) (some (.d (.bl e.uq))) (some (.d (.tup (e.refs.map rD)))) none none none) ⟨P, B⟩ = .nxt (slW i p words 16 (some (.d (.int (k : Nat)))) none (some (.d (.str e.name))) (some (.d (.bl e.uq))) (some (.d (.tup (e.refs.map rD)))) (some (.d (.lst ((q ++ [f]).map eD)))) none none) ⟨P, B1⟩ := by
    rw [← chg]
    simp only [C16a, sSet, eBin, eSl, oNone, oSome, eo, Out.bind_ok, frz_new, eVar, eC, slW, List.getElem?_cons_succ, List.getElem?_cons_zero, frz_d, slF_lst, c1, addF_lst, if_pos z1, Out.st_ok]
    rfl
  have la : atI ((q ++ [f]).map eD) (-1) = some (eD f) := by
    rw [List.map_append]; exact Ev.atI_last _ _
  have x3 : C16v (slW i p words 16 (some (.d (.int (k : Nat)))) none (some (.d (.str e.name))) (some (.d (.bl e.uq))) (some (.d (.tup (e.refs.map rD)))) (some (.d (.lst ((q ++ [f]).map eD)))) none none) ⟨P, B1⟩ = .nxt (slW i p words 16 (some (.d (.int (k : Nat)))) none (some (.d (.str f.name))) (some (.d (.bl f.uq))) (some (.d (.tup (f.refs.map rD)))) (some (.d (.lst ((q ++ [f]).map eD)))) none none) ⟨P, B1⟩ := by
    generalize (q ++ [f]).map eD = w at la
    simp [C16v, slW, la, eD]
  have x4 : C16f (slW i p words 16 (some (.d (.int (k : Nat)))) none (some (.d (.str f.name))) (some (.d (.bl f.uq))) (some (.d (.tup (f.refs.map rD)))) (some (.d (.lst ((q ++ [f]).map eD)))) none none) ⟨P, B1⟩ = .nxt (slW i p words 16 (some (.d (.int (k : Nat)))) none (some (.d (.str f.name))) (some (.d (.bl f.uq))) (some (.d (.tup (f.refs.map rD)))) (some (.d (.lst ((q ++ [f]).map eD)))) (some (.d y)) none) ⟨P, B2⟩ := by
    generalize (q ++ [f]).map eD = w
    simp [C16f, slW, eLst, ib, E2, y1']
  have c2 : cut ((q ++ [f]).map eD) none (some (-1)) = q.map eD := by
    rw [List.map_append]; exact cut_init _ _
  have z2 : (q.map eD).length + [x].length ≤ sizeLine := le_sizeLine (by simp; omega)
  have er2 : eLst (aCons (eTup (aCons (eVar 6) (aCons (eVar 10) (aCons (eVar 8) (aNil))))) (aNil)) (slW i p words 16 (some (.d (.int (k : Nat)))) none (some (.d (.str f.name))) (some (.d (.bl f.uq))) (some (.d (.tup (f.refs.map rD)))) (some (.d (.lst ((q ++ [f]).map eD)))) (some (.d y)) none) ⟨P, B2⟩ = .ok (.new [x]) ⟨P, B2⟩ := by
    generalize (q ++ [f]).map eD = w
    simp [slW, eLst, eTup, x]
  refine ⟨.d (.tup l), .tup l, P, B2, trivial, rfl, A1.trans A2, S2.mono (by omega), refused_no (by omega) ?_ (plan_mem_bad (x := x) (by simp [l]) (by rw [tabB3, yb.1]; simp)), ?_⟩
  · show tames 13 l = true
    refine tames_iff.mpr fun w hw => ?_
    simp only [l, List.mem_append, List.mem_singleton] at hw
    rcases hw with hw | rfl
    · obtain ⟨g, hg, rfl⟩ := List.mem_map.mp hw
      exact tame_eD (mv.ent g (by simp [hg])) 10
    · show tames 12 _ = true
      have tr : tame 12 (.tup (f.refs.map rD)) = true := tame_mono 6 12 _ (by omega) (show tames 5 _ = true from tame_refs fe.col)
      simp only [tames, tame_word fe.w, tame_mono 5 12 y (by omega) yb.2, tr, Bool.and_true]
  · show sSeq _ (sSeq _ (sSeq _ (sSeq _ _))) _ _ = _
    rw [seq_nxt x1, seq_nxt x2, seq_nxt x3, seq_nxt x4]
    show sRet _ _ _ = _
    simp only [sRet, eCall, aCons, aNil, eBin, eUn, eSl, oNone, oSome, eVar, eC, List.getElem?_cons_succ, List.getElem?_cons_zero, Out.bind_ok, frz_d, frz_new] at er2 ⊢
    simp only [negF_int, er2, Out.bind_ok, frz_d, frz_new, slF_lst, c2, addF_lst, if_pos z2, tupleF_lst, Out.st_ok]
    rfl
end
end Wk

set_option Elab.async false
set_option linter.all false
set_option maxRecDepth 100000
set_option maxHeartbeats 4000000
namespace Wk
open PySem PySem.Spec PyProof.Rows L2 Ev
open Classical
abbrev slG (i : Nat) (words names : List Str) (k : Nat) (a4 a5 a6 a7 : Option Vl) : Sl := [some (.d (.lst (words.map D.str))), some (.box i), some (.d (.lst (names.map D.str))), some (.box k), a4, a5, a6, a7]
section
variable {P : List Ob} {B C : Bx} {i k : Nat} {n : Int} {words names cols : List Str} {a4 a5 a6 a7 : Option Vl}
theorem bent_ok {p : List Ent} {way : Int} (h : St3 B i n) (hn : n ≤ 2 ^ 22) (hp : PlanR words p) (hw : 0 ≤ way ∧ way ≤ 16) : ∃ (v : Vl) (x : D) (P' : List Ob) (B' : Bx), frz v = .d x ∧ Adv i B B' ∧ St3 B' i (n + 2000) ∧ Refused_ way x P' ∧ F__law_bent [.box i, .d (.lst (p.map eD)), .d (.lst (words.map D.str)), .d (.int way)] ⟨P, B⟩ = .ok v ⟨P', B'⟩ := by
  have hl := hp.hi
  have lo := hp.lo
  obtain ⟨d, B1, d1, d2, A1, S1, E1⟩ := take_ok (P := P) h (by omega) (base := (p.length : Nat)) (by omega) (by omega)
  obtain ⟨k, rfl⟩ := Int.eq_ofNat_of_zero_le d1
  have hk : k < p.length := by omega
  have g : Gives P B1 i (n + 1) p words way k Crest := by
    unfold Crest
    by_cases w0 : way = 0
    · exact whenC_take w0 (way0 S1 hp w0 k)
    refine whenC_skip w0 ?_
    by_cases w1 : way = 1
    · exact whenC_take w1 (way1 S1 (by omega) w1 k)
    refine whenC_skip w1 ?_
    by_cases w2 : way = 2
    · exact whenC_take w2 (way2 S1 w2 k)
    refine whenC_skip w2 ?_
    by_cases w3 : way = 3
    · exact whenC_take w3 (way3 S1 hp w3 k)
    refine whenC_skip w3 ?_
    by_cases w16 : way = 16
    · exact whenC_take w16 (way16 S1 (by omega) hp w16 k)
    refine whenC_skip w16 ?_
    by_cases w4 : way = 4
    · exact whenC_take w4 (way4 S1 (by omega) hp w4 k hk)
    refine whenC_skip w4 ?_
    exact wend S1 (by omega) hp (by omega) k hk
  obtain ⟨v, x, P', B', g1, g2, g3, g4, g5, g6⟩ := g
  obtain ⟨y, yy⟩ := A1.trans g3
  refine ⟨v, x, P', B', g2, A1.trans g3, g4.mono (by omega), g5, ?_⟩
  unfold F__law_bent
  refine (mkFn_eq rfl).trans ?_
  show fin B.length (t__law_bent (slW i p words way none none none none none none none none) ⟨P, B⟩) = _
  have x1 : C4 (slW i p words way none none none none none none none none) ⟨P, B⟩ = .nxt (slW i p words way (some (.d (.int (k : Nat)))) none none none none none none none) ⟨P, B1⟩ := by simp [C4, slW, E1]
  rw [bent_is, seq_nxt x1, g6, yy]
  cases v with
  | d x => simp [cutB, List.take_of_length_le]
  | new l => simp [cutB, List.take_of_length_le]
  | box j => exact g1.elim
theorem grefs_ok (h : St3 B i n) (hn : n ≤ 2 ^ 27) (hnl : 1 ≤ names.length) (hnl2 : names.length ≤ 100) (hc : cols.length ≤ 100) :
    ∃ (rs : List (Str × Str)) (B' : Bx), rs.map (·.1) = cols ∧ (∀ r ∈ rs, r.2 ∈ names) ∧ Adv i B B' ∧ St3 B' i (n + 100) ∧
      (eLc [7] (iOf itemsA (eVar 5)) (gNm 7) (tTrue) (eTup (aCons (eVar 7) (aCons (eBin ixF (eVar 2) (eCallF F__law_take [] (aCons (eVar 1) (aCons (eCall lenF (aCons (eVar 2) (aNil))) (aNil))))) (aNil))))) (slG i words names k a4 (some (.d (.lst (cols.map D.str)))) a6 a7) ⟨P, B ++ C⟩ =
        .ok (.new (rs.map rD)) ⟨P, B' ++ C⟩ := by
  have hi := h.lt
  have loop := loopL_inv (chk := fun _ => true) (tg := gNm 7) (step := eltStep tTrue (eTup (aCons (eVar 7) (aCons (eBin ixF (eVar 2) (eCallF F__law_take [] (aCons (eVar 1) (aCons (eCall lenF (aCons (eVar 2) (aNil))) (aNil))))) (aNil))))) (σ := slG i words names k a4 (some (.d (.lst (cols.map D.str)))) a6 none)
    (fun r acc S => ∃ (rs : List (Str × Str)) (B' : Bx), S = ⟨P, B' ++ C⟩ ∧ acc = rs.map rD ∧ (rs.map (·.1)).map D.str ++ r = cols.map D.str ∧ (∀ r ∈ rs, r.2 ∈ names) ∧ Adv i B B' ∧ St3 B' i (n + (rs.length : Nat)) ∧ rs.length + r.length = cols.length)
    (fun _ _ _ _ => rfl) (by
      rintro x r acc S ⟨rs, B1, rfl, rfl, e1, hr, A1, S1, hl⟩
      have hl' : rs.length + (r.length + 1) = cols.length := by simpa using hl
      have hx : x ∈ cols.map D.str := by rw [← e1]; simp
      obtain ⟨c, hc', rfl⟩ := List.mem_map.mp hx
      obtain ⟨d, Bb, d1, d2, A2, S2, E2⟩ := take_ok (P := P) (S1.app (C := C)) (by omega) (base := (names.length : Nat)) (by omega) (by omega)
      obtain ⟨B2, rfl, A2'⟩ := A2.lift (by rw [A1.len]; exact hi)
      have S2' := S2.down (by rw [A2'.len, A1.len]; exact hi)
      obtain ⟨y, y1, y2⟩ := atI_of (names.map D.str) d d1 (by simpa using d2)
      obtain ⟨v, v1, rfl⟩ := List.mem_map.mp y2
      refine ⟨_, rfl, (rs ++ [(c, v)]).map rD, ⟨P, B2 ++ C⟩, ?_, rs ++ [(c, v)], B2, rfl, rfl, ?_, ?_, A1.trans A2', ?_, by simp; omega⟩
      · have hs : rs.length < sizeLine := by unfold sizeLine; omega
        simp [slG, E2, y1, hs, eTup, rD]
      · rw [← e1]; simp
      · intro q hq
        rcases List.mem_append.mp hq with hq | hq
        · exact hr q hq
        · rw [List.mem_singleton.mp hq]; exact v1
      · have : n + (rs.length : Int) + 1 = n + ((rs ++ [(c, v)]).length : Nat) := by simp; omega
        rw [← this]; exact S2') (cols.map D.str) [] ⟨P, B ++ C⟩ ⟨[], B, rfl, rfl, rfl, by simp, Adv.refl hi, by simpa using h, by simp⟩
  obtain ⟨acc, S', e1, rs, B', rfl, rfl, e2, hr, A1, S1, hl⟩ := loop
  have e3 : rs.map (·.1) = cols := by
    have : (rs.map (·.1)).map D.str = cols.map D.str := by simpa using e2
    exact (List.map_inj_right (fun a b h => by cases h; rfl)).mp this
  have hl' : rs.length = cols.length := by simpa using hl
  refine ⟨rs, B', e3, hr, A1, S1.mono (by omega), ?_⟩
  simp only [slG] at e1
  simp [slG, wipeV]
  rw [e1]
end
end Wk

set_option Elab.async false
set_option linter.all false
set_option maxRecDepth 100000
set_option maxHeartbeats 4000000
namespace Wk
open PySem PySem.Spec PyProof.Rows L2 Ev
open Classical
section
variable {P : List Ob} {B C : Bx} {i k : Nat} {n : Int} {words names cols : List Str} {a4 a5 a6 a7 : Option Vl}
/-- an entry that good makes -/
structure EntG (names : List Str) (e : Ent) : Prop where
  w : Word e.name
  one : 1 ≤ e.refs.length
  len : e.refs.length ≤ 3
  nd : (e.refs.map (·.1)).Nodup
  col : ∀ r ∈ e.refs, Word r.1 ∧ r.2 ∈ names
noncomputable def gBody : SV := (sSeq (sSet 5 (eCallF F__law_words [] (aCons (eVar 1) (aCons (eBin addF (eC (.int 1)) (eCallF F__law_take [] (aCons (eVar 1) (aCons (eC (.int 3)) (aNil))))) (aNil))))) (sSeq (sSet 6 (eLc [7] (iOf itemsA (eVar 5)) (gNm 7) (tTrue) (eTup (aCons (eVar 7) (aCons (eBin ixF (eVar 2) (eCallF F__law_take [] (aCons (eVar 1) (aCons (eCall lenF (aCons (eVar 2) (aNil))) (aNil))))) (aNil)))))) (sExpr (eLm appendF (eVar 3) (eTup (aCons (eVar 4) (aCons (eBin eqF (eCallF F__law_take [] (aCons (eVar 1) (aCons (eC (.int 2)) (aNil)))) (eC (.int 1))) (aCons (eCall tupleF (aCons (eVar 6) (aNil))) (aNil)))))))))
theorem gbody_ok {w : Str} {es : List Ent} (h : St3 B i n) (hn : n ≤ 2 ^ 26) (hnl : 1 ≤ names.length) (hnl2 : names.length ≤ 20) (he : es.length ≤ 20) (W : Word w) :
    ∃ (e : Ent) (B' : Bx) (b5 b6 b7 : Option Vl), e.name = w ∧ EntG names e ∧ Adv i B B' ∧ St3 B' i (n + 400) ∧ gBody (slG i words names B.length (some (.d (.str w))) a5 a6 a7) ⟨P, B ++ [(true, es.map eD)]⟩ = .nxt (slG i words names B.length (some (.d (.str w))) b5 b6 b7) ⟨P, B' ++ [(true, (es ++ [e]).map eD)]⟩ := by
  have hi := h.lt
  obtain ⟨q, Bb, q1, q2, A2, S2, E2⟩ := take_ok (P := P) (h.app (C := [(true, es.map eD)])) (by omega) (base := 3) (by omega) (by omega)
  obtain ⟨B2, rfl, A2'⟩ := A2.lift hi
  have l2 : B2.length = B.length := by rw [A2'.len]
  have S2' := S2.down (by rw [l2]; exact hi)
  obtain ⟨cols, Bc, c1, c2, c3, A3, S3, E3⟩ := words_ok (P := P) (cnt := 1 + q) S2 (by omega) (by omega) (by omega)
  obtain ⟨B3, rfl, A3'⟩ := A3.lift (by rw [l2]; exact hi)
  have l3 : B3.length = B.length := by rw [A3'.len, l2]
  have S3' := S3.down (by rw [l3]; exact hi)
  obtain ⟨rs, B4, r1, r2, A4, S4, E4⟩ := grefs_ok (P := P) (C := [(true, es.map eD)]) (k := B.length) (words := words) (names := names) (cols := cols) (a4 := some (.d (.str w))) (a6 := a6) (a7 := a7) S3' (by omega) hnl (by omega) (by omega)
  have l4 : B4.length = B.length := by rw [A4.len, l3]
  obtain ⟨d, Bd, d1, d2, A5, S5, E5⟩ := take_ok (P := P) (S4.app (C := [(true, es.map eD)])) (by omega) (base := 2) (by omega) (by omega)
  obtain ⟨B5, rfl, A5'⟩ := A5.lift (by rw [l4]; exact hi)
  have l5 : B5.length = B.length := by rw [A5'.len, l4]
  have S5' := S5.down (by rw [l5]; exact hi)
  have jx : (B5 ++ [(true, es.map eD)])[B.length]? = some (true, es.map eD) := by rw [← l5]; simp
  have jx4 : (B4 ++ [(true, es.map eD)])[B.length]? = some (true, es.map eD) := by rw [← l4]; simp
  have lr : rs.length = cols.length := by rw [← r1]; simp
  refine ⟨⟨w, decide (d = 1), rs⟩, B5, some (.d (.lst (cols.map D.str))), some (.d (.lst (rs.map rD))), a7, rfl, ⟨W, ?_, ?_, by rw [r1]; exact c2, fun r hr => ⟨c3 _ (by rw [← r1]; exact List.mem_map_of_mem hr), r2 r hr⟩⟩, ((A2'.trans A3').trans A4).trans A5', S5'.mono (by omega), ?_⟩
  · show 1 ≤ rs.length
    omega
  · show rs.length ≤ 3
    omega
  unfold gBody
  have x2 : (sSet 5 (eCallF F__law_words [] (aCons (eVar 1) (aCons (eBin addF (eC (.int 1)) (eCallF F__law_take [] (aCons (eVar 1) (aCons (eC (.int 3)) (aNil))))) (aNil))))) (slG i words names B.length (some (.d (.str w))) a5 a6 a7) ⟨P, B ++ [(true, es.map eD)]⟩ = .nxt (slG i words names B.length (some (.d (.str w))) (some (.d (.lst (cols.map D.str)))) a6 a7) ⟨P, B3 ++ [(true, es.map eD)]⟩ := by
    simp [slG, E2, E3]
  have bo4 : boxOk (.box B.length) ⟨P, B4 ++ [(true, es.map eD)]⟩ = true := by
    unfold boxOk
    simp only [jx4]
  have bo : boxOk (.box B.length) ⟨P, B5 ++ [(true, es.map eD)]⟩ = true := by
    unfold boxOk
    simp only [jx]
  have sz : es.length < sizeLine := by unfold sizeLine; omega
  have x3 : (sSet 6 (eLc [7] (iOf itemsA (eVar 5)) (gNm 7) (tTrue) (eTup (aCons (eVar 7) (aCons (eBin ixF (eVar 2) (eCallF F__law_take [] (aCons (eVar 1) (aCons (eCall lenF (aCons (eVar 2) (aNil))) (aNil))))) (aNil)))))) (slG i words names B.length (some (.d (.str w))) (some (.d (.lst (cols.map D.str)))) a6 a7) ⟨P, B3 ++ [(true, es.map eD)]⟩ = .nxt (slG i words names B.length (some (.d (.str w))) (some (.d (.lst (cols.map D.str)))) (some (.d (.lst (rs.map rD)))) a7) ⟨P, B4 ++ [(true, es.map eD)]⟩ := by
    simp only [sSet, E4, Out.st_ok, frz_new]
    rfl
  rw [seq_nxt x2, seq_nxt x3]
  simp [slG, bo4, bo, jx, sz, toD, eTup, E5]
  rw [← l5]
  simp [eD]
end
end Wk

set_option Elab.async false
set_option linter.all false
set_option maxRecDepth 100000
set_option maxHeartbeats 4000000
namespace Wk
open PySem PySem.Spec PyProof.Rows L2 Ev
open Classical
section
variable {P : List Ob} {B : Bx} {i : Nat} {n : Int} {words : List Str}
theorem good_ok (h : St3 B i n) (hn : n ≤ 2 ^ 20) (six : words.length = 6) (wn : words.Nodup) (ww : ∀ w ∈ words, Word w) :
    ∃ (p : List Ent) (B' : Bx), PlanR words p ∧ inNames p = true ∧ Adv i B B' ∧ St3 B' i (n + 10000) ∧ F__law_good [.d (.lst (words.map D.str)), .box i] ⟨P, B⟩ = .ok (.new (p.map eD)) ⟨P, B'⟩ := by
  have hi := h.lt
  obtain ⟨d, B2, d1, d2, A1, S1, E1⟩ := take_ok (P := P) h (by omega) (base := 5) (by omega) (by omega)
  obtain ⟨t, rfl⟩ := Int.eq_ofNat_of_zero_le d1
  have ht : t < 5 := by omega
  obtain ⟨names, hnm⟩ : ∃ names, words.take (t + 1) = names := ⟨_, rfl⟩
  have nl : names.length = t + 1 := by rw [← hnm, List.length_take]; omega
  have nw : ∀ w ∈ names, w ∈ words := fun w hw => by rw [← hnm] at hw; exact List.mem_of_mem_take hw
  have nn : names.Nodup := by rw [← hnm]; exact wn.sublist (List.take_sublist _ _)
  have l2 : B2.length = B.length := by rw [A1.len]
  have loop := forL_inv (chk := fun _ => true) (tg := gNm 4) (body := gBody) (fun r σ S => ∃ (B' : Bx) (es : List Ent) (b4 b5 b6 b7 : Option Vl), S = ⟨P, B' ++ [(true, es.map eD)]⟩ ∧ Adv i B B' ∧ St3 B' i (n + 1 + 400 * (es.length : Nat)) ∧ σ = slG i words names B.length b4 b5 b6 b7 ∧ (es.map (·.name)).map D.str ++ r = names.map D.str ∧ (∀ e ∈ es, EntG names e) ∧ es.length + r.length = names.length)
    (fun _ _ _ _ => rfl) (by
      rintro x r σ S ⟨B3, es, b4, b5, b6, b7, rfl, a1, s1, rfl, e1, ok, hl⟩
      have hl' : es.length + (r.length + 1) = names.length := by simpa using hl
      have hx : x ∈ names.map D.str := by rw [← e1]; simp
      obtain ⟨w, hw, rfl⟩ := List.mem_map.mp hx
      refine ⟨slG i words names B.length (some (.d (.str w))) b5 b6 b7, rfl, ?_⟩
      have lb : B.length = B3.length := a1.len.symm
      obtain ⟨e, B4, c5, c6, c7, q1, q2, a2, s2, ee⟩ := gbody_ok (P := P) (words := words) (names := names) (w := w) (es := es) (a5 := b5) (a6 := b6) (a7 := b7) s1 (by omega) (by omega) (by omega) (by omega) (ww w (nw w hw))
      rw [← lb] at ee
      refine ⟨_, _, .inl ee, B4, es ++ [e], some (.d (.str w)), c5, c6, c7, rfl, a1.trans a2, s2.mono (by simp; omega), rfl, ?_, ?_, by simp; omega⟩
      · rw [← e1, List.map_append, List.map_append, ← q1]; simp
      · intro v hv
        rcases List.mem_append.mp hv with hv | hv
        · exact ok v hv
        · rw [List.mem_singleton.mp hv]; exact q2) (names.map D.str) (slG i words names B.length none none none none) ⟨P, B2 ++ [(true, [])]⟩ ⟨B2, [], none, none, none, none, rfl, A1, S1.mono (by simp), rfl, rfl, by simp, by simp⟩
  obtain ⟨σ', S', e1, B', es, b4, b5, b6, b7, rfl, a1, s1, rfl, e2, ok, hl⟩ := loop
  have e3 : es.map (·.name) = names := by
    have : (es.map (·.name)).map D.str = names.map D.str := by simpa using e2
    exact (List.map_inj_right (fun a b h => by cases h; rfl)).mp this
  have hl' : es.length = names.length := by simpa using hl
  refine ⟨es, B', ⟨by omega, by omega, by rw [e3]; exact nn, fun e he => ⟨⟨(ok e he).w, (ok e he).len, (ok e he).nd, fun r hr => ⟨((ok e he).col r hr).1, ww _ (nw _ ((ok e he).col r hr).2)⟩⟩, (ok e he).one⟩, six, ww, fun w hw => ?_⟩, ?_, a1, s1.mono (by omega), ?_⟩
  · rw [e3, ← hnm]
    intro m
    have wn2 := wn
    rw [← List.take_append_drop (t + 1) words, List.nodup_append] at wn2
    refine wn2.2.2 w m w ?_ rfl
    refine List.mem_of_getElem? (i := 5 - (t + 1)) ?_
    rw [List.getElem?_drop, show t + 1 + (5 - (t + 1)) = 5 by omega]
    exact hw
  · unfold inNames places
    rw [List.all_eq_true]
    intro w hw
    rw [List.mem_flatten] at hw
    obtain ⟨l, hl1, hl2⟩ := hw
    obtain ⟨e, he, rfl⟩ := List.mem_map.mp hl1
    obtain ⟨r, hr, rfl⟩ := List.mem_map.mp hl2
    rw [e3]
    exact decide_eq_true ((ok e he).col r hr).2
  have tt : t__law_good = sSeq (sSet 2 (eSl (eVar 0) (oNone) (oSome (eBin addF (eC (.int 1)) (eCallF F__law_take [] (aCons (eVar 1) (aCons (eC (.int 5)) (aNil)))))))) (sSeq (sSetB 3 (eLst (aNil))) (sSeq (sFor (iOf itemsA (eVar 2)) (gNm 4) gBody) (sRet (eVar 3)))) := rfl
  have jx : (B' ++ [(true, es.map eD)])[B.length]? = some (true, es.map eD) := by rw [← a1.len]; simp
  have go : t__law_good [some (.d (.lst (words.map D.str))), some (.box i), none, none, none, none, none, none] ⟨P, B⟩ = .ret (.box B.length) ⟨P, B' ++ [(true, es.map eD)]⟩ := by
    have f : ∀ (S : Sta), (sFor (iOf itemsA (eVar 2)) (gNm 4) gBody) (slG i words names B.length none none none none) S = forL (fun _ => true) (gNm 4) gBody (names.map D.str) (slG i words names B.length none none none none) S := by
      intro S
      simp [slG]
    have cu : cut (words.map D.str) none (some (1 + (t : Int))) = names.map D.str := by
      have : (1 + (t : Int)) = ((t + 1 : Nat) : Int) := by omega
      rw [this, cut_pre _ (t + 1) (by simp; omega), ← List.map_take, hnm]
    have r1 : (sSet 2 (eSl (eVar 0) (oNone) (oSome (eBin addF (eC (.int 1)) (eCallF F__law_take [] (aCons (eVar 1) (aCons (eC (.int 5)) (aNil)))))))) [some (.d (.lst (words.map D.str))), some (.box i), none, none, none, none, none, none] ⟨P, B⟩ = .nxt [some (.d (.lst (words.map D.str))), some (.box i), some (.d (.lst (names.map D.str))), none, none, none, none, none] ⟨P, B2⟩ := by
      generalize words.map D.str = W at cu ⊢
      generalize names.map D.str = N at cu ⊢
      simp [eSl, oNone, oSome, E1, cu]
    have r2 : (sSetB 3 (eLst (aNil))) [some (.d (.lst (words.map D.str))), some (.box i), some (.d (.lst (names.map D.str))), none, none, none, none, none] ⟨P, B2⟩ = .nxt (slG i words names B.length none none none none) ⟨P, B2 ++ [(true, [])]⟩ := by simp [eLst_nil, slG, l2]
    rw [tt, seq_nxt r1, seq_nxt r2, seq_nxt ((f _).trans e1)]
    simp [slG]
  unfold F__law_good
  refine (mkFn_eq rfl).trans ?_
  show fin B.length (t__law_good [some (.d (.lst (words.map D.str))), some (.box i), none, none, none, none, none, none] ⟨P, B⟩) = _
  rw [go, fin_box (by omega) jx, ← a1.len, cutB_app]
end
end Wk

set_option Elab.async false
set_option linter.all false
set_option maxRecDepth 100000
set_option maxHeartbeats 4000000
namespace Wk
open PySem PySem.Spec PyProof.Rows L2 Ev
open Classical
theorem fld_plan {P : List Ob} {B : Bx} {k : Nat} {p : List Ent} (o : P[k]? = some (schO p)) : fldF "Schema" "plan" (.d (.obj k)) ⟨P, B⟩ = .ok (.d (planD p)) ⟨P, B⟩ := by
  simp [fldF, o, schO]
theorem ins_sch {P : List Ob} {B : Bx} {k : Nat} {p : List Ent} (o : P[k]? = some (schO p)) (m : String) (hm : m ≠ "plan") : isIns "Schema" m (.d (.obj k)) ⟨P, B⟩ = true := by
  simp [isIns, o, schO, hm]
section
variable {P : List Ob} {B : Bx} {k : Nat} {p : List Ent}
theorem tables_m (o : P[k]? = some (schO p)) : F_Schema_tables [.d (.obj k)] ⟨P, B⟩ = .ok (.d (planD p)) ⟨P, B⟩ := by
  unfold F_Schema_tables
  refine (mkFn_eq rfl).trans ?_
  show fin B.length (t_Schema_tables [some (.d (.obj k))] ⟨P, B⟩) = _
  simp [t_Schema_tables, fld_plan o]
end
theorem ne_self {x : D} (S : Sta) (h : okD 60 x = true) : neF (.d x) (.d x) S = .ok (.d (.bl false)) S := by
  rw [neF_d, if_pos ⟨h, h⟩, eqD_refl 60 x h]; rfl
theorem okTup_strs (ws : List Str) : okD 60 (.tup (ws.map D.str)) = true := okStrs 59 ws
theorem ty_plan (p : List Ent) (S : Sta) : tyN (.d (planD p)) S = some "tuple" := rfl
theorem begin_ok (c : Int) (S : Sta) : ∃ a b : Int, F__law_begin [.d (.int c)] S = .ok (.new [.int a, .int b, .int 0]) S := by
  obtain ⟨P, B⟩ := S
  have cp : CPow 10 18 := ⟨by omega, by omega, by decide⟩
  by_cases h : (10 : Int) ^ 18 ≤ c
  · refine ⟨c - 10 ^ 18, c, ?_⟩
    unfold F__law_begin
    refine (mkFn_eq rfl).trans ?_
    show fin B.length (t__law_begin [some (.d (.int c))] ⟨P, B⟩) = _
    have h' : (1000000000000000000 : Int) ≤ c := by simpa using h
    simp [t__law_begin, cp, h', eLst]
  · refine ⟨-1, c, ?_⟩
    unfold F__law_begin
    refine (mkFn_eq rfl).trans ?_
    show fin B.length (t__law_begin [some (.d (.int c))] ⟨P, B⟩) = _
    have h' : ¬ (1000000000000000000 : Int) ≤ c := by simpa using h
    simp [t__law_begin, cp, h', eLst]
theorem at_ok (ns : List Int) (k : Nat) (S : Sta) : ∃ v : Int, F__law_at [scrD ns, .d (.int (k : Nat))] S = .ok (.d (.int v)) S := by
  obtain ⟨P, B⟩ := S
  by_cases h : k < ns.length
  · refine ⟨ns[k], ?_⟩
    unfold F__law_at
    refine (mkFn_eq rfl).trans ?_
    show fin B.length (t__law_at [some (scrD ns), some (.d (.int (k : Nat)))] ⟨P, B⟩) = _
    have h2 : (ns.map D.int)[k]? = some (.int ns[k]) := by simp [h]
    have h3 : atI (ns.map D.int) (k : Int) = some (.int ns[k]) := by rw [Ev.atI_nat, h2]
    simp [t__law_at, scrD, h, h3]
  · refine ⟨0, ?_⟩
    unfold F__law_at
    refine (mkFn_eq rfl).trans ?_
    show fin B.length (t__law_at [some (scrD ns), some (.d (.int (k : Nat)))] ⟨P, B⟩) = _
    simp [t__law_at, scrD, h]
end Wk

set_option Elab.async false
set_option linter.all false
set_option maxRecDepth 100000
set_option maxHeartbeats 4000000
namespace Wk
open PySem PySem.Spec PyProof.Rows L2 Ev
open Classical
abbrev slL (ns : List Int) (words : List Str) (p : List Ent) (a4 a5 a6 a7 : Option Vl) : Sl := [some (scrD ns), some (.box 0), some (.d (.lst (words.map D.str))), some (.d (.lst (p.map eD))), a4, a5, a6, a7]
section
variable {P : List Ob} {B : Bx} {ns : List Int} {words : List Str} {p : List Ent} {a4 a5 a6 a7 : Option Vl}
theorem told_mk (hp : PlanR words p) (hn : inNames p = true) : (eMeth "Schema" "tables" F_Schema_tables [] (eMake "Schema" F_Schema_init [] (aCons (eCall tupleF (aCons (eVar 3) (aNil))) (aNil))) (aNil)) (slL ns words p a4 a5 a6 a7) ⟨P, B⟩ = .ok (.d (planD p)) ⟨P ++ [schO p], B⟩ := by
  have o : (P ++ [schO p])[P.length]? = some (schO p) := by simp
  have m := make_w hp.toW hn P B
  have t := tables_m (B := B) o
  have ii := ins_sch (B := B) o "tables" (by decide)
  simp only [planD] at m t ⊢
  simp [slL, m, t, ii]
theorem tup_pl : (eCall tupleF (aCons (eVar 3) (aNil))) (slL ns words p a4 a5 a6 a7) ⟨P, B⟩ = .ok (.d (planD p)) ⟨P, B⟩ := by
  simp [slL, planD]
theorem part_v {x : D} {way : Int} (h : Refused_ way x P) : F__law_part [.d x] ⟨P, B⟩ = .ok (.d (.str (if way = 14 then Str.ofString "references" else Str.ofString "tables"))) ⟨P ++ [.ins "Schema" []], B⟩ := by
  rcases h with ⟨h1, h2⟩ | ⟨h1, q, rfl, h2, h3⟩
  · rw [if_neg h1]; exact part_no (h2 B)
  · rw [if_pos h1]; exact part_refs h2 h3 P B
noncomputable def lBody : SV := (sSeq (sSetB 5 (eCallF F__law_begin [] (aCons (eVar 4) (aNil)))) (sSeq (sSet 6 (eCallF F__law_take [] (aCons (eVar 5) (aCons (eC (.int 17)) (aNil))))) (sSeq (sIf (tOf (eBin neF (eMeth "Schema" "tables" F_Schema_tables [] (eMake "Schema" F_Schema_init [] (aCons (eCall tupleF (aCons (eVar 3) (aNil))) (aNil))) (aNil)) (eCall tupleF (aCons (eVar 3) (aNil))))) (sRet (eC (.bl false))) (sNext)) (sSeq (sSet 7 (eCallF F__law_part [] (aCons (eCallF F__law_bent [] (aCons (eVar 5) (aCons (eVar 3) (aCons (eVar 2) (aCons (eVar 6) (aNil)))))) (aNil)))) (sIf (tOrW (tNotW (tOf (eIsTy "str" (eVar 7)))) (tOf (eBin neF (eVar 7) (eBin ixF (eLst (aCons (eC (.str "tables")) (aCons (eC (.str "references")) (aNil)))) (eCall intF (aCons (eBin eqF (eVar 6) (eC (.int 14))) (aNil))))))) (sRet (eC (.bl false))) (sNext))))))
theorem lbody_ok (hp : PlanR words p) (hn : inNames p = true) (c : Int) : ∃ (P' : List Ob) (B' : Bx) (b5 b6 b7 : Option Vl), lBody (slL ns words p (some (.d (.int c))) a5 a6 a7) ⟨P, B⟩ = .nxt (slL ns words p (some (.d (.int c))) b5 b6 b7) ⟨P', B'⟩ := by
  obtain ⟨a, b, E1⟩ := begin_ok c ⟨P, B⟩
  have s1 : St3 (B ++ [(true, [.int a, .int b, .int 0])]) B.length 0 := ⟨a, b, 0, by simp, by omega, by omega⟩
  obtain ⟨way, B2, d1, d2, A2, S2, E2⟩ := take_ok (P := P) s1 (by omega) (base := 17) (by omega) (by omega)
  obtain ⟨v, x, P3, B3, hv, A3, S3, hx, E3⟩ := bent_ok (P := P ++ [schO p]) S2 (by omega) hp ⟨d1, by omega⟩
  have E4 := part_v (B := B3) hx
  obtain ⟨w, hw⟩ : ∃ w, (if way = 14 then Str.ofString "references" else Str.ofString "tables") = w := ⟨_, rfl⟩
  rw [hw] at E4
  refine ⟨P3 ++ [.ins "Schema" []], B3, some (.box B.length), some (.d (.int way)), some (.d (.str w)), ?_⟩
  have x1 : (sSetB 5 (eCallF F__law_begin [] (aCons (eVar 4) (aNil)))) (slL ns words p (some (.d (.int c))) a5 a6 a7) ⟨P, B⟩ = .nxt (slL ns words p (some (.d (.int c))) (some (.box B.length)) a6 a7) ⟨P, B ++ [(true, [.int a, .int b, .int 0])]⟩ := by simp [slL, E1]
  have x2 : (sSet 6 (eCallF F__law_take [] (aCons (eVar 5) (aCons (eC (.int 17)) (aNil))))) (slL ns words p (some (.d (.int c))) (some (.box B.length)) a6 a7) ⟨P, B ++ [(true, [.int a, .int b, .int 0])]⟩ = .nxt (slL ns words p (some (.d (.int c))) (some (.box B.length)) (some (.d (.int way))) a7) ⟨P, B2⟩ := by simp [slL, E2]
  have x3 : (sIf (tOf (eBin neF (eMeth "Schema" "tables" F_Schema_tables [] (eMake "Schema" F_Schema_init [] (aCons (eCall tupleF (aCons (eVar 3) (aNil))) (aNil))) (aNil)) (eCall tupleF (aCons (eVar 3) (aNil))))) (sRet (eC (.bl false))) (sNext)) (slL ns words p (some (.d (.int c))) (some (.box B.length)) (some (.d (.int way))) a7) ⟨P, B2⟩ = .nxt (slL ns words p (some (.d (.int c))) (some (.box B.length)) (some (.d (.int way))) a7) ⟨P ++ [schO p], B2⟩ := by
    simp only [sIf, tOf, eBin, told_mk hp hn, tup_pl, Out.bind_ok, frz_d, ne_self _ (okD_plan 56 p), Out.stB_ok, Bool.false_eq_true, if_false, sNext]
  have x4 : (sSet 7 (eCallF F__law_part [] (aCons (eCallF F__law_bent [] (aCons (eVar 5) (aCons (eVar 3) (aCons (eVar 2) (aCons (eVar 6) (aNil)))))) (aNil)))) (slL ns words p (some (.d (.int c))) (some (.box B.length)) (some (.d (.int way))) a7) ⟨P ++ [schO p], B2⟩ = .nxt (slL ns words p (some (.d (.int c))) (some (.box B.length)) (some (.d (.int way))) (some (.d (.str w)))) ⟨P3 ++ [.ins "Schema" []], B3⟩ := by
    simp only [slL]
    generalize p.map eD = q at E3 ⊢
    generalize words.map D.str = u at E3 ⊢
    simp [E3, hv, E4]
  have x5 : (sIf (tOrW (tNotW (tOf (eIsTy "str" (eVar 7)))) (tOf (eBin neF (eVar 7) (eBin ixF (eLst (aCons (eC (.str "tables")) (aCons (eC (.str "references")) (aNil)))) (eCall intF (aCons (eBin eqF (eVar 6) (eC (.int 14))) (aNil))))))) (sRet (eC (.bl false))) (sNext)) (slL ns words p (some (.d (.int c))) (some (.box B.length)) (some (.d (.int way))) (some (.d (.str w)))) ⟨P3 ++ [.ins "Schema" []], B3⟩ = .nxt (slL ns words p (some (.d (.int c))) (some (.box B.length)) (some (.d (.int way))) (some (.d (.str w)))) ⟨P3 ++ [.ins "Schema" []], B3⟩ := by
    have ib : ∀ (b : Bool) (S : Sta), intF [.d (.bl b)] S = .ok (.d (.int (if b = true then 1 else 0))) S := fun _ _ => rfl
    have i0 : ∀ x y : D, atI [x, y] 0 = some x := fun _ _ => rfl
    have i1 : ∀ x y : D, atI [x, y] 1 = some y := fun _ _ => rfl
    by_cases h14 : way = 14
    · rw [if_pos h14] at hw
      simp [slL, eLst, ib, h14, i0, i1, isTab, ← hw]
    · rw [if_neg h14] at hw
      simp [slL, eLst, ib, h14, i0, i1, isTab, ← hw]
  unfold lBody
  rw [seq_nxt x1, seq_nxt x2, seq_nxt x3, seq_nxt x4, x5]
theorem lloop (hp : PlanR words p) (hn : inNames p = true) : ∀ (l : List Int) (P : List Ob) (B : Bx) (a4 a5 a6 a7 : Option Vl), ∃ (P' : List Ob) (B' : Bx) (b4 b5 b6 b7 : Option Vl), forL (fun _ => true) (gNm 4) lBody (l.map D.int) (slL ns words p a4 a5 a6 a7) ⟨P, B⟩ = .nxt (slL ns words p b4 b5 b6 b7) ⟨P', B'⟩
  | [], P, B, a4, a5, a6, a7 => ⟨P, B, a4, a5, a6, a7, by simp [forL]⟩
  | c :: r, P, B, a4, a5, a6, a7 => by
    obtain ⟨P1, B1, c5, c6, c7, E⟩ := lbody_ok (P := P) (B := B) (ns := ns) (a5 := a5) (a6 := a6) (a7 := a7) hp hn c
    obtain ⟨P', B', b4, b5, b6, b7, E2⟩ := lloop hp hn r P1 B1 (some (.d (.int c))) c5 c6 c7
    refine ⟨P', B', b4, b5, b6, b7, ?_⟩
    rw [List.map_cons, forL_cons, if_pos rfl]
    simp only [gNm, slL, List.set_cons_succ, List.set_cons_zero]
    simp only [slL] at E E2
    rw [E]
    exact E2
end
theorem pure_law (ns : List Int) (hl : ns.length ≤ 63) : ∃ S1, F_law [scrD ns] ⟨[], []⟩ = .ok (.d (.bl true)) S1 := by
  obtain ⟨c0, E0⟩ := at_ok ns 0 ⟨[], []⟩
  obtain ⟨a, b, E1⟩ := begin_ok c0 ⟨[], []⟩
  let B0 : Bx := [(true, [.int a, .int b, .int 0])]
  have s0 : St3 B0 0 0 := ⟨a, b, 0, rfl, by omega, by omega⟩
  obtain ⟨words, B1, c1, c2, c3, A1, S1, E2⟩ := words_ok (P := []) (cnt := 6) s0 (by omega) (by omega) (by omega)
  obtain ⟨p, B2, hp, hn, A2, S2, E3⟩ := good_ok (P := []) S1 (by omega) (by omega) c2 c3
  obtain ⟨c4, E4⟩ := at_ok ns 0 ⟨[], B2⟩
  have E0 : F__law_at [scrD ns, .d (.int 0)] ⟨[], []⟩ = .ok (.d (.int c0)) ⟨[], []⟩ := E0
  have E4 : F__law_at [scrD ns, .d (.int 0)] ⟨[], B2⟩ = .ok (.d (.int c4)) ⟨[], B2⟩ := E4
  let sl (a b c d e f g : Option Vl) : Sl := [some (scrD ns), a, b, c, d, e, f, g]
  have z : frz (scrD ns) = scrD ns := rfl
  have x1 : (sSetB 1 (eCallF F__law_begin [] (aCons (eCallF F__law_at [] (aCons (eVar 0) (aCons (eC (.int 0)) (aNil)))) (aNil)))) (sl none none none none none none none) ⟨[], []⟩ = .nxt (sl (some (.box 0)) none none none none none none) ⟨[], B0⟩ := by
    simp [sl, z, E0, E1, B0]
  have x2 : (sSet 2 (eCallF F__law_words [] (aCons (eVar 1) (aCons (eC (.int 6)) (aNil))))) (sl (some (.box 0)) none none none none none none) ⟨[], B0⟩ = .nxt (sl (some (.box 0)) (some (.d (.lst (words.map D.str)))) none none none none none) ⟨[], B1⟩ := by
    simp [sl, E2]
  have x3 : (sSet 3 (eCallF F__law_good [] (aCons (eVar 2) (aCons (eVar 1) (aNil))))) (sl (some (.box 0)) (some (.d (.lst (words.map D.str)))) none none none none none) ⟨[], B1⟩ = .nxt (slL ns words p none none none none) ⟨[], B2⟩ := by
    simp only [slL]
    generalize words.map D.str = u at E3 ⊢
    generalize p.map eD = q at E3 ⊢
    simp [sl, E3]
  let its : List Int := (ns.drop 1).take 7 ++ [c4 / 2]
  have cd : CDivW c4 2 := cdiv _ _ (by omega) (by omega)
  have cu : cut (ns.map D.int) (some 1) (some 8) = ((ns.drop 1).take 7).map D.int := by
    unfold cut
    rw [show (some (1 : Int)) = some ((1 : Nat) : Int) from rfl, show (some (8 : Int)) = some ((8 : Nat) : Int) from rfl, HT.sIx_nat, HT.sIx_nat, ← List.map_drop, ← List.map_take]
    congr 1
    cases ns with
    | nil => simp
    | cons x r =>
      have m1 : min 1 ((x :: r).map D.int).length = 1 := by first | (simp; done) | (simp; omega)
      rw [m1]
      simp only [List.drop_succ_cons, List.drop_zero]
      rw [List.take_eq_take_iff]
      simp
      omega
  have sz : (((ns.drop 1).take 7).map D.int).length + [D.int (c4 / 2)].length ≤ sizeLine := le_sizeLine (by first | (simp; done) | (simp; omega))
  have it : (iOf itemsA (eBin addF (eSl (eVar 0) (oSome (eC (.int 1))) (oSome (eC (.int 8)))) (eLst (aCons (eBin divF (eCallF F__law_at [] (aCons (eVar 0) (aCons (eC (.int 0)) (aNil)))) (eC (.int 2))) (aNil))))) (slL ns words p none none none none) ⟨[], B2⟩ = .ok (its.map D.int, fun _ => true) ⟨[], B2⟩ := by
    have v1 : (eSl (eVar 0) (oSome (eC (.int 1))) (oSome (eC (.int 8)))) (slL ns words p none none none none) ⟨[], B2⟩ = .ok (.new (((ns.drop 1).take 7).map D.int)) ⟨[], B2⟩ := by
      rw [← cu]
      simp [eSl, oSome, slL, z]
      rfl
    have v2 : (eLst (aCons (eBin divF (eCallF F__law_at [] (aCons (eVar 0) (aCons (eC (.int 0)) (aNil)))) (eC (.int 2))) (aNil))) (slL ns words p none none none none) ⟨[], B2⟩ = .ok (.new [D.int (c4 / 2)]) ⟨[], B2⟩ := by
      simp [eLst, slL, z, E4, cd]
    simp only [iOf, eUn, eBin, v1, v2, Out.bind_ok, frz_new, addF_lst, if_pos sz]
    rw [← List.map_singleton (f := D.int), ← List.map_append]
    simp [its, -List.map_append]
  obtain ⟨P', B', b4, b5, b6, b7, e1⟩ := lloop (ns := ns) hp hn its [] B2 none none none none
  have x4 := (sFor_eq (tg := gNm 4) (body := lBody) it).trans e1
  refine ⟨⟨P' ++ [schO p], []⟩, ?_⟩
  unfold F_law
  refine (mkFn_eq rfl).trans ?_
  show fin 0 (t_law (sl none none none none none none none) ⟨[], []⟩) = _
  have tt : t_law = sSeq (sSetB 1 (eCallF F__law_begin [] (aCons (eCallF F__law_at [] (aCons (eVar 0) (aCons (eC (.int 0)) (aNil)))) (aNil)))) (sSeq (sSet 2 (eCallF F__law_words [] (aCons (eVar 1) (aCons (eC (.int 6)) (aNil))))) (sSeq (sSet 3 (eCallF F__law_good [] (aCons (eVar 2) (aCons (eVar 1) (aNil))))) (sSeq (sFor (iOf itemsA (eBin addF (eSl (eVar 0) (oSome (eC (.int 1))) (oSome (eC (.int 8)))) (eLst (aCons (eBin divF (eCallF F__law_at [] (aCons (eVar 0) (aCons (eC (.int 0)) (aNil)))) (eC (.int 2))) (aNil))))) (gNm 4) lBody) (sRet (eBin eqF (eMeth "Schema" "tables" F_Schema_tables [] (eMake "Schema" F_Schema_init [] (aCons (eCall tupleF (aCons (eVar 3) (aNil))) (aNil))) (aNil)) (eCall tupleF (aCons (eVar 3) (aNil)))))))) := rfl
  rw [tt, seq_nxt x1, seq_nxt x2, seq_nxt x3, seq_nxt x4]
  have ok := okD_plan 56 p
  simp only [sRet, eBin, told_mk hp hn, tup_pl, Out.bind_ok, frz_d, eqF_d, if_pos (And.intro ok ok), eqD_refl 60 _ ok, Out.st_ok, fin_d]
  simp [cutB]
end Wk

set_option Elab.async false
set_option linter.all false
set_option maxRecDepth 100000
set_option maxHeartbeats 0
namespace Hd
open PySem PySem.Spec PyProof.Rows L2
def top (i : Nat) : Stmt := PySem.Challenge.pw_carrykeys_k02_schemas_refused.main.body.getD i (.Pass ⟨0, 0, 0, 0⟩)
abbrev s__law_begin : Stmt := top 18
abbrev s__law_at : Stmt := top 17
abbrev s__law_take : Stmt := top 19
abbrev s__law_word : Stmt := top 20
abbrev s__law_words : Stmt := top 21
abbrev s__law_good : Stmt := top 23
abbrev s_Schema_tables : Stmt := inClass (top 15) 2
abbrev s_is_name : Stmt := top 8
abbrev s_is_reference : Stmt := top 12
abbrev s_is_table : Stmt := top 13
abbrev s_is_plan : Stmt := top 14
abbrev s_Schema_init : Stmt := inClass (top 15) 0
abbrev s__law_part : Stmt := top 28
abbrev s__law_no_name : Stmt := top 24
abbrev s__law_bent_references : Stmt := top 25
abbrev s__law_bent_table : Stmt := top 26
abbrev s__law_bent : Stmt := top 27
abbrev s_law : Stmt := top 29
abbrev s_NoSchema_init : Stmt := inClass (top 3) 0
abbrev d__law_begin : He.DefD := ⟨("_law_begin", none), "_law_begin", "_law_begin", defArgs s__law_begin, defBody s__law_begin, defScope s__law_begin, [], []⟩
abbrev d__law_at : He.DefD := ⟨("_law_at", none), "_law_at", "_law_at", defArgs s__law_at, defBody s__law_at, defScope s__law_at, [], []⟩
abbrev d__law_take : He.DefD := ⟨("_law_take", none), "_law_take", "_law_take", defArgs s__law_take, defBody s__law_take, defScope s__law_take, [], []⟩
abbrev d__law_word : He.DefD := ⟨("_law_word", none), "_law_word", "_law_word", defArgs s__law_word, defBody s__law_word, defScope s__law_word, [], []⟩
abbrev d__law_words : He.DefD := ⟨("_law_words", none), "_law_words", "_law_words", defArgs s__law_words, defBody s__law_words, defScope s__law_words, [], []⟩
abbrev d__law_good : He.DefD := ⟨("_law_good", none), "_law_good", "_law_good", defArgs s__law_good, defBody s__law_good, defScope s__law_good, [], []⟩
abbrev d_Schema_tables : He.DefD := ⟨("Schema", some "tables"), "tables", "Schema.tables", defArgs s_Schema_tables, defBody s_Schema_tables, defScope s_Schema_tables, [], []⟩
abbrev d_is_name : He.DefD := ⟨("is_name", none), "is_name", "is_name", defArgs s_is_name, defBody s_is_name, defScope s_is_name, [], []⟩
abbrev d_is_reference : He.DefD := ⟨("is_reference", none), "is_reference", "is_reference", defArgs s_is_reference, defBody s_is_reference, defScope s_is_reference, [], []⟩
abbrev d_is_table : He.DefD := ⟨("is_table", none), "is_table", "is_table", defArgs s_is_table, defBody s_is_table, defScope s_is_table, [], []⟩
abbrev d_is_plan : He.DefD := ⟨("is_plan", none), "is_plan", "is_plan", defArgs s_is_plan, defBody s_is_plan, defScope s_is_plan, [], []⟩
abbrev d_Schema_init : He.DefD := ⟨("Schema", some "__init__"), "__init__", "Schema.__init__", defArgs s_Schema_init, defBody s_Schema_init, defScope s_Schema_init, [], []⟩
abbrev d__law_part : He.DefD := ⟨("_law_part", none), "_law_part", "_law_part", defArgs s__law_part, defBody s__law_part, defScope s__law_part, [], []⟩
abbrev d__law_no_name : He.DefD := ⟨("_law_no_name", none), "_law_no_name", "_law_no_name", defArgs s__law_no_name, defBody s__law_no_name, defScope s__law_no_name, [], []⟩
abbrev d__law_bent_references : He.DefD := ⟨("_law_bent_references", none), "_law_bent_references", "_law_bent_references", defArgs s__law_bent_references, defBody s__law_bent_references, defScope s__law_bent_references, [], []⟩
abbrev d__law_bent_table : He.DefD := ⟨("_law_bent_table", none), "_law_bent_table", "_law_bent_table", defArgs s__law_bent_table, defBody s__law_bent_table, defScope s__law_bent_table, [], []⟩
abbrev d__law_bent : He.DefD := ⟨("_law_bent", none), "_law_bent", "_law_bent", defArgs s__law_bent, defBody s__law_bent, defScope s__law_bent, [], []⟩
abbrev d_law : He.DefD := ⟨("law", none), "law", "law", defArgs s_law, defBody s_law, defScope s_law, [], []⟩
abbrev d_NoSchema_init : He.DefD := ⟨("NoSchema", some "__init__"), "__init__", "NoSchema.__init__", defArgs s_NoSchema_init, defBody s_NoSchema_init, defScope s_NoSchema_init, [], []⟩
abbrev fn : List He.DefD := [d__law_begin, d__law_at, d__law_take, d__law_word, d__law_words, d__law_good, d_Schema_tables, d_is_name, d_is_reference, d_is_table, d_is_plan, d_Schema_init, d__law_part, d__law_no_name, d__law_bent_references, d__law_bent_table, d__law_bent, d_law, d_NoSchema_init]
abbrev fa : List He.Fa := [.free "len", .glo "_law_at", .glo "_law_begin", .free "range", .free "int", .glo "_law_take", .glo "_law_word", .glo "_law_words", .free "tuple", .glo "_law_good", .cls "Schema", .noat "Schema" "plan", .free "isinstance", .int "MOST_TABLES" 5, .free "str", .int "LONGEST" 8, .str "LETTERS" "abcdefghijklmnopqrstuvwxyz", .free "all", .glo "is_name", .free "bool", .int "MOST_COLUMNS" 3, .glo "is_reference", .free "set", .glo "is_table", .glo "is_plan", .meth "NoSchema" "__init__", .noat "NoSchema" "part", .glo "NoSchema", .mkr "Schema", .glo "Schema", .meth "Schema" "tables", .free "list", .glo "_law_no_name", .glo "_law_bent_references", .glo "_law_bent_table", .glo "_law_bent", .glo "_law_part", .exm "NoSchema" "NoSchema" true, .glo "law"]
abbrev xs : List Str := ["NoSchema"]
abbrev R : PySem.W.OpenRow := PySem.W.OpenLaw.row PySem.Challenge.rw_carrykeys_k02_schemas_refused
abbrev hk : PySem.W.Hook := Ev.hookX 4 fa fn xs
def ob (s : PySem.W.SharedT) : Ev.AlX := Ev.obsXG 4 fa fn xs (HandSHeadRun.getT s)
theorem ob_eq (s : PySem.W.SharedT) : ob s = hk.obs s.abs := Ev.obsXG_eq (HandSHeadRun.getT_eq s)
def loose : List PySem.Str := ["_wall", "CarryError", "NoSchema", "NoTable", "LETTERS", "LONGEST", "is_name", "MOST_TABLES", "MOST_COLUMNS", "is_reference", "is_table", "is_plan", "Schema", "_law_at", "_law_begin", "_law_take", "_law_word", "_law_words", "_law_tables", "_law_good", "_law_no_name", "_law_bent_references", "_law_bent_table", "_law_bent", "_law_part"]
theorem run (w : World) : HandSHeadRun.RunEq R (PySem.W.view R.prog [29]) hk ob 6000 loose w := by
  intro os
  kernel_rfl
end Hd
namespace Wk
open PySem PySem.Spec PyProof.Rows L2 Ev Hd
variable {g : G}
theorem test_ok_NoSchema (E : EnvE fa fn xs g) : ∀ c b, test_NoSchema c = some b → PySem.W.exmOne g.K (.ref (g.cls c)) (.ref (g.cls "NoSchema")) = some b := by
  intro c b h
  unfold test_NoSchema at h
  split at h
  · rename_i e; cases h; subst e; exact E.exm 37 "NoSchema" "NoSchema"
  · skip
    cases h
abbrev N_NoSchema_init : List Str := ["self", "part"]
theorem sc_NoSchema_init : FnScope N_NoSchema_init ["self", "part"] (defScope s_NoSchema_init) := ⟨rfl, rfl, rfl, by decide +kernel, rfl, by decide +kernel, by decide +kernel⟩
theorem xb_NoSchema_init : XBody N_NoSchema_init (defScope s_NoSchema_init) (defBody s_NoSchema_init) (ixs (["part"].map enc)) := (.cons 1 rfl (Or.inl rfl) rfl (Or.inl rfl) (by decide) (by decide) (by decide) (by decide) .nil)
theorem xj_NoSchema (E : EnvE fa fn xs g) (hk : 2 ≤ g.k) : XFn g (g.cls "NoSchema") (He.fAd g.K ("NoSchema", some "__init__")) (["part"].map enc) := xfn_at (d := d_NoSchema_init) E "NoSchema" 18 rfl rfl rfl sc_NoSchema_init xb_NoSchema_init (E.xcl "NoSchema" (by decide +kernel)).1 (by
  intro n hn
  simp only [List.map_cons, List.map_nil, List.mem_cons, List.not_mem_nil, or_false] at hn
  rcases hn with rfl
  · exact E.noat 26 "NoSchema") (fun _ _ _ _ _ _ us hl => match us, hl with | [_, _], _ => rfl) hk
/-! ### _law_begin -/
abbrev N__law_begin : List Str := ["cell"]
theorem sc__law_begin : FnScope N__law_begin ["cell"] (defScope s__law_begin) := ⟨rfl, rfl, rfl, by decide +kernel, rfl, by decide +kernel, by decide +kernel⟩
theorem w__law_begin (E : EnvE fa fn xs g) : JSs (g.at_ 0 N__law_begin (defScope s__law_begin)) (defBody s__law_begin) t__law_begin := jss_cons (js_if (jt_ge (je_var 0) (je_pow (je_int) (je_int))) (jss_one (js_ret (je_lst (ja_cons (je_sub (je_var 0) (je_pow (je_int) (je_int))) (ja_cons (je_var 0) (ja_cons (je_int) (ja_nil))))))) (jss_nil)) (jss_one (js_ret (je_lst (ja_cons (je_neg (je_int)) (ja_cons (je_var 0) (ja_cons (je_int) (ja_nil)))))))
theorem j__law_begin (E : EnvE fa fn xs g) (hk : 0 + 1 ≤ g.k) : FnJ g (He.fAd g.K ("_law_begin", none)) [] F__law_begin := fn_at (d := d__law_begin) E 0 rfl rfl rfl sc__law_begin (w__law_begin E) (fun _ _ _ _ _ _ us hl => match us, hl with | [_], _ => rfl) hk
/-! ### _law_at -/
abbrev N__law_at : List Str := ["script", "k"]
theorem sc__law_at : FnScope N__law_at ["script", "k"] (defScope s__law_at) := ⟨rfl, rfl, rfl, by decide +kernel, rfl, by decide +kernel, by decide +kernel⟩
theorem w__law_at (E : EnvE fa fn xs g) : JSs (g.at_ 0 N__law_at (defScope s__law_at)) (defBody s__law_at) t__law_at := jss_cons (js_if (jt_lt (je_var 1) (je_len rfl (E.any.free 0) (ja_cons (je_var 0) (ja_nil)))) (jss_one (js_ret (je_ix (je_var 0) (je_var 1)))) (jss_nil)) (jss_one (js_ret (je_int)))
theorem j__law_at (E : EnvE fa fn xs g) (hk : 0 + 1 ≤ g.k) : FnJ g (He.fAd g.K ("_law_at", none)) [] F__law_at := fn_at (d := d__law_at) E 1 rfl rfl rfl sc__law_at (w__law_at E) (fun _ _ _ _ _ _ us hl => match us, hl with | [_, _], _ => rfl) hk
/-! ### _law_take -/
abbrev N__law_take : List Str := ["state", "base", "digit", "k", "number"]
theorem sc__law_take : FnScope N__law_take ["state", "base"] (defScope s__law_take) := ⟨rfl, rfl, rfl, by decide +kernel, rfl, by decide +kernel, by decide +kernel⟩
theorem w__law_take (E : EnvE fa fn xs g) : JSs (g.at_ 0 N__law_take (defScope s__law_take)) (defBody s__law_take) t__law_take := jss_cons (js_if (jt_ge (je_ix (je_var 0) (je_int)) (je_int)) (jss_cons (js_set 2 (je_mod (je_int1 rfl (E.any.free 4) (ja_cons (je_ix (je_var 0) (je_int)) (ja_nil))) (je_var 1))) (jss_cons (js_sub (je_var 0) (je_int) (je_div (je_ix (je_var 0) (je_int)) (je_var 1))) (jss_one (js_ret (je_var 2))))) (jss_nil)) (jss_cons (js_set 3 (je_ix (je_var 0) (je_int))) (jss_cons (js_sub (je_var 0) (je_int) (je_add (je_var 3) (je_int))) (jss_cons (js_set 4 (je_mul (je_add (je_add (je_add (je_mod (je_int1 rfl (E.any.free 4) (ja_cons (je_ix (je_var 0) (je_int)) (ja_nil))) (je_int)) (je_mul (je_var 3) (je_var 3))) (je_var 3)) (je_int)) (je_add (je_mul (je_int) (je_var 3)) (je_int)))) (jss_cons (js_set 4 (je_mod (je_int1 rfl (E.any.free 4) (ja_cons (je_var 4) (ja_nil))) (je_int))) (jss_cons (js_set 4 (je_mod (je_int1 rfl (E.any.free 4) (ja_cons (je_add (je_mul (je_var 4) (je_var 4)) (je_mul (je_int) (je_var 3))) (ja_nil))) (je_int))) (jss_one (js_ret (je_mod (je_int1 rfl (E.any.free 4) (ja_cons (je_div (je_mul (je_add (je_add (je_var 4) (je_mul (je_int) (je_var 3))) (je_int)) (je_var 4)) (je_int)) (ja_nil))) (je_var 1)))))))))
theorem j__law_take (E : EnvE fa fn xs g) (hk : 0 + 1 ≤ g.k) : FnJ g (He.fAd g.K ("_law_take", none)) [] F__law_take := fn_at (d := d__law_take) E 2 rfl rfl rfl sc__law_take (w__law_take E) (fun _ _ _ _ _ _ us hl => match us, hl with | [_, _], _ => rfl) hk
/-! ### _law_word -/
abbrev N__law_word : List Str := ["state", "letters", "size", "k"]
theorem sc__law_word : FnScope N__law_word ["state"] (defScope s__law_word) := ⟨rfl, rfl, rfl, by decide +kernel, rfl, by decide +kernel, by decide +kernel⟩
theorem w__law_word (E : EnvE fa fn xs g) : JSs (g.at_ 1 N__law_word (defScope s__law_word)) (defBody s__law_word) t__law_word := jss_cons (js_set 1 (je_str)) (jss_cons (js_set 2 (je_add (je_int) (je_call (j__law_take E.any (Nat.le_of_ble_eq_true rfl)) rfl (E.any.glo 5) (ja_cons (je_var 0) (ja_cons (je_int) (ja_nil)))))) (jss_one (js_ret (je_join (je_str) (je_lc (own := [("k", 3)]) (ji_range1 rfl (E.any.free 3) (ja_cons (je_var 2) (ja_nil))) (jg_name 3) (jts_nil) (je_ix (je_var 1) (je_call (j__law_take E.any (Nat.le_of_ble_eq_true rfl)) rfl (E.any.glo 5) (ja_cons (je_var 0) (ja_cons (je_int) (ja_nil))))) (show BlkOk N__law_word (defScope s__law_word) _ [("k", 3)] from ⟨by rfl, by decide +kernel, by decide +kernel, by decide +kernel, by decide +kernel⟩))))))
theorem j__law_word (E : EnvE fa fn xs g) (hk : 1 + 1 ≤ g.k) : FnJ g (He.fAd g.K ("_law_word", none)) [] F__law_word := fn_at (d := d__law_word) E 3 rfl rfl rfl sc__law_word (w__law_word E) (fun _ _ _ _ _ _ us hl => match us, hl with | [_], _ => rfl) hk
/-! ### _law_words -/
abbrev N__law_words : List Str := ["state", "count", "letters", "words", "k", "word", "way", "near", "at", "letter"]
theorem sc__law_words : FnScope N__law_words ["state", "count"] (defScope s__law_words) := ⟨rfl, rfl, rfl, by decide +kernel, rfl, by decide +kernel, by decide +kernel⟩
theorem w__law_words (E : EnvE fa fn xs g) : JSs (g.at_ 2 N__law_words (defScope s__law_words)) (defBody s__law_words) t__law_words := jss_cons (js_set 2 (je_str)) (jss_cons (js_setB 3 (je_lst (ja_nil))) (jss_cons (js_for (ji_range1 rfl (E.any.free 3) (ja_cons (je_var 1) (ja_nil))) (jg_name 4) (jss_cons (js_set 5 (je_call (j__law_word E.any (Nat.le_of_ble_eq_true rfl)) rfl (E.any.glo 6) (ja_cons (je_var 0) (ja_nil)))) (jss_cons (js_set 6 (je_call (j__law_take E.any (Nat.le_of_ble_eq_true rfl)) rfl (E.any.glo 5) (ja_cons (je_var 0) (ja_cons (je_int) (ja_nil))))) (jss_cons (js_if (jt_bool (jw_and (jt_ne (je_var 3) (je_lst (ja_nil))) (jw_and1 (jt_gt (je_var 6) (je_int))))) (jss_cons (js_set 7 (je_ix (je_var 3) (je_neg (je_int)))) (jss_cons (js_set 8 (je_call (j__law_take E.any (Nat.le_of_ble_eq_true rfl)) rfl (E.any.glo 5) (ja_cons (je_var 0) (ja_cons (je_len rfl (E.any.free 0) (ja_cons (je_var 7) (ja_nil))) (ja_nil))))) (jss_cons (js_set 5 (je_add (je_add (je_sl (je_var 7) (jo_none) (jo_some (je_var 8))) (je_ix (je_var 2) (je_call (j__law_take E.any (Nat.le_of_ble_eq_true rfl)) rfl (E.any.glo 5) (ja_cons (je_var 0) (ja_cons (je_int) (ja_nil)))))) (je_sl (je_var 7) (jo_some (je_add (je_var 8) (je_int))) (jo_none)))) (jss_cons (js_if (jt_bool (jw_and (jt_eq (je_var 6) (je_int)) (jw_and1 (jt_lt (je_len rfl (E.any.free 0) (ja_cons (je_var 7) (ja_nil))) (je_int))))) (jss_one (js_set 5 (je_add (je_var 7) (je_ix (je_var 5) (je_var 8))))) (jss_nil)) (jss_one (js_if (jt_bool (jw_and (jt_eq (je_var 6) (je_int)) (jw_and1 (jt_gt (je_len rfl (E.any.free 0) (ja_cons (je_var 7) (ja_nil))) (je_int))))) (jss_one (js_set 5 (je_add (je_sl (je_var 7) (jo_none) (jo_some (je_var 8))) (je_sl (je_var 7) (jo_some (je_add (je_var 8) (je_int))) (jo_none))))) (jss_nil))))))) (jss_nil)) (jss_cons (js_if (jt_in (je_var 5) (je_var 3)) (jss_one (js_set 5 (je_ix (je_lc (own := [("letter", 9)]) (ji_any (je_var 2)) (jg_name 9) (jts_one (jt_notIn (je_var 9) (je_var 3))) (je_var 9) (show BlkOk N__law_words (defScope s__law_words) _ [("letter", 9)] from ⟨by rfl, by decide +kernel, by decide +kernel, by decide +kernel, by decide +kernel⟩)) (je_int)))) (jss_nil)) (jss_one (js_expr (je_append (je_var 3) (je_var 5))))))))) (jss_one (js_ret (je_var 3)))))
theorem j__law_words (E : EnvE fa fn xs g) (hk : 2 + 1 ≤ g.k) : FnJ g (He.fAd g.K ("_law_words", none)) [] F__law_words := fn_at (d := d__law_words) E 4 rfl rfl rfl sc__law_words (w__law_words E) (fun _ _ _ _ _ _ us hl => match us, hl with | [_, _], _ => rfl) hk
/-! ### _law_good -/
abbrev N__law_good : List Str := ["words", "state", "names", "plan", "name", "columns", "references", "column"]
theorem sc__law_good : FnScope N__law_good ["words", "state"] (defScope s__law_good) := ⟨rfl, rfl, rfl, by decide +kernel, rfl, by decide +kernel, by decide +kernel⟩
theorem w__law_good (E : EnvE fa fn xs g) : JSs (g.at_ 3 N__law_good (defScope s__law_good)) (defBody s__law_good) t__law_good := jss_cons (js_set 2 (je_sl (je_var 0) (jo_none) (jo_some (je_add (je_int) (je_call (j__law_take E.any (Nat.le_of_ble_eq_true rfl)) rfl (E.any.glo 5) (ja_cons (je_var 1) (ja_cons (je_int) (ja_nil)))))))) (jss_cons (js_setB 3 (je_lst (ja_nil))) (jss_cons (js_for (ji_any (je_var 2)) (jg_name 4) (jss_cons (js_set 5 (je_call (j__law_words E.any (Nat.le_of_ble_eq_true rfl)) rfl (E.any.glo 7) (ja_cons (je_var 1) (ja_cons (je_add (je_int) (je_call (j__law_take E.any (Nat.le_of_ble_eq_true rfl)) rfl (E.any.glo 5) (ja_cons (je_var 1) (ja_cons (je_int) (ja_nil))))) (ja_nil))))) (jss_cons (js_setL (set_lc 6 (own := [("column", 7)]) (ji_any (je_var 5)) (jg_name 7) (jts_nil) (je_tup (ja_cons (je_var 7) (ja_cons (je_ix (je_var 2) (je_call (j__law_take E.any (Nat.le_of_ble_eq_true rfl)) rfl (E.any.glo 5) (ja_cons (je_var 1) (ja_cons (je_len rfl (E.any.free 0) (ja_cons (je_var 2) (ja_nil))) (ja_nil))))) (ja_nil)))) (show BlkOk N__law_good (defScope s__law_good) _ [("column", 7)] from ⟨by rfl, by decide +kernel, by decide +kernel, by decide +kernel, by decide +kernel⟩))) (jss_one (js_expr (je_append (je_var 3) (je_tup (ja_cons (je_var 4) (ja_cons (je_eq (je_call (j__law_take E.any (Nat.le_of_ble_eq_true rfl)) rfl (E.any.glo 5) (ja_cons (je_var 1) (ja_cons (je_int) (ja_nil)))) (je_int)) (ja_cons (je_tuple rfl (E.any.free 8) (ja_cons (je_var 6) (ja_nil))) (ja_nil))))))))))) (jss_one (js_ret (je_var 3)))))
theorem j__law_good (E : EnvE fa fn xs g) (hk : 3 + 1 ≤ g.k) : FnJ g (He.fAd g.K ("_law_good", none)) [] F__law_good := fn_at (d := d__law_good) E 5 rfl rfl rfl sc__law_good (w__law_good E) (fun _ _ _ _ _ _ us hl => match us, hl with | [_, _], _ => rfl) hk
/-! ### Schema_tables -/
abbrev N_Schema_tables : List Str := ["self"]
theorem sc_Schema_tables : FnScope N_Schema_tables ["self"] (defScope s_Schema_tables) := ⟨rfl, rfl, rfl, by decide +kernel, rfl, by decide +kernel, by decide +kernel⟩
theorem w_Schema_tables (E : EnvE fa fn xs g) : JSs (g.at_ 0 N_Schema_tables (defScope s_Schema_tables)) (defBody s_Schema_tables) t_Schema_tables := jss_one (js_ret (je_fld "Schema" "plan" (E.any.cls_ 10 "Schema") (E.any.noat 11 "Schema") (je_var 0)))
theorem j_Schema_tables (E : EnvE fa fn xs g) (hk : 0 + 1 ≤ g.k) : FnJ g (He.fAd g.K ("Schema", some "tables")) [] F_Schema_tables := fn_at (d := d_Schema_tables) E 6 rfl rfl rfl sc_Schema_tables (w_Schema_tables E) (fun _ _ _ _ _ _ us hl => match us, hl with | [_], _ => rfl) hk
/-! ### is_name -/
abbrev N_is_name : List Str := ["thing", "letter"]
theorem sc_is_name : FnScope N_is_name ["thing"] (defScope s_is_name) := ⟨rfl, rfl, rfl, by decide +kernel, rfl, by decide +kernel, by decide +kernel⟩
theorem w_is_name (E : EnvE fa fn xs g) : JSs (g.at_ 0 N_is_name (defScope s_is_name)) (defBody s_is_name) t_is_name := jss_cons (js_if (jt_bool (jw_or (jt_not (jt_val (je_isTy rfl (E.any.free 12) rfl (E.any.free 14) (by decide +kernel) (je_var 0)))) (jw_or (jt_eq (je_var 0) (je_str)) (jw_or1 (jt_gt (je_len rfl (E.any.free 0) (ja_cons (je_var 0) (ja_nil))) (je_gintE (E.any.int_ 15))))))) (jss_one (js_ret (je_bl))) (jss_nil)) (jss_one (js_ret (je_all rfl (E.any.free 17) (ja_cons (je_lc (own := [("letter", 1)]) (ji_any (je_var 0)) (jg_name 1) (jts_nil) (je_in (je_var 1) (je_gstrE (E.any.str_ 16))) (show BlkOk N_is_name (defScope s_is_name) _ [("letter", 1)] from ⟨by rfl, by decide +kernel, by decide +kernel, by decide +kernel, by decide +kernel⟩)) (ja_nil)))))
theorem j_is_name (E : EnvE fa fn xs g) (hk : 0 + 1 ≤ g.k) : FnJ g (He.fAd g.K ("is_name", none)) [] F_is_name := fn_at (d := d_is_name) E 7 rfl rfl rfl sc_is_name (w_is_name E) (fun _ _ _ _ _ _ us hl => match us, hl with | [_], _ => rfl) hk
/-! ### is_reference -/
abbrev N_is_reference : List Str := ["thing"]
theorem sc_is_reference : FnScope N_is_reference ["thing"] (defScope s_is_reference) := ⟨rfl, rfl, rfl, by decide +kernel, rfl, by decide +kernel, by decide +kernel⟩
theorem w_is_reference (E : EnvE fa fn xs g) : JSs (g.at_ 1 N_is_reference (defScope s_is_reference)) (defBody s_is_reference) t_is_reference := jss_one (js_ret (je_and (je_isTy rfl (E.any.free 12) rfl (E.any.free 8) (by decide +kernel) (je_var 0)) (je_and (je_eq (je_len rfl (E.any.free 0) (ja_cons (je_var 0) (ja_nil))) (je_int)) (je_and (je_call (j_is_name E.any (Nat.le_of_ble_eq_true rfl)) rfl (E.any.glo 18) (ja_cons (je_ix (je_var 0) (je_int)) (ja_nil))) (je_one (je_call (j_is_name E.any (Nat.le_of_ble_eq_true rfl)) rfl (E.any.glo 18) (ja_cons (je_ix (je_var 0) (je_int)) (ja_nil))))))))
theorem j_is_reference (E : EnvE fa fn xs g) (hk : 1 + 1 ≤ g.k) : FnJ g (He.fAd g.K ("is_reference", none)) [] F_is_reference := fn_at (d := d_is_reference) E 8 rfl rfl rfl sc_is_reference (w_is_reference E) (fun _ _ _ _ _ _ us hl => match us, hl with | [_], _ => rfl) hk
/-! ### is_table -/
abbrev N_is_table : List Str := ["thing", "name", "unique", "references", "one"]
theorem sc_is_table : FnScope N_is_table ["thing"] (defScope s_is_table) := ⟨rfl, rfl, rfl, by decide +kernel, rfl, by decide +kernel, by decide +kernel⟩
theorem w_is_table (E : EnvE fa fn xs g) : JSs (g.at_ 2 N_is_table (defScope s_is_table)) (defBody s_is_table) t_is_table := jss_cons (js_if (jt_bool (jw_or (jt_not (jt_val (je_isTy rfl (E.any.free 12) rfl (E.any.free 8) (by decide +kernel) (je_var 0)))) (jw_or1 (jt_ne (je_len rfl (E.any.free 0) (ja_cons (je_var 0) (ja_nil))) (je_int))))) (jss_one (js_ret (je_bl))) (jss_nil)) (jss_cons (js_unp (je_var 0) (jg_tup (jgs_cons (jg_name 1) (jgs_cons (jg_name 2) (jgs_cons (jg_name 3) (jgs_nil)))))) (jss_cons (js_if (jt_bool (jw_or (jt_not (jt_val (je_call (j_is_name E.any (Nat.le_of_ble_eq_true rfl)) rfl (E.any.glo 18) (ja_cons (je_var 1) (ja_nil))))) (jw_or1 (jt_not (jt_val (je_isTy rfl (E.any.free 12) rfl (E.any.free 19) (by decide +kernel) (je_var 2))))))) (jss_one (js_ret (je_bl))) (jss_nil)) (jss_cons (js_if (jt_bool (jw_or (jt_not (jt_val (je_isTy rfl (E.any.free 12) rfl (E.any.free 8) (by decide +kernel) (je_var 3)))) (jw_or1 (jt_gt (je_len rfl (E.any.free 0) (ja_cons (je_var 3) (ja_nil))) (je_gintE (E.any.int_ 20)))))) (jss_one (js_ret (je_bl))) (jss_nil)) (jss_cons (js_if (jt_not (jt_val (je_all rfl (E.any.free 17) (ja_cons (je_lc (own := [("one", 4)]) (ji_any (je_var 3)) (jg_name 4) (jts_nil) (je_call (j_is_reference E.any (Nat.le_of_ble_eq_true rfl)) rfl (E.any.glo 21) (ja_cons (je_var 4) (ja_nil))) (show BlkOk N_is_table (defScope s_is_table) _ [("one", 4)] from ⟨by rfl, by decide +kernel, by decide +kernel, by decide +kernel, by decide +kernel⟩)) (ja_nil))))) (jss_one (js_ret (je_bl))) (jss_nil)) (jss_one (js_ret (je_eq (je_lenSet rfl (E.any.free 0) rfl (E.any.free 22) (je_lc (own := [("one", 4)]) (ji_any (je_var 3)) (jg_name 4) (jts_nil) (je_ix (je_var 4) (je_int)) (show BlkOk N_is_table (defScope s_is_table) _ [("one", 4)] from ⟨by rfl, by decide +kernel, by decide +kernel, by decide +kernel, by decide +kernel⟩))) (je_len rfl (E.any.free 0) (ja_cons (je_var 3) (ja_nil))))))))))
theorem j_is_table (E : EnvE fa fn xs g) (hk : 2 + 1 ≤ g.k) : FnJ g (He.fAd g.K ("is_table", none)) [] F_is_table := fn_at (d := d_is_table) E 9 rfl rfl rfl sc_is_table (w_is_table E) (fun _ _ _ _ _ _ us hl => match us, hl with | [_], _ => rfl) hk
/-! ### is_plan -/
abbrev N_is_plan : List Str := ["thing", "one"]
theorem sc_is_plan : FnScope N_is_plan ["thing"] (defScope s_is_plan) := ⟨rfl, rfl, rfl, by decide +kernel, rfl, by decide +kernel, by decide +kernel⟩
theorem w_is_plan (E : EnvE fa fn xs g) : JSs (g.at_ 3 N_is_plan (defScope s_is_plan)) (defBody s_is_plan) t_is_plan := jss_cons (js_if (jt_bool (jw_or (jt_not (jt_val (je_isTy rfl (E.any.free 12) rfl (E.any.free 8) (by decide +kernel) (je_var 0)))) (jw_or (jt_eq (je_var 0) (je_tup (ja_nil))) (jw_or1 (jt_gt (je_len rfl (E.any.free 0) (ja_cons (je_var 0) (ja_nil))) (je_gintE (E.any.int_ 13))))))) (jss_one (js_ret (je_bl))) (jss_nil)) (jss_cons (js_if (jt_not (jt_val (je_all rfl (E.any.free 17) (ja_cons (je_lc (own := [("one", 1)]) (ji_any (je_var 0)) (jg_name 1) (jts_nil) (je_call (j_is_table E.any (Nat.le_of_ble_eq_true rfl)) rfl (E.any.glo 23) (ja_cons (je_var 1) (ja_nil))) (show BlkOk N_is_plan (defScope s_is_plan) _ [("one", 1)] from ⟨by rfl, by decide +kernel, by decide +kernel, by decide +kernel, by decide +kernel⟩)) (ja_nil))))) (jss_one (js_ret (je_bl))) (jss_nil)) (jss_one (js_ret (je_eq (je_lenSet rfl (E.any.free 0) rfl (E.any.free 22) (je_lc (own := [("one", 1)]) (ji_any (je_var 0)) (jg_name 1) (jts_nil) (je_ix (je_var 1) (je_int)) (show BlkOk N_is_plan (defScope s_is_plan) _ [("one", 1)] from ⟨by rfl, by decide +kernel, by decide +kernel, by decide +kernel, by decide +kernel⟩))) (je_len rfl (E.any.free 0) (ja_cons (je_var 0) (ja_nil)))))))
theorem j_is_plan (E : EnvE fa fn xs g) (hk : 3 + 1 ≤ g.k) : FnJ g (He.fAd g.K ("is_plan", none)) [] F_is_plan := fn_at (d := d_is_plan) E 10 rfl rfl rfl sc_is_plan (w_is_plan E) (fun _ _ _ _ _ _ us hl => match us, hl with | [_], _ => rfl) hk
/-! ### Schema_init -/
abbrev N_Schema_init : List Str := ["self", "tables", "names", "table", "places", "column", "place"]
theorem sc_Schema_init : FnScope N_Schema_init ["self", "tables"] (defScope s_Schema_init) := ⟨rfl, rfl, rfl, by decide +kernel, rfl, by decide +kernel, by decide +kernel⟩
theorem w_Schema_init (E : EnvE fa fn xs g) : JSs (g.at_ 4 N_Schema_init (defScope s_Schema_init)) (defBody s_Schema_init) t_Schema_init := jss_cons (js_if (jt_not (jt_val (je_call (j_is_plan E.any (Nat.le_of_ble_eq_true rfl)) rfl (E.any.glo 24) (ja_cons (je_var 1) (ja_nil))))) (jss_one (js_raise (fI := He.fAd _ ("NoSchema", some "__init__")) "NoSchema" ["part"] (E.any.xcl "NoSchema" (by decide +kernel)).1 (E.any.meth 25 "NoSchema").at_ (beq_iff_eq.mp (E.any.meth (m := "__init__") 25 "NoSchema").fn) (xj_NoSchema E.any (Nat.le_of_ble_eq_true rfl)) rfl (E.any.gcl 27 "NoSchema") (ja_cons (je_str) (ja_nil)))) (jss_nil)) (jss_cons (js_set 2 (je_lc (own := [("table", 3)]) (ji_any (je_var 1)) (jg_name 3) (jts_nil) (je_ix (je_var 3) (je_int)) (show BlkOk N_Schema_init (defScope s_Schema_init) _ [("table", 3)] from ⟨by rfl, by decide +kernel, by decide +kernel, by decide +kernel, by decide +kernel⟩)) (hs := sw_cell rfl)) (jss_cons (js_setL (set_lc2 4 (own := [("table", 3), ("column", 5), ("place", 6)]) (vs1 := [5, 6]) (ji_any (je_var 1)) (jg_name 3) (jts_nil) (ji_any (je_ix (je_var 3) (je_int))) (jg_tup (jgs_cons (jg_name 5) (jgs_cons (jg_name 6) (jgs_nil)))) (jts_nil) (je_var 6) (show BlkOk N_Schema_init (defScope s_Schema_init) _ [("table", 3), ("column", 5), ("place", 6)] from ⟨by rfl, by decide +kernel, by decide +kernel, by decide +kernel, by decide +kernel⟩))) (jss_cons (js_if (jt_not (jt_val (je_all rfl (E.any.free 17) (ja_cons (je_lc (own := [("place", 6)]) (ji_any (je_var 4)) (jg_name 6) (jts_nil) (je_in (je_var 6) (je_var 2)) (show BlkOk N_Schema_init (defScope s_Schema_init) _ [("place", 6)] from ⟨by rfl, by decide +kernel, by decide +kernel, by decide +kernel, by decide +kernel⟩)) (ja_nil))))) (jss_one (js_raise (fI := He.fAd _ ("NoSchema", some "__init__")) "NoSchema" ["part"] (E.any.xcl "NoSchema" (by decide +kernel)).1 (E.any.meth 25 "NoSchema").at_ (beq_iff_eq.mp (E.any.meth (m := "__init__") 25 "NoSchema").fn) (xj_NoSchema E.any (Nat.le_of_ble_eq_true rfl)) rfl (E.any.gcl 27 "NoSchema") (ja_cons (je_str) (ja_nil)))) (jss_nil)) (jss_one (js_fld "Schema" "plan" (E.any.cls_ 10 "Schema") (E.any.noat 11 "Schema") (je_var 0) (je_var 1))))))
theorem j_Schema_init (E : EnvE fa fn xs g) (hk : 4 + 1 ≤ g.k) : FnJ g (He.fAd g.K ("Schema", some "__init__")) [] F_Schema_init := fn_at (d := d_Schema_init) E 11 rfl rfl rfl sc_Schema_init (w_Schema_init E) (fun _ _ _ _ _ _ us hl => match us, hl with | [_, _], _ => rfl) hk
/-! ### _law_part -/
abbrev N__law_part : List Str := ["thing", "part", "e"]
theorem sc__law_part : FnScope N__law_part ["thing"] (defScope s__law_part) := ⟨rfl, rfl, rfl, by decide +kernel, rfl, by decide +kernel, by decide +kernel⟩
theorem w__law_part (E : EnvE fa fn xs g) : JSs (g.at_ 6 N__law_part (defScope s__law_part)) (defBody s__law_part) t__law_part := jss_cons (js_set 1 (je_non)) (jss_cons (js_try 2 "NoSchema" (jss_one (js_expr (je_make (k0 := 5) "Schema" (j_Schema_init E.any (Nat.le_of_ble_eq_true rfl)) (Nat.le_of_ble_eq_true rfl) (E.any.mkr 28 "Schema") rfl (E.any.gcl 29 "Schema") (ja_cons (je_var 0) (ja_nil))))) (jh_set 1 (jp_xf "NoSchema" "part" (E.any.xcl "NoSchema" (by decide +kernel)).2 (E.any.noat 26 "NoSchema"))) (test_ok_NoSchema E.any) rfl (E.any.gcl 27 "NoSchema")) (jss_one (js_ret (je_var 1))))
theorem j__law_part (E : EnvE fa fn xs g) (hk : 6 + 1 ≤ g.k) : FnJ g (He.fAd g.K ("_law_part", none)) [] F__law_part := fn_at (d := d__law_part) E 12 rfl rfl rfl sc__law_part (w__law_part E) (fun _ _ _ _ _ _ us hl => match us, hl with | [_], _ => rfl) hk
/-! ### _law_no_name -/
abbrev N__law_no_name : List Str := ["state", "word", "at", "sign", "bent", "some"]
theorem sc__law_no_name : FnScope N__law_no_name ["state"] (defScope s__law_no_name) := ⟨rfl, rfl, rfl, by decide +kernel, rfl, by decide +kernel, by decide +kernel⟩
theorem w__law_no_name (E : EnvE fa fn xs g) : JSs (g.at_ 2 N__law_no_name (defScope s__law_no_name)) (defBody s__law_no_name) t__law_no_name := jss_cons (js_set 1 (je_call (j__law_word E.any (Nat.le_of_ble_eq_true rfl)) rfl (E.any.glo 6) (ja_cons (je_var 0) (ja_nil)))) (jss_cons (js_set 2 (je_call (j__law_take E.any (Nat.le_of_ble_eq_true rfl)) rfl (E.any.glo 5) (ja_cons (je_var 0) (ja_cons (je_add (je_len rfl (E.any.free 0) (ja_cons (je_var 1) (ja_nil))) (je_int)) (ja_nil))))) (jss_cons (js_set 3 (je_ix (je_str) (je_call (j__law_take E.any (Nat.le_of_ble_eq_true rfl)) rfl (E.any.glo 5) (ja_cons (je_var 0) (ja_cons (je_int) (ja_nil)))))) (jss_cons (js_set 4 (je_add (je_add (je_sl (je_var 1) (jo_none) (jo_some (je_var 2))) (je_var 3)) (je_sl (je_var 1) (jo_some (je_var 2)) (jo_some (je_int))))) (jss_cons (js_set 5 (je_lst (ja_cons (je_str) (ja_cons (je_var 4) (ja_cons (je_int) (ja_cons (je_non) (ja_cons (je_bl) (ja_cons (je_tup (ja_cons (je_var 1) (ja_nil))) (ja_cons (je_add (je_var 1) (je_str)) (ja_cons (je_lst (ja_cons (je_var 1) (ja_nil))) (ja_cons (je_upper (je_var 1)) (ja_nil)))))))))))) (jss_one (js_ret (je_ix (je_var 5) (je_call (j__law_take E.any (Nat.le_of_ble_eq_true rfl)) rfl (E.any.glo 5) (ja_cons (je_var 0) (ja_cons (je_int) (ja_nil)))))))))))
theorem j__law_no_name (E : EnvE fa fn xs g) (hk : 2 + 1 ≤ g.k) : FnJ g (He.fAd g.K ("_law_no_name", none)) [] F__law_no_name := fn_at (d := d__law_no_name) E 13 rfl rfl rfl sc__law_no_name (w__law_no_name E) (fun _ _ _ _ _ _ us hl => match us, hl with | [_], _ => rfl) hk
/-! ### _law_bent_references -/
abbrev N__law_bent_references : List Str := ["state", "references", "stranger", "way", "at", "column", "place", "word", "to", "one"]
theorem sc__law_bent_references : FnScope N__law_bent_references ["state", "references", "stranger", "way"] (defScope s__law_bent_references) := ⟨rfl, rfl, rfl, by decide +kernel, rfl, by decide +kernel, by decide +kernel⟩
theorem w__law_bent_references (E : EnvE fa fn xs g) : JSs (g.at_ 3 N__law_bent_references (defScope s__law_bent_references)) (defBody s__law_bent_references) t__law_bent_references := jss_cons (js_set 4 (je_call (j__law_take E.any (Nat.le_of_ble_eq_true rfl)) rfl (E.any.glo 5) (ja_cons (je_var 0) (ja_cons (je_len rfl (E.any.free 0) (ja_cons (je_var 1) (ja_nil))) (ja_nil))))) (jss_cons (js_unp (je_ix (je_var 1) (je_var 4)) (jg_tup (jgs_cons (jg_name 5) (jgs_cons (jg_name 6) (jgs_nil))))) (jss_cons (js_if (jt_eq (je_var 3) (je_int)) (jss_one (js_ret (je_list rfl (E.any.free 31) (ja_cons (je_var 1) (ja_nil))))) (jss_nil)) (jss_cons (js_if (jt_eq (je_var 3) (je_int)) (jss_one (js_ret (je_add (je_var 1) (je_tuple rfl (E.any.free 8) (ja_cons (je_lc (own := [("word", 7)]) (ji_any (je_call (j__law_words E.any (Nat.le_of_ble_eq_true rfl)) rfl (E.any.glo 7) (ja_cons (je_var 0) (ja_cons (je_sub (je_int) (je_len rfl (E.any.free 0) (ja_cons (je_var 1) (ja_nil)))) (ja_nil))))) (jg_name 7) (jts_nil) (je_tup (ja_cons (je_var 7) (ja_cons (je_var 6) (ja_nil)))) (show BlkOk N__law_bent_references (defScope s__law_bent_references) _ [("word", 7)] from ⟨by rfl, by decide +kernel, by decide +kernel, by decide +kernel, by decide +kernel⟩)) (ja_nil)))))) (jss_nil)) (jss_cons (js_if (jt_eq (je_var 3) (je_int)) (jss_cons (js_set 8 (je_call (j__law_take E.any (Nat.le_of_ble_eq_true rfl)) rfl (E.any.glo 5) (ja_cons (je_var 0) (ja_cons (je_add (je_len rfl (E.any.free 0) (ja_cons (je_var 1) (ja_nil))) (je_int)) (ja_nil))))) (jss_one (js_ret (je_add (je_add (je_sl (je_var 1) (jo_none) (jo_some (je_var 8))) (je_tup (ja_cons (je_tup (ja_cons (je_var 5) (ja_cons (je_var 6) (ja_nil)))) (ja_nil)))) (je_sl (je_var 1) (jo_some (je_var 8)) (jo_none)))))) (jss_nil)) (jss_cons (js_set 9 (je_tup (ja_cons (je_var 5) (ja_cons (je_var 6) (ja_cons (je_var 6) (ja_nil)))))) (jss_cons (js_if (jt_eq (je_var 3) (je_int)) (jss_one (js_set 9 (je_tup (ja_cons (je_call (j__law_no_name E.any (Nat.le_of_ble_eq_true rfl)) rfl (E.any.glo 32) (ja_cons (je_var 0) (ja_nil))) (ja_cons (je_var 6) (ja_nil)))))) (jss_nil)) (jss_cons (js_if (jt_eq (je_var 3) (je_int)) (jss_one (js_set 9 (je_ix (je_lst (ja_cons (je_tup (ja_cons (je_var 5) (ja_nil))) (ja_cons (je_lst (ja_cons (je_var 5) (ja_cons (je_var 6) (ja_nil)))) (ja_cons (je_tup (ja_cons (je_var 5) (ja_cons (je_var 6) (ja_cons (je_var 6) (ja_nil))))) (ja_cons (je_var 5) (ja_nil)))))) (je_call (j__law_take E.any (Nat.le_of_ble_eq_true rfl)) rfl (E.any.glo 5) (ja_cons (je_var 0) (ja_cons (je_int) (ja_nil))))))) (jss_nil)) (jss_cons (js_if (jt_eq (je_var 3) (je_int)) (jss_one (js_set 9 (je_tup (ja_cons (je_var 5) (ja_cons (je_call (j__law_no_name E.any (Nat.le_of_ble_eq_true rfl)) rfl (E.any.glo 32) (ja_cons (je_var 0) (ja_nil))) (ja_nil)))))) (jss_nil)) (jss_cons (js_if (jt_bool (jw_or (jt_eq (je_var 3) (je_int)) (jw_or1 (jt_eq (je_var 3) (je_int))))) (jss_one (js_set 9 (je_tup (ja_cons (je_var 5) (ja_cons (je_var 2) (ja_nil)))))) (jss_nil)) (jss_one (js_ret (je_add (je_add (je_sl (je_var 1) (jo_none) (jo_some (je_var 4))) (je_tup (ja_cons (je_var 9) (ja_nil)))) (je_sl (je_var 1) (jo_some (je_add (je_var 4) (je_int))) (jo_none))))))))))))))
theorem j__law_bent_references (E : EnvE fa fn xs g) (hk : 3 + 1 ≤ g.k) : FnJ g (He.fAd g.K ("_law_bent_references", none)) [] F__law_bent_references := fn_at (d := d__law_bent_references) E 14 rfl rfl rfl sc__law_bent_references (w__law_bent_references E) (fun _ _ _ _ _ _ us hl => match us, hl with | [_, _, _, _], _ => rfl) hk
/-! ### _law_bent_table -/
abbrev N__law_bent_table : List Str := ["state", "entry", "stranger", "way", "name", "unique", "references"]
theorem sc__law_bent_table : FnScope N__law_bent_table ["state", "entry", "stranger", "way"] (defScope s__law_bent_table) := ⟨rfl, rfl, rfl, by decide +kernel, rfl, by decide +kernel, by decide +kernel⟩
theorem w__law_bent_table (E : EnvE fa fn xs g) : JSs (g.at_ 4 N__law_bent_table (defScope s__law_bent_table)) (defBody s__law_bent_table) t__law_bent_table := jss_cons (js_unp (je_var 1) (jg_tup (jgs_cons (jg_name 4) (jgs_cons (jg_name 5) (jgs_cons (jg_name 6) (jgs_nil)))))) (jss_cons (js_if (jt_eq (je_var 3) (je_int)) (jss_one (js_set 4 (je_call (j__law_no_name E.any (Nat.le_of_ble_eq_true rfl)) rfl (E.any.glo 32) (ja_cons (je_var 0) (ja_nil))))) (jss_nil)) (jss_cons (js_if (jt_bool (jw_or (jt_eq (je_var 3) (je_int)) (jw_or1 (jt_eq (je_var 3) (je_int))))) (jss_one (js_set 5 (je_ix (je_lst (ja_cons (je_int1 rfl (E.any.free 4) (ja_cons (je_var 5) (ja_nil))) (ja_cons (je_non) (ja_cons (je_str) (ja_cons (je_int) (ja_nil)))))) (je_call (j__law_take E.any (Nat.le_of_ble_eq_true rfl)) rfl (E.any.glo 5) (ja_cons (je_var 0) (ja_cons (je_int) (ja_nil))))))) (jss_nil)) (jss_cons (js_if (jt_in (je_var 3) (je_tup (ja_cons (je_int) (ja_cons (je_int) (ja_cons (je_int) (ja_cons (je_int) (ja_cons (je_int) (ja_cons (je_int) (ja_cons (je_int) (ja_cons (je_int) (ja_nil))))))))))) (jss_one (js_set 6 (je_call (j__law_bent_references E.any (Nat.le_of_ble_eq_true rfl)) rfl (E.any.glo 33) (ja_cons (je_var 0) (ja_cons (je_var 6) (ja_cons (je_var 2) (ja_cons (je_var 3) (ja_nil)))))))) (jss_nil)) (jss_cons (js_if (jt_eq (je_var 3) (je_int)) (jss_one (js_ret (je_ix (je_lst (ja_cons (je_lst (ja_cons (je_var 4) (ja_cons (je_var 5) (ja_cons (je_var 6) (ja_nil))))) (ja_cons (je_tup (ja_cons (je_var 4) (ja_cons (je_var 5) (ja_nil)))) (ja_cons (je_tup (ja_cons (je_var 4) (ja_cons (je_var 5) (ja_cons (je_var 6) (ja_cons (je_tup (ja_nil)) (ja_nil)))))) (ja_cons (je_var 4) (ja_nil)))))) (je_call (j__law_take E.any (Nat.le_of_ble_eq_true rfl)) rfl (E.any.glo 5) (ja_cons (je_var 0) (ja_cons (je_int) (ja_nil))))))) (jss_nil)) (jss_one (js_ret (je_tup (ja_cons (je_var 4) (ja_cons (je_var 5) (ja_cons (je_var 6) (ja_nil)))))))))))
theorem j__law_bent_table (E : EnvE fa fn xs g) (hk : 4 + 1 ≤ g.k) : FnJ g (He.fAd g.K ("_law_bent_table", none)) [] F__law_bent_table := fn_at (d := d__law_bent_table) E 15 rfl rfl rfl sc__law_bent_table (w__law_bent_table E) (fun _ _ _ _ _ _ us hl => match us, hl with | [_, _, _, _], _ => rfl) hk
/-! ### _law_bent -/
abbrev N__law_bent : List Str := ["state", "plan", "words", "way", "at", "word", "name", "unique", "references", "bent", "flag", "to"]
theorem sc__law_bent : FnScope N__law_bent ["state", "plan", "words", "way"] (defScope s__law_bent) := ⟨rfl, rfl, rfl, by decide +kernel, rfl, by decide +kernel, by decide +kernel⟩
theorem w__law_bent (E : EnvE fa fn xs g) : JSs (g.at_ 5 N__law_bent (defScope s__law_bent)) (defBody s__law_bent) t__law_bent := jss_cons (js_set 4 (je_call (j__law_take E.any (Nat.le_of_ble_eq_true rfl)) rfl (E.any.glo 5) (ja_cons (je_var 0) (ja_cons (je_len rfl (E.any.free 0) (ja_cons (je_var 1) (ja_nil))) (ja_nil))))) (jss_cons (js_if (jt_eq (je_var 3) (je_int)) (jss_one (js_ret (je_list rfl (E.any.free 31) (ja_cons (je_var 1) (ja_nil))))) (jss_nil)) (jss_cons (js_if (jt_eq (je_var 3) (je_int)) (jss_one (js_ret (je_ix (je_lst (ja_cons (je_non) (ja_cons (je_int) (ja_cons (je_str) (ja_cons (je_dic0) (ja_nil)))))) (je_call (j__law_take E.any (Nat.le_of_ble_eq_true rfl)) rfl (E.any.glo 5) (ja_cons (je_var 0) (ja_cons (je_int) (ja_nil))))))) (jss_nil)) (jss_cons (js_if (jt_eq (je_var 3) (je_int)) (jss_one (js_ret (je_tup (ja_nil)))) (jss_nil)) (jss_cons (js_if (jt_eq (je_var 3) (je_int)) (jss_one (js_ret (je_tuple rfl (E.any.free 8) (ja_cons (je_lc (own := [("word", 5)]) (ji_any (je_var 2)) (jg_name 5) (jts_nil) (je_tup (ja_cons (je_var 5) (ja_cons (je_bl) (ja_cons (je_tup (ja_nil)) (ja_nil))))) (show BlkOk N__law_bent (defScope s__law_bent) _ [("word", 5)] from ⟨by rfl, by decide +kernel, by decide +kernel, by decide +kernel, by decide +kernel⟩)) (ja_nil))))) (jss_nil)) (jss_cons (js_if (jt_eq (je_var 3) (je_int)) (jss_cons (js_unp (je_ix (je_var 1) (je_int)) (jg_tup (jgs_cons (jg_name 6) (jgs_cons (jg_name 7) (jgs_cons (jg_name 8) (jgs_nil)))))) (jss_cons (js_set 9 (je_add (je_lst (ja_cons (je_tup (ja_cons (je_var 6) (ja_cons (je_var 7) (ja_cons (je_call (j__law_bent_references E.any (Nat.le_of_ble_eq_true rfl)) rfl (E.any.glo 33) (ja_cons (je_var 0) (ja_cons (je_var 8) (ja_cons (je_ix (je_var 2) (je_int)) (ja_cons (je_int) (ja_nil)))))) (ja_nil))))) (ja_nil))) (je_sl (je_var 1) (jo_some (je_int)) (jo_none)))) (jss_cons (js_unp (je_ix (je_var 9) (je_neg (je_int))) (jg_tup (jgs_cons (jg_name 6) (jgs_cons (jg_name 7) (jgs_cons (jg_name 8) (jgs_nil)))))) (jss_cons (js_set 10 (je_ix (je_lst (ja_cons (je_int1 rfl (E.any.free 4) (ja_cons (je_var 7) (ja_nil))) (ja_cons (je_non) (ja_cons (je_str) (ja_cons (je_int) (ja_nil)))))) (je_call (j__law_take E.any (Nat.le_of_ble_eq_true rfl)) rfl (E.any.glo 5) (ja_cons (je_var 0) (ja_cons (je_int) (ja_nil)))))) (jss_one (js_ret (je_tuple rfl (E.any.free 8) (ja_cons (je_add (je_sl (je_var 9) (jo_none) (jo_some (je_neg (je_int)))) (je_lst (ja_cons (je_tup (ja_cons (je_var 6) (ja_cons (je_var 10) (ja_cons (je_var 8) (ja_nil))))) (ja_nil)))) (ja_nil))))))))) (jss_nil)) (jss_cons (js_if (jt_eq (je_var 3) (je_int)) (jss_cons (js_set 11 (je_call (j__law_take E.any (Nat.le_of_ble_eq_true rfl)) rfl (E.any.glo 5) (ja_cons (je_var 0) (ja_cons (je_add (je_len rfl (E.any.free 0) (ja_cons (je_var 1) (ja_nil))) (je_int)) (ja_nil))))) (jss_one (js_ret (je_tuple rfl (E.any.free 8) (ja_cons (je_add (je_add (je_sl (je_var 1) (jo_none) (jo_some (je_var 11))) (je_lst (ja_cons (je_tup (ja_cons (je_ix (je_ix (je_var 1) (je_var 4)) (je_int)) (ja_cons (je_bl) (ja_cons (je_tup (ja_nil)) (ja_nil))))) (ja_nil)))) (je_sl (je_var 1) (jo_some (je_var 11)) (jo_none))) (ja_nil)))))) (jss_nil)) (jss_one (js_ret (je_tuple rfl (E.any.free 8) (ja_cons (je_add (je_add (je_sl (je_var 1) (jo_none) (jo_some (je_var 4))) (je_lst (ja_cons (je_call (j__law_bent_table E.any (Nat.le_of_ble_eq_true rfl)) rfl (E.any.glo 34) (ja_cons (je_var 0) (ja_cons (je_ix (je_var 1) (je_var 4)) (ja_cons (je_ix (je_var 2) (je_int)) (ja_cons (je_var 3) (ja_nil)))))) (ja_nil)))) (je_sl (je_var 1) (jo_some (je_add (je_var 4) (je_int))) (jo_none))) (ja_nil)))))))))))
theorem j__law_bent (E : EnvE fa fn xs g) (hk : 5 + 1 ≤ g.k) : FnJ g (He.fAd g.K ("_law_bent", none)) [] F__law_bent := fn_at (d := d__law_bent) E 16 rfl rfl rfl sc__law_bent (w__law_bent E) (fun _ _ _ _ _ _ us hl => match us, hl with | [_, _, _, _], _ => rfl) hk
/-! ### law -/
abbrev N_law : List Str := ["script", "state", "words", "plan", "cell", "more", "way", "part"]
theorem sc_law : FnScope N_law ["script"] (defScope s_law) := ⟨rfl, rfl, rfl, by decide +kernel, rfl, by decide +kernel, by decide +kernel⟩
theorem w_law (E : EnvE fa fn xs g) : JSs (g.at_ 7 N_law (defScope s_law)) (defBody s_law) t_law := jss_cons (js_setB 1 (je_call (j__law_begin E.any (Nat.le_of_ble_eq_true rfl)) rfl (E.any.glo 2) (ja_cons (je_call (j__law_at E.any (Nat.le_of_ble_eq_true rfl)) rfl (E.any.glo 1) (ja_cons (je_var 0) (ja_cons (je_int) (ja_nil)))) (ja_nil)))) (jss_cons (js_set 2 (je_call (j__law_words E.any (Nat.le_of_ble_eq_true rfl)) rfl (E.any.glo 7) (ja_cons (je_var 1) (ja_cons (je_int) (ja_nil))))) (jss_cons (js_set 3 (je_call (j__law_good E.any (Nat.le_of_ble_eq_true rfl)) rfl (E.any.glo 9) (ja_cons (je_var 2) (ja_cons (je_var 1) (ja_nil))))) (jss_cons (js_for (ji_any (je_add (je_sl (je_var 0) (jo_some (je_int)) (jo_some (je_int))) (je_lst (ja_cons (je_div (je_call (j__law_at E.any (Nat.le_of_ble_eq_true rfl)) rfl (E.any.glo 1) (ja_cons (je_var 0) (ja_cons (je_int) (ja_nil)))) (je_int)) (ja_nil))))) (jg_name 4) (jss_cons (js_setB 5 (je_call (j__law_begin E.any (Nat.le_of_ble_eq_true rfl)) rfl (E.any.glo 2) (ja_cons (je_var 4) (ja_nil)))) (jss_cons (js_set 6 (je_call (j__law_take E.any (Nat.le_of_ble_eq_true rfl)) rfl (E.any.glo 5) (ja_cons (je_var 5) (ja_cons (je_int) (ja_nil))))) (jss_cons (js_if (jt_ne (je_meth0 "Schema" "tables" (j_Schema_tables E.any (Nat.le_of_ble_eq_true rfl)) (E.any.cls_ 10 "Schema") (E.any.meth 30 "Schema") (je_make (k0 := 5) "Schema" (j_Schema_init E.any (Nat.le_of_ble_eq_true rfl)) (Nat.le_of_ble_eq_true rfl) (E.any.mkr 28 "Schema") rfl (E.any.gcl 29 "Schema") (ja_cons (je_tuple rfl (E.any.free 8) (ja_cons (je_var 3) (ja_nil))) (ja_nil)))) (je_tuple rfl (E.any.free 8) (ja_cons (je_var 3) (ja_nil)))) (jss_one (js_ret (je_bl))) (jss_nil)) (jss_cons (js_set 7 (je_call (j__law_part E.any (Nat.le_of_ble_eq_true rfl)) rfl (E.any.glo 36) (ja_cons (je_call (j__law_bent E.any (Nat.le_of_ble_eq_true rfl)) rfl (E.any.glo 35) (ja_cons (je_var 5) (ja_cons (je_var 3) (ja_cons (je_var 2) (ja_cons (je_var 6) (ja_nil)))))) (ja_nil)))) (jss_one (js_if (jt_bool (jw_or (jt_not (jt_val (je_isTy rfl (E.any.free 12) rfl (E.any.free 14) (by decide +kernel) (je_var 7)))) (jw_or1 (jt_ne (je_var 7) (je_ix (je_lst (ja_cons (je_str) (ja_cons (je_str) (ja_nil)))) (je_int1 rfl (E.any.free 4) (ja_cons (je_eq (je_var 6) (je_int)) (ja_nil)))))))) (jss_one (js_ret (je_bl))) (jss_nil)))))))) (jss_one (js_ret (je_eq (je_meth0 "Schema" "tables" (j_Schema_tables E.any (Nat.le_of_ble_eq_true rfl)) (E.any.cls_ 10 "Schema") (E.any.meth 30 "Schema") (je_make (k0 := 5) "Schema" (j_Schema_init E.any (Nat.le_of_ble_eq_true rfl)) (Nat.le_of_ble_eq_true rfl) (E.any.mkr 28 "Schema") rfl (E.any.gcl 29 "Schema") (ja_cons (je_tuple rfl (E.any.free 8) (ja_cons (je_var 3) (ja_nil))) (ja_nil)))) (je_tuple rfl (E.any.free 8) (ja_cons (je_var 3) (ja_nil)))))))))
theorem j_law (E : EnvE fa fn xs g) (hk : 7 + 1 ≤ g.k) : FnJ g (He.fAd g.K ("law", none)) [] F_law := fn_at (d := d_law) E 17 rfl rfl rfl sc_law (w_law E) (fun _ _ _ _ _ _ us hl => match us, hl with | [_], _ => rfl) hk
end Wk

namespace Wk
open PySem PySem.Spec PyProof.Rows L2 Ev Hd
theorem facts {P : Program} {w : World} {K : PySem.W.Frag} {h : Heap} {mg : Str → Option Value} {f : Addr} (X : K.In h) (N : h.Ns mainGlobals mg) (at_ : mg ("law" : Str) = some (.ref f)) (c : He.SaysD fa fn K) (hx : xs.all (xB K) = true) :
    ∃ fd : FuncData, (∀ (s : Shared) (v : Value), BindsTo s fd ⟨[v], []⟩ [("script", v)]) ∧ ∀ base : Heap, K.In base → base.Ns mainGlobals mg → FnOk P w K mg base CXn 8 f fd ["script"] (spF K (fun s => He.ga K (enc s)) 1 F_law) := by
  obtain ⟨fd, F⟩ := c.def_ 17 (d := d_law) rfl
  have same := at_.symm.trans (He.glo_ok X N (c.fact 38 (f := .glo "law") rfl))
  cases same
  have b := FunD.bindsA (ps := ["script"]) F fun _ _ _ _ _ _ us hl => match us, hl with | [_], _ => rfl
  refine ⟨fd, fun s v => b s [v] rfl, fun base kb nb => fnok_cx ?_⟩
  exact fn_ok (g := ⟨P, w, K, mg, base, fun s => He.ga K (enc s), 7, N_law, defScope s_law, fun _ => true⟩) F sc_law (w_law ⟨c, ⟨base, kb, nb⟩, rfl, hx⟩)
end Wk
open PySem PySem.W PySem.Calls PyProof.Rows
theorem PySem.Challenge.cw_carrykeys_k02_schemas_refused_holds : PySem.Challenge.rw_carrykeys_k02_schemas_refused.Holds := by
  w_on; o_law
  refine HandSHeadRun.head_any (r := OpenLaw.row PySem.Challenge.rw_carrykeys_k02_schemas_refused) (q := view (OpenLaw.row PySem.Challenge.rw_carrykeys_k02_schemas_refused).prog [29]) (H := Hd.hk) (ob := Hd.ob) (M := 6000) (loose := Hd.loose) (d := HandSHeadRun.topDef (OpenLaw.row PySem.Challenge.rw_carrykeys_k02_schemas_refused).prog 29) (kwd := []) Hd.ob_eq
    (by kernel_rfl) (fun s => by kernel_rfl) Hd.run (by kernel_rfl) (by kernel_rfl) (by kernel_rfl) (by rfl) (by first | assumption | decide +kernel) (by decide +kernel) ⟨rfl, rfl, rfl, rfl, rfl, by decide +kernel⟩ ?hw ?hc
  case hw => w_witness2
  case hc =>
    refine L2.walk_ofE (l := PySem.Challenge.rw_carrykeys_k02_schemas_refused) (n := 63) (k := 8) (x := "script") (CX := Ev.CXn) rfl (by decide) (by kernel_rfl) ⟨rfl, by decide, by decide⟩ ?F Ev.cxn_none
    intro w mg fa h Y N hmg0
    obtain ⟨K, KX, c, hx⟩ := Y
    have hmg : mg ("law" : PySem.Str) = some (.ref fa) := by
      have e : (HandSHeadRun.topDef (OpenLaw.row PySem.Challenge.rw_carrykeys_k02_schemas_refused).prog 29).name = ("law" : PySem.Str) := by kernel_rfl
      rw [← e]
      exact hmg0
    obtain ⟨fd, hb, hF⟩ := Wk.facts (P := (PySem.Challenge.rw_carrykeys_k02_schemas_refused).prog) (w := w) KX N hmg c hx
    exact ⟨K, fd, _, KX, hb, fun H a ns hl hO hS => Ev.sp_start hO hS (Wk.pure_law ns hl), hF⟩

