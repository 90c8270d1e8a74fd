import PyProof.Rows.All
import Wide.All
import OpenK.AllK
import Wide.FinOn
import HandS.ForMost
import HandS.ForExc
import HandS.Defaults
import HandS.Wide
import HandS.TupAny
import HandS.ExcField
import HandS.ExcInit
import HandS.TryMany
import HandS.TryOnly
import HandS.RaiseMore
import HandS.Flow
import HandS.IsInst
import HandS.CallSlots
import HandS.Text
import HandS.HeadEnd
import HandS.HeadHook2
import HandS.Head2
import HandS.SortInts
import HandS.Style
import PyProof.Draws
import PyProof.EnumMake
import HandS.Zip0
import HandS.Zip
import HandS.SlotsOwn
import HandS.Property
import KE.KOpsOwn
import HandS.NoneIn
import HandS.Conv
import HandS.More
import HandS.WordsDict
import HandS.DictComp
import HandS.ListItems
import HandS.Deep
import PyProof.Rows.StrLawsPart
import PySem.Challenge.RW_carrykeys_k52_script_texts
set_option Elab.async false
set_option linter.all false
set_option maxRecDepth 100000
set_option maxHeartbeats 1000000
/-! Ev1: plain values, plain states, worlds; what an evaluation means over the abstract heap. My own layer over the hand layer. -/
namespace Ev
open PySem PySem.Spec PyProof.Rows L2
open Classical
abbrev St := L2.St

/-- a name of the text, sign by sign -/
def enc (s : String) : Str := ⟨(s.toList.map Char.toNat).toArray⟩
theorem enc_inj {s t : String} (h : enc s = enc t) : s = t := by
  have h1 : (s.toList.map Char.toNat).toArray = (t.toList.map Char.toNat).toArray := congrArg Str.cps h
  have h2 : s.toList.map Char.toNat = t.toList.map Char.toNat := by simpa using h1
  have h3 : s.toList = t.toList := by
    refine (List.map_inj_right ?_).mp h2
    intro a b e
    exact Char.toNat_inj.mp e
  exact String.toList_inj.mp h3
/-- plain data: tuples and frozen lists are values -/
inductive D where
  | non | bl (b : Bool) | int (i : Int) | str (x : Str) | tup (l : List D) | lst (l : List D) | scr (l : List D) | obj (i : Nat) | ty (n : String) | cl (a : Addr)
/-- an object with a place: an instance, a dict -/
inductive Ob where
  | ins (c : String) (fs : List (String × D)) | dic (kvs : List (Key × D)) | dlk (kvs : List (Key × D))
/-- P: instances and dicts; B: lists that a frame may change (true), or that are frozen (false) -/
structure Sta where
  P : List Ob
  B : List (Bool × List D)
/-- a value in the hand: data, a list just made, a list that has a box -/
inductive Vl where
  | d (x : D) | new (l : List D) | box (i : Nat)
abbrev Sl := List (Option Vl)
/-- how an evaluation ends: an exception has the name of its class and its fields -/
inductive Out (α : Type) where
  | ok (a : α) (s : Sta) | exc (c : String) (fs : Option (List (String × D))) (s : Sta) | bad
inductive SOut where
  | nxt (σ : Sl) (s : Sta) | ret (v : Vl) (s : Sta) | brk (σ : Sl) (s : Sta) | cnt (σ : Sl) (s : Sta) | exc (c : String) (fs : Option (List (String × D))) (σ : Sl) (s : Sta) | bad
abbrev EV := Sl → Sta → Out Vl
abbrev EVs := Sl → Sta → Out (List Vl)
abbrev SV := Sl → Sta → SOut
def Out.bind {α β : Type} (o : Out α) (f : α → Sta → Out β) : Out β := match o with
  | .ok a s => f a s
  | .exc c fs s => .exc c fs s
  | .bad => .bad
@[simp] theorem Out.bind_ok {α β : Type} (a : α) (s : Sta) (f : α → Sta → Out β) : (Out.ok a s).bind f = f a s := rfl
@[simp] theorem Out.bind_exc {α β : Type} (c : String) (fs) (s : Sta) (f : α → Sta → Out β) : (Out.exc c fs s).bind f = .exc c fs s := rfl
@[simp] theorem Out.bind_bad {α β : Type} (f : α → Sta → Out β) : (Out.bad : Out α).bind f = .bad := rfl

/-- the world: frozen lists and tuples by their address, the places of boxes and objects, lists in the making -/
structure Wd where
  fz : Addr → Option HO
  bx : List Addr
  ob : List Addr
  an : List (Addr × List V)
structure Wd.Le (a b : Wd) : Prop where
  fz : ∀ p o, a.fz p = some o → b.fz p = some o
  bx : a.bx <+: b.bx
  ob : a.ob <+: b.ob
  an : b.an = a.an
theorem Wd.Le.refl (a : Wd) : a.Le a := ⟨fun _ _ h => h, List.prefix_refl _, List.prefix_refl _, rfl⟩
theorem Wd.Le.trans {a b c : Wd} (h : a.Le b) (k : b.Le c) : a.Le c := ⟨fun p o e => k.fz p o (h.fz p o e), h.bx.trans k.bx, h.ob.trans k.ob, k.an.trans h.an⟩

theorem pre_get {α : Type} {l m : List α} (h : l <+: m) {i : Nat} {x : α} (e : l[i]? = some x) : m[i]? = some x := by
  obtain ⟨t, rfl⟩ := h
  rw [List.getElem?_append_left (List.getElem?_eq_some_iff.mp e).1]; exact e

section
variable (K : PySem.W.Frag)
/-- a tuple, a frozen list of the world, or an object of the text's own top -/
def TupAt (wd : Wd) (a : Addr) (vs : List V) : Prop := wd.fz a = some (.tup vs) ∨ ∃ (o : Obj) (its : Array Value) (n : Nat), K.lookup a = some o ∧ o.cls = .type "tuple" ∧ o.data = .seq its n ∧ its.size ≤ sizeLine ∧ Vals vs its.toList
def LstAt (wd : Wd) (a : Addr) (vs : List V) : Prop := wd.fz a = some (.lst vs)
/-- a list that is read alone: known to the object (the script), or of the top -/
def ScrAt (wd : Wd) (a : Addr) (vs : List V) : Prop := (∃ o, wd.fz a = some (.frz o (.lst vs))) ∨ ∃ (o : Obj) (its : Array Value) (n : Nat), K.lookup a = some o ∧ o.cls = .type "list" ∧ o.dict = none ∧ o.data = .seq its n ∧ its.size ≤ sizeLine ∧ Vals vs its.toList
mutual
def RD (wd : Wd) : D → V → Prop
  | .non, v => v = .non
  | .bl b, v => v = .bl b
  | .int i, v => v = .int i
  | .str x, v => v = .str x ∧ PyData.strOk x = true
  | .tup l, v => ∃ a vs, v = .ref a ∧ TupAt K wd a vs ∧ RDs wd l vs
  | .lst l, v => ∃ a vs, v = .ref a ∧ LstAt wd a vs ∧ RDs wd l vs
  | .scr l, v => ∃ a vs, v = .ref a ∧ ScrAt K wd a vs ∧ RDs wd l vs
  | .obj i, v => ∃ a, v = .ref a ∧ wd.ob[i]? = some a
  | .ty n, v => v = .ty n
  | .cl a, v => v = .ref a
def RDs (wd : Wd) : List D → List V → Prop
  | [], vs => vs = []
  | x :: r, vs => ∃ v vr, vs = v :: vr ∧ RD wd x v ∧ RDs wd r vr
end
theorem TupAt.mono {wd wd' : Wd} {a vs} (h : TupAt K wd a vs) (l : wd.Le wd') : TupAt K wd' a vs := h.imp (l.fz _ _) id
theorem LstAt.mono {wd wd' : Wd} {a vs} (h : LstAt wd a vs) (l : wd.Le wd') : LstAt wd' a vs := l.fz _ _ h
theorem ScrAt.mono {wd wd' : Wd} {a vs} (h : ScrAt K wd a vs) (l : wd.Le wd') : ScrAt K wd' a vs := h.imp (fun ⟨o, e⟩ => ⟨o, l.fz _ _ e⟩) id
mutual
theorem RD.mono {wd wd' : Wd} (l : wd.Le wd') : ∀ (x : D) (v : V), RD K wd x v → RD K wd' x v
  | .non, v, h => by simpa [RD] using h
  | .bl b, v, h => by simpa [RD] using h
  | .int i, v, h => by simpa [RD] using h
  | .str x, v, h => by simpa [RD] using h
  | .tup xs, v, h => by
    simp only [RD] at h ⊢
    obtain ⟨a, vs, e, t, r⟩ := h
    exact ⟨a, vs, e, t.mono K l, RDs.mono l xs vs r⟩
  | .lst xs, v, h => by
    simp only [RD] at h ⊢
    obtain ⟨a, vs, e, t, r⟩ := h
    exact ⟨a, vs, e, t.mono l, RDs.mono l xs vs r⟩
  | .scr xs, v, h => by
    simp only [RD] at h ⊢
    obtain ⟨a, vs, e, t, r⟩ := h
    exact ⟨a, vs, e, t.mono K l, RDs.mono l xs vs r⟩
  | .obj i, v, h => by
    simp only [RD] at h ⊢
    obtain ⟨a, e, t⟩ := h
    exact ⟨a, e, pre_get l.ob t⟩
  | .ty n, v, h => by simpa [RD] using h
  | .cl a, v, h => by simpa [RD] using h
theorem RDs.mono {wd wd' : Wd} (l : wd.Le wd') : ∀ (xs : List D) (vs : List V), RDs K wd xs vs → RDs K wd' xs vs
  | [], vs, h => by simpa [RDs] using h
  | x :: r, vs, h => by
    simp only [RDs] at h ⊢
    obtain ⟨v, vr, e, h1, h2⟩ := h
    exact ⟨v, vr, e, RD.mono l x v h1, RDs.mono l r vr h2⟩
end
end
section
variable {K : PySem.W.Frag} {wd wd' : Wd}
theorem RDs.length : ∀ {xs : List D} {vs : List V}, RDs K wd xs vs → xs.length = vs.length
  | [], vs, h => by simp only [RDs] at h; subst h; rfl
  | x :: r, vs, h => by
    simp only [RDs] at h
    obtain ⟨v, vr, rfl, _, h2⟩ := h
    simp [RDs.length h2]
theorem RDs.get : ∀ {xs : List D} {vs : List V} {i : Nat} {v : V}, RDs K wd xs vs → vs[i]? = some v → ∃ x, xs[i]? = some x ∧ RD K wd x v
  | [], vs, i, v, h, e => by simp only [RDs] at h; rw [h] at e; simp at e
  | x :: r, vs, i, v, h, e => by
    simp only [RDs] at h
    obtain ⟨v', vr, rfl, h1, h2⟩ := h
    cases i with
    | zero => simp at e; subst e; exact ⟨x, rfl, h1⟩
    | succ i => simpa using RDs.get (i := i) h2 (by simpa using e)
theorem RDs.get' : ∀ {xs : List D} {vs : List V} {i : Nat} {x : D}, RDs K wd xs vs → xs[i]? = some x → ∃ v, vs[i]? = some v ∧ RD K wd x v
  | [], vs, i, x, h, e => by simp at e
  | x' :: r, vs, i, x, h, e => by
    simp only [RDs] at h
    obtain ⟨v', vr, rfl, h1, h2⟩ := h
    cases i with
    | zero => simp at e; subst e; exact ⟨v', rfl, h1⟩
    | succ i => simpa using RDs.get' (i := i) h2 (by simpa using e)
theorem RDs.append : ∀ {xs ys : List D} {vs us : List V}, RDs K wd xs vs → RDs K wd ys us → RDs K wd (xs ++ ys) (vs ++ us)
  | [], _, _, _, h, k => by simp only [RDs] at h; subst h; simpa using k
  | x :: r, _, _, _, h, k => by
    simp only [RDs] at h
    obtain ⟨v', vr, rfl, h1, h2⟩ := h
    simp only [List.cons_append, RDs]
    exact ⟨v', _, rfl, h1, RDs.append h2 k⟩
theorem RDs.one {x : D} {v : V} (h : RD K wd x v) : RDs K wd [x] [v] := by simp only [RDs]; exact ⟨v, [], rfl, h, rfl⟩
theorem RDs.set : ∀ {xs : List D} {vs : List V} {x : D} {v : V} (i : Nat), RDs K wd xs vs → RD K wd x v → RDs K wd (xs.set i x) (vs.set i v)
  | [], vs, x, v, i, h, k => by simp only [RDs] at h; subst h; simp [RDs]
  | x' :: r, vs, x, v, i, h, k => by
    simp only [RDs] at h
    obtain ⟨v', vr, rfl, h1, h2⟩ := h
    cases i with
    | zero => simp only [List.set_cons_zero, RDs]; exact ⟨v, vr, rfl, k, h2⟩
    | succ i => simp only [List.set_cons_succ, RDs]; exact ⟨v', _, rfl, h1, RDs.set i h2 k⟩
theorem RDs.take : ∀ {xs : List D} {vs : List V} (n : Nat), RDs K wd xs vs → RDs K wd (xs.take n) (vs.take n)
  | _, _, 0, _ => by simp [RDs]
  | [], vs, n + 1, h => by simp only [RDs] at h; subst h; simp [RDs]
  | x :: r, vs, n + 1, h => by
    simp only [RDs] at h
    obtain ⟨v', vr, rfl, h1, h2⟩ := h
    simp only [List.take_succ_cons, RDs]; exact ⟨v', _, rfl, h1, RDs.take n h2⟩
theorem RDs.drop : ∀ {xs : List D} {vs : List V} (n : Nat), RDs K wd xs vs → RDs K wd (xs.drop n) (vs.drop n)
  | _, _, 0, h => by simpa using h
  | [], vs, n + 1, h => by simp only [RDs] at h; subst h; simp [RDs]
  | x :: r, vs, n + 1, h => by
    simp only [RDs] at h
    obtain ⟨v', vr, rfl, h1, h2⟩ := h
    simp only [List.drop_succ_cons]; exact RDs.drop n h2
end

section
variable (K : PySem.W.Frag) (cls : String → Addr)
def RFs (wd : Wd) : List (String × D) → List (Str × V) → Prop
  | [], vs => vs = []
  | x :: r, vs => ∃ v vr, vs = v :: vr ∧ v.1 = enc x.1 ∧ RD K wd x.2 v.2 ∧ RFs wd r vr
def RKs (wd : Wd) : List (Key × D) → List (Key × V) → Prop
  | [], vs => vs = []
  | x :: r, vs => ∃ v vr, vs = v :: vr ∧ v.1 = x.1 ∧ RD K wd x.2 v.2 ∧ RKs wd r vr
def ObAt (wd : Wd) (H : Hp) (a : Addr) : Ob → Prop
  | .ins c fs => ∃ dx vfs, H a = some (.ins (cls c) dx vfs) ∧ RFs K wd fs vfs
  | .dic kvs => ∃ vkvs, H a = some (.dK vkvs) ∧ RKs K wd kvs vkvs
  | .dlk kvs => ∃ od vkvs, H a = some (.frz od (.dK vkvs)) ∧ RKs K wd kvs vkvs
/-- what the world keeps for ever: tuples and lists -/
def isFz : HO → Bool
  | .lst _ => true
  | .tup _ => true
  | .frz _ u => match u with
    | .lst _ => true
    | _ => false
  | _ => false
/-- the abstract heap bears the plain state -/
structure HR (wd : Wd) (S : Sta) (H : Hp) : Prop where
  fz : ∀ a o, wd.fz a = some o → H a = some o
  bn : S.B.length = wd.bx.length
  live : ∀ (i : Nat) (l : List D), S.B[i]? = some (true, l) → ∃ a vs, wd.bx[i]? = some a ∧ H a = some (.lst vs) ∧ wd.fz a = none ∧ RDs K wd l vs
  froz : ∀ (i : Nat) (l : List D), S.B[i]? = some (false, l) → ∃ a vs, wd.bx[i]? = some a ∧ wd.fz a = some (.lst vs) ∧ RDs K wd l vs
  bnd : wd.bx.Nodup
  on : S.P.length = wd.ob.length
  ond : wd.ob.Nodup
  ob : ∀ (i : Nat) (o : Ob), S.P[i]? = some o → ∃ a, wd.ob[i]? = some a ∧ ObAt K cls wd H a o
  an : ∀ p ∈ wd.an, H p.1 = some (.lst p.2) ∧ wd.fz p.1 = none ∧ p.1 ∉ wd.bx
  annd : (wd.an.map (·.1)).Nodup
  nfz : ∀ a o, wd.fz a = some o → isFz o = true
/-- a value in the hand -/
def RV (wd : Wd) (H : Hp) : Vl → V → Prop
  | .d x, v => RD K wd x v
  | .box i, v => ∃ a, v = .ref a ∧ wd.bx[i]? = some a
  | .new l, v => ∃ a vs, v = .ref a ∧ H a = some (.lst vs) ∧ wd.fz a = none ∧ a ∉ wd.bx ∧ a ∉ wd.an.map (·.1) ∧ RDs K wd l vs
/-- a value at rest -/
def RW (wd : Wd) : Vl → V → Prop
  | .d x, v => RD K wd x v
  | .box i, v => ∃ a, v = .ref a ∧ wd.bx[i]? = some a
  | .new _, _ => False
def SR (wd : Wd) (σ' : Sl) (σ : L2.St) : Prop := ∀ (i : Nat) v, σ'[i]? = some (some v) → ∃ x, σ[i]? = some (some x) ∧ RW K wd v x
/-- an exception that leaves: its class, its own dict -/
def XR (wd : Wd) (H : Hp) (c : String) (fs : Option (List (String × D))) (cv : Value) (d : Option Addr) : Prop := cv = .ref (cls c) ∧ match fs with
  | none => d = none
  | some fs => ∃ a vfs, d = some a ∧ H a = some (.xd vfs) ∧ ∀ f x, fs.lookup f = some x → ∃ v, vfs.lookup (enc f) = some v ∧ RD K wd x v
end
section
variable {K : PySem.W.Frag} {cls : String → Addr} {wd wd' : Wd} {H : Hp}
theorem RW.mono {v x} (h : RW K wd v x) (l : wd.Le wd') : RW K wd' v x := by
  cases v with
  | d y => exact RD.mono K l y x h
  | box i => obtain ⟨a, e, h⟩ := h; exact ⟨a, e, pre_get l.bx h⟩
  | new l => exact h.elim
theorem SR.mono {σ' σ} (h : SR K wd σ' σ) (l : wd.Le wd') : SR K wd' σ' σ := fun i v e => let ⟨x, a, b⟩ := h i v e; ⟨x, a, b.mono l⟩
theorem RW.rv {v x} (h : RW K wd v x) : RV K wd H v x := by
  cases v with
  | d y => exact h
  | box i => exact h
  | new l => exact h.elim
theorem RFs.mono (l : wd.Le wd') : ∀ {fs vs}, RFs K wd fs vs → RFs K wd' fs vs
  | [], _, h => h
  | _ :: _, _, ⟨v, vr, e, e1, h1, h2⟩ => ⟨v, vr, e, e1, RD.mono K l _ _ h1, RFs.mono l h2⟩
theorem RKs.mono (l : wd.Le wd') : ∀ {fs vs}, RKs K wd fs vs → RKs K wd' fs vs
  | [], _, h => h
  | _ :: _, _, ⟨v, vr, e, e1, h1, h2⟩ => ⟨v, vr, e, e1, RD.mono K l _ _ h1, RKs.mono l h2⟩
theorem ObAt.mono (l : wd.Le wd') {a o} (h : ObAt K cls wd H a o) : ObAt K cls wd' H a o := by
  cases o with
  | ins c fs => obtain ⟨dx, vfs, e, r⟩ := h; exact ⟨dx, vfs, e, r.mono l⟩
  | dic kvs => obtain ⟨vk, e, r⟩ := h; exact ⟨vk, e, r.mono l⟩
  | dlk kvs => obtain ⟨od, vk, e, r⟩ := h; exact ⟨od, vk, e, r.mono l⟩
mutual
theorem RD.same {wd wd' : Wd} (hf : wd'.fz = wd.fz) (ho : wd'.ob = wd.ob) : ∀ (x : D) (v : V), RD K wd x v → RD K wd' x v
  | .non, v, h => by simpa [RD] using h
  | .bl b, v, h => by simpa [RD] using h
  | .int i, v, h => by simpa [RD] using h
  | .str x, v, h => by simpa [RD] using h
  | .tup xs, v, h => by
    simp only [RD] at h ⊢
    obtain ⟨a, vs, e, t, r⟩ := h
    exact ⟨a, vs, e, by unfold TupAt at t ⊢; rw [hf]; exact t, RDs.same hf ho xs vs r⟩
  | .lst xs, v, h => by
    simp only [RD] at h ⊢
    obtain ⟨a, vs, e, t, r⟩ := h
    exact ⟨a, vs, e, by unfold LstAt at t ⊢; rw [hf]; exact t, RDs.same hf ho xs vs r⟩
  | .scr xs, v, h => by
    simp only [RD] at h ⊢
    obtain ⟨a, vs, e, t, r⟩ := h
    exact ⟨a, vs, e, by unfold ScrAt at t ⊢; rw [hf]; exact t, RDs.same hf ho xs vs r⟩
  | .obj i, v, h => by
    simp only [RD] at h ⊢
    rw [ho]; exact h
  | .ty n, v, h => by simpa [RD] using h
  | .cl n, v, h => by simpa [RD] using h
theorem RDs.same {wd wd' : Wd} (hf : wd'.fz = wd.fz) (ho : wd'.ob = wd.ob) : ∀ (xs : List D) (vs : List V), RDs K wd xs vs → RDs K wd' xs vs
  | [], vs, h => by simpa [RDs] using h
  | x :: r, vs, h => by
    simp only [RDs] at h ⊢
    obtain ⟨v, vr, e, h1, h2⟩ := h
    exact ⟨v, vr, e, RD.same hf ho x v h1, RDs.same hf ho r vr h2⟩
end
theorem RFs.same {wd wd' : Wd} (hf : wd'.fz = wd.fz) (ho : wd'.ob = wd.ob) : ∀ {fs vs}, RFs K wd fs vs → RFs K wd' fs vs
  | [], _, h => h
  | _ :: _, _, ⟨v, vr, e, e1, h1, h2⟩ => ⟨v, vr, e, e1, RD.same hf ho _ _ h1, RFs.same hf ho h2⟩
theorem RKs.same {wd wd' : Wd} (hf : wd'.fz = wd.fz) (ho : wd'.ob = wd.ob) : ∀ {fs vs}, RKs K wd fs vs → RKs K wd' fs vs
  | [], _, h => h
  | _ :: _, _, ⟨v, vr, e, e1, h1, h2⟩ => ⟨v, vr, e, e1, RD.same hf ho _ _ h1, RKs.same hf ho h2⟩
theorem ObAt.same {wd wd' : Wd} {H a o} (hf : wd'.fz = wd.fz) (ho : wd'.ob = wd.ob) (h : ObAt K cls wd H a o) : ObAt K cls wd' H a o := by
  cases o with
  | ins c fs => obtain ⟨dx, vfs, e, r⟩ := h; exact ⟨dx, vfs, e, r.same hf ho⟩
  | dic kvs => obtain ⟨vk, e, r⟩ := h; exact ⟨vk, e, r.same hf ho⟩
  | dlk kvs => obtain ⟨od, vk, e, r⟩ := h; exact ⟨od, vk, e, r.same hf ho⟩

theorem TupAt.sq (h : HR K cls wd S H) {a vs} (t : TupAt K wd a vs) : SqT K H a vs := by
  rcases t with t | t
  · exact .inl (.inl (h.fz a _ t))
  · exact .inr t
theorem LstAt.sq (h : HR K cls wd S H) {a vs} (t : LstAt wd a vs) : SqL K H a vs := .inl (.inl (h.fz a _ t))
theorem ScrAt.sq (h : HR K cls wd S H) {a vs} (t : ScrAt K wd a vs) : SqL K H a vs := by
  rcases t with ⟨o, t⟩ | t
  · exact .inl (.inr ⟨o, h.fz a _ t⟩)
  · exact .inr t
end

/-! ### what a run asks of the wish -/
section
variable (K : PySem.W.Frag) (cls : String → Addr)
def OkE (W : WX) (σ : L2.St) (wd : Wd) (Q : VK) : Out Vl → Prop
  | .ok v S1 => ∀ wd1 x H1, wd.Le wd1 → HR K cls wd1 S1 H1 → RV K wd1 H1 v x → Q x H1
  | .exc c fs S1 => ∀ wd1 H1 cv d, wd.Le wd1 → HR K cls wd1 S1 H1 → XR K cls wd1 H1 c fs cv d → W cv d σ H1
  | .bad => False
/-- the reading of an expression, from its run -/
def LE (W : WX) (T : EV) : TE := fun σ H Q => ∃ wd σ' S, SR K wd σ' σ ∧ HR K cls wd S H ∧ OkE K cls W σ wd Q (T σ' S)
def OkT (W : WX) (σ : L2.St) (wd : Wd) (Q : Bool → Hp → Prop) : Out Bool → Prop
  | .ok b S1 => ∀ wd1 H1, wd.Le wd1 → HR K cls wd1 S1 H1 → Q b H1
  | .exc c fs S1 => ∀ wd1 H1 cv d, wd.Le wd1 → HR K cls wd1 S1 H1 → XR K cls wd1 H1 c fs cv d → W cv d σ H1
  | .bad => False
abbrev TV := Sl → Sta → Out Bool
def LT (W : WX) (T : TV) : TT := fun σ H Q => ∃ wd σ' S, SR K wd σ' σ ∧ HR K cls wd S H ∧ OkT K cls W σ wd Q (T σ' S)
def RWs (wd : Wd) : List Vl → List V → Prop
  | [], vs => vs = []
  | x :: r, vs => ∃ v vr, vs = v :: vr ∧ RW K wd x v ∧ RWs wd r vr
def OkA (W : WX) (σ : L2.St) (wd : Wd) (Q : List V → Hp → Prop) : Out (List Vl) → Prop
  | .ok v S1 => ∀ wd1 x H1, wd.Le wd1 → HR K cls wd1 S1 H1 → RWs K wd1 v x → Q x H1
  | .exc c fs S1 => ∀ wd1 H1 cv d, wd.Le wd1 → HR K cls wd1 S1 H1 → XR K cls wd1 H1 c fs cv d → W cv d σ H1
  | .bad => False
def LA (W : WX) (T : EVs) : TA := fun σ H Q => ∃ wd σ' S, SR K wd σ' σ ∧ HR K cls wd S H ∧ OkA K cls W σ wd Q (T σ' S)
def OkS (W : WX) (wd : Wd) (E : Ends) : SOut → Prop
  | .nxt σ' S1 => ∀ wd1 σ1 H1, wd.Le wd1 → SR K wd1 σ' σ1 → HR K cls wd1 S1 H1 → E.nx σ1 H1
  | .ret v S1 => ∀ wd1 x H1, wd.Le wd1 → HR K cls wd1 S1 H1 → RV K wd1 H1 v x → E.rt x H1
  | .brk σ' S1 => ∀ wd1 σ1 H1, wd.Le wd1 → SR K wd1 σ' σ1 → HR K cls wd1 S1 H1 → E.bk σ1 H1
  | .cnt σ' S1 => ∀ wd1 σ1 H1, wd.Le wd1 → SR K wd1 σ' σ1 → HR K cls wd1 S1 H1 → E.ct σ1 H1
  | .exc c fs σ' S1 => ∀ wd1 σ1 H1 cv d, wd.Le wd1 → SR K wd1 σ' σ1 → HR K cls wd1 S1 H1 → XR K cls wd1 H1 c fs cv d → W cv d σ1 H1
  | .bad => False
def LS (W : WX) (T : SV) : TS := fun E σ H => ∃ wd σ' S, SR K wd σ' σ ∧ HR K cls wd S H ∧ OkS K cls W wd E (T σ' S)
end
section
variable {K : PySem.W.Frag} {cls : String → Addr} {wd wd' : Wd} {H : Hp} {W : WX} {σ : L2.St}
theorem RWs.mono (l : wd.Le wd') : ∀ {xs vs}, RWs K wd xs vs → RWs K wd' xs vs
  | [], _, h => h
  | _ :: _, _, ⟨v, vr, e, h1, h2⟩ => ⟨v, vr, e, h1.mono l, RWs.mono l h2⟩
theorem OkE.mono {Q} (l : wd.Le wd') : ∀ {o : Out Vl}, OkE K cls W σ wd Q o → OkE K cls W σ wd' Q o
  | .ok _ _, h => fun w1 x H1 l1 => h w1 x H1 (l.trans l1)
  | .exc _ _ _, h => fun w1 H1 cv d l1 => h w1 H1 cv d (l.trans l1)
  | .bad, h => h
theorem OkT.mono {Q} (l : wd.Le wd') : ∀ {o : Out Bool}, OkT K cls W σ wd Q o → OkT K cls W σ wd' Q o
  | .ok _ _, h => fun w1 H1 l1 => h w1 H1 (l.trans l1)
  | .exc _ _ _, h => fun w1 H1 cv d l1 => h w1 H1 cv d (l.trans l1)
  | .bad, h => h
theorem OkA.mono {Q} (l : wd.Le wd') : ∀ {o : Out (List Vl)}, OkA K cls W σ wd Q o → OkA K cls W σ wd' Q o
  | .ok _ _, h => fun w1 x H1 l1 => h w1 x H1 (l.trans l1)
  | .exc _ _ _, h => fun w1 H1 cv d l1 => h w1 H1 cv d (l.trans l1)
  | .bad, h => h
theorem OkS.mono {E} (l : wd.Le wd') : ∀ {o : SOut}, OkS K cls W wd E o → OkS K cls W wd' E o
  | .nxt _ _, h => fun w1 x H1 l1 => h w1 x H1 (l.trans l1)
  | .ret _ _, h => fun w1 x H1 l1 => h w1 x H1 (l.trans l1)
  | .brk _ _, h => fun w1 x H1 l1 => h w1 x H1 (l.trans l1)
  | .cnt _ _, h => fun w1 x H1 l1 => h w1 x H1 (l.trans l1)
  | .exc _ _ _ _, h => fun w1 σ1 H1 cv d l1 => h w1 σ1 H1 cv d (l.trans l1)
  | .bad, h => h

/-- a list in the hand is frozen -/
def Wd.freeze (wd : Wd) (a : Addr) (vs : List V) : Wd := { wd with fz := fun p => if p = a then some (.lst vs) else wd.fz p }
theorem freeze_le {a vs} (n : wd.fz a = none) : wd.Le (wd.freeze a vs) := ⟨fun p o e => by
  show (if p = a then some (HO.lst vs) else wd.fz p) = some o
  by_cases h : p = a
  · subst h; rw [n] at e; cases e
  · rw [if_neg h]; exact e, List.prefix_refl _, List.prefix_refl _, rfl⟩
theorem freeze_ne {a b : Addr} {vs} (h : b ≠ a) : (wd.freeze a vs).fz b = wd.fz b := if_neg h
theorem freeze_same {a : Addr} {vs} : (wd.freeze a vs).fz a = some (.lst vs) := if_pos rfl
theorem HR.freezeNew {S a vs} (h : HR K cls wd S H) (e : H a = some (.lst vs)) (n : wd.fz a = none) (nb : a ∉ wd.bx) (na : a ∉ wd.an.map (·.1)) : HR K cls (wd.freeze a vs) S H where
  fz := fun p o q => by
    by_cases hp : p = a
    · subst hp; rw [freeze_same] at q; cases q; exact e
    · rw [freeze_ne hp] at q; exact h.fz p o q
  bn := h.bn
  live := fun i l q => by
    obtain ⟨b, us, e1, e2, e3, r⟩ := h.live i l q
    refine ⟨b, us, e1, e2, ?_, RDs.mono K (freeze_le n) _ _ r⟩
    rw [freeze_ne]; exact e3
    intro z; subst z; exact nb (List.mem_of_getElem? e1)
  froz := fun i l q => by
    obtain ⟨b, us, e1, e3, r⟩ := h.froz i l q
    exact ⟨b, us, e1, (freeze_le n).fz _ _ e3, RDs.mono K (freeze_le n) _ _ r⟩
  bnd := h.bnd
  on := h.on
  ond := h.ond
  ob := fun i o q => let ⟨b, e1, r⟩ := h.ob i o q; ⟨b, e1, r.mono (freeze_le n)⟩
  an := fun p hp => by
    obtain ⟨e1, e2, e3⟩ := h.an p hp
    refine ⟨e1, ?_, e3⟩
    rw [freeze_ne]; exact e2
    intro z; exact na (z ▸ List.mem_map_of_mem hp)
  annd := h.annd
  nfz := fun p o q => by
    by_cases hp : p = a
    · subst hp; rw [freeze_same] at q; cases q; rfl
    · rw [freeze_ne hp] at q; exact h.nfz p o q
/-- a list in the hand becomes data -/
@[reducible] def frz : Vl → Vl
  | .new l => .d (.lst l)
  | v => v
theorem RV.frz {S v x} (h : HR K cls wd S H) (r : RV K wd H v x) : ∃ wd1, wd.Le wd1 ∧ HR K cls wd1 S H ∧ RW K wd1 (frz v) x := by
  cases v with
  | d y => exact ⟨wd, .refl _, h, r⟩
  | box i => exact ⟨wd, .refl _, h, r⟩
  | new l =>
    obtain ⟨a, vs, rfl, e, n, nb, na, rr⟩ := r
    refine ⟨_, freeze_le n, h.freezeNew e n nb na, ?_⟩
    show RD K _ (.lst l) _
    simp only [RD]
    exact ⟨a, vs, rfl, freeze_same, RDs.mono K (freeze_le n) _ _ rr⟩
/-- an operand: what it gives, at rest -/
def opd (T : EV) : EV := fun σ S => (T σ S).bind fun v S1 => .ok (frz v) S1
theorem OkE_bind {T : Out Vl} {F : Vl → Sta → Out Vl} {Q : VK} (h : OkE K cls W σ wd Q (T.bind F)) :
    OkE K cls W σ wd (fun x H1 => ∃ v wd1 S1, wd.Le wd1 ∧ HR K cls wd1 S1 H1 ∧ RV K wd1 H1 v x ∧ OkE K cls W σ wd1 Q (F v S1)) T := by
  cases T with
  | ok v S1 => exact fun wd1 x H1 l hr rv => ⟨v, wd1, S1, l, hr, rv, OkE.mono l h⟩
  | exc c fs S1 => exact h
  | bad => exact h
/-- an operand and what follows -/
theorem OkE_opd {T : Out Vl} {F : Vl → Sta → Out Vl} {Q : VK} (h : OkE K cls W σ wd Q (T.bind fun v S1 => F (frz v) S1)) :
    OkE K cls W σ wd (fun x H1 => ∃ v wd1 S1, wd.Le wd1 ∧ HR K cls wd1 S1 H1 ∧ RW K wd1 v x ∧ OkE K cls W σ wd1 Q (F v S1)) T := by
  cases T with
  | ok v S1 =>
    refine fun wd1 x H1 l hr rv => ?_
    obtain ⟨wd2, l2, hr2, rw2⟩ := rv.frz hr
    exact ⟨frz v, wd2, S1, l.trans l2, hr2, rw2, OkE.mono (l.trans l2) h⟩
  | exc c fs S1 => exact h
  | bad => exact h
theorem OkT_opd {T : Out Vl} {F : Vl → Sta → Out Bool} {Q : Bool → Hp → Prop} (h : OkT K cls W σ wd Q (T.bind fun v S1 => F (frz v) S1)) :
    OkE K cls W σ wd (fun x H1 => ∃ v wd1 S1, wd.Le wd1 ∧ HR K cls wd1 S1 H1 ∧ RW K wd1 v x ∧ OkT K cls W σ wd1 Q (F v S1)) T := by
  cases T with
  | ok v S1 =>
    refine fun wd1 x H1 l hr rv => ?_
    obtain ⟨wd2, l2, hr2, rw2⟩ := rv.frz hr
    exact ⟨frz v, wd2, S1, l.trans l2, hr2, rw2, OkT.mono (l.trans l2) h⟩
  | exc c fs S1 => exact h
  | bad => exact h
theorem OkT_bind {T : Out Bool} {F : Bool → Sta → Out Bool} {Q : Bool → Hp → Prop} (h : OkT K cls W σ wd Q (T.bind F)) :
    OkT K cls W σ wd (fun b H1 => ∃ wd1 S1, wd.Le wd1 ∧ HR K cls wd1 S1 H1 ∧ OkT K cls W σ wd1 Q (F b S1)) T := by
  cases T with
  | ok v S1 => exact fun wd1 H1 l hr => ⟨wd1, S1, l, hr, OkT.mono l h⟩
  | exc c fs S1 => exact h
  | bad => exact h
theorem OkT_bindE {T : Out Bool} {F : Bool → Sta → Out Vl} {Q : VK} (h : OkE K cls W σ wd Q (T.bind F)) :
    OkT K cls W σ wd (fun b H1 => ∃ wd1 S1, wd.Le wd1 ∧ HR K cls wd1 S1 H1 ∧ OkE K cls W σ wd1 Q (F b S1)) T := by
  cases T with
  | ok v S1 => exact fun wd1 H1 l hr => ⟨wd1, S1, l, hr, OkE.mono l h⟩
  | exc c fs S1 => exact h
  | bad => exact h
theorem OkA_opd {T : Out Vl} {F : Vl → Sta → Out (List Vl)} {Q : List V → Hp → Prop} (h : OkA K cls W σ wd Q (T.bind fun v S1 => F (frz v) S1)) :
    OkE K cls W σ wd (fun x H1 => ∃ v wd1 S1, wd.Le wd1 ∧ HR K cls wd1 S1 H1 ∧ RW K wd1 v x ∧ OkA K cls W σ wd1 Q (F v S1)) T := by
  cases T with
  | ok v S1 =>
    refine fun wd1 x H1 l hr rv => ?_
    obtain ⟨wd2, l2, hr2, rw2⟩ := rv.frz hr
    exact ⟨frz v, wd2, S1, l.trans l2, hr2, rw2, OkA.mono (l.trans l2) h⟩
  | exc c fs S1 => exact h
  | bad => exact h
theorem OkA_bind {T : Out (List Vl)} {F : List Vl → Sta → Out (List Vl)} {Q : List V → Hp → Prop} (h : OkA K cls W σ wd Q (T.bind F)) :
    OkA K cls W σ wd (fun x H1 => ∃ v wd1 S1, wd.Le wd1 ∧ HR K cls wd1 S1 H1 ∧ RWs K wd1 v x ∧ OkA K cls W σ wd1 Q (F v S1)) T := by
  cases T with
  | ok v S1 => exact fun wd1 x H1 l hr rv => ⟨v, wd1, S1, l, hr, rv, OkA.mono l h⟩
  | exc c fs S1 => exact h
  | bad => exact h
theorem OkA_bindE {T : Out (List Vl)} {F : List Vl → Sta → Out Vl} {Q : VK} (h : OkE K cls W σ wd Q (T.bind F)) :
    OkA K cls W σ wd (fun x H1 => ∃ v wd1 S1, wd.Le wd1 ∧ HR K cls wd1 S1 H1 ∧ RWs K wd1 v x ∧ OkE K cls W σ wd1 Q (F v S1)) T := by
  cases T with
  | ok v S1 => exact fun wd1 x H1 l hr rv => ⟨v, wd1, S1, l, hr, rv, OkE.mono l h⟩
  | exc c fs S1 => exact h
  | bad => exact h
end

/-! ### the judgements -/
structure G where
  P : Program
  w : World
  K : PySem.W.Frag
  mg : Str → Option Value
  base : Heap
  cls : String → Addr
  k : Nat
  N : List Str
  sc : Scope
  own : Str → Bool
structure Good (g : G) (X : Cx) : Prop where
  P : X.prog = g.P
  w : X.w = g.w
  K : X.K = g.K
  mg : X.mg = g.mg
  base : X.base = g.base
  N : X.N = g.N
  sc : X.env.scope = g.sc
  nd : g.N.Nodup
  calm : X.calm = true
  room : Room g.k X.A
  fn : ∀ x, g.own x = true → X.fn x = true
structure GoodS (g : G) (X : Cx) : Prop extends Good g X where
  stk : X.stack = X.env :: X.outer
  frm : X.env.frame = some X.env.locals
  kind_ : X.env.scope.kind = .function
  own : PassesOwn (model X.prog X.w) X.A X.env X.xe
def JE (g : G) (e : Expr) (T : EV) : Prop := ∀ X, Good g X → ∀ W, Takes X W → PE X e (LE g.K g.cls W T)
def JT (g : G) (e : Expr) (T : TV) : Prop := ∀ X, Good g X → ∀ W, Takes X W → PT X e (LT g.K g.cls W T)
def JW (g : G) (e : Expr) (T : TV) : Prop := ∀ X, Good g X → ∀ W, Takes X W → PW X e (LT g.K g.cls W T)
def JA (g : G) (es : List Expr) (T : EVs) : Prop := ∀ X, Good g X → ∀ W, Takes X W → PA X es (LA g.K g.cls W T)
def JS (g : G) (st : Stmt) (T : SV) : Prop := ∀ X, GoodS g X → ∀ W, Takes X W → PS X st (LS g.K g.cls W T)
def JSs (g : G) (st : List Stmt) (T : SV) : Prop := ∀ X, GoodS g X → ∀ W, Takes X W → PSs X st (LS g.K g.cls W T)
theorem _root_.L2.PE.imp {X : Cx} {e : Expr} {t t' : TE} (h : PE X e t) (i : ∀ σ H Q, t' σ H Q → t σ H Q) : PE X e t' := ⟨fun pins s σ H Q I q => h.run pins s σ H Q I (i σ H Q q)⟩
theorem _root_.L2.PT.imp {X : Cx} {e : Expr} {t t' : TT} (h : PT X e t) (i : ∀ σ H Q, t' σ H Q → t σ H Q) : PT X e t' := ⟨fun pins s σ H Q I q => h.run pins s σ H Q I (i σ H Q q)⟩
theorem _root_.L2.PW.imp {X : Cx} {e : Expr} {t t' : TT} (h : PW X e t) (i : ∀ σ H Q, t' σ H Q → t σ H Q) : PW X e t' := ⟨fun wh pins s σ H Q I q => h.run wh pins s σ H Q I (i σ H Q q)⟩
theorem _root_.L2.PA.imp {X : Cx} {e : List Expr} {t t' : TA} (h : PA X e t) (i : ∀ σ H Q, t' σ H Q → t σ H Q) : PA X e t' := ⟨fun p pins s σ H Q I q => h.run p pins s σ H Q I (i σ H Q q)⟩
theorem _root_.L2.PS.imp {X : Cx} {e : Stmt} {t t' : TS} (h : PS X e t) (i : ∀ E σ H, t' E σ H → t E σ H) : PS X e t' := ⟨fun pins s σ H E I q => h.run pins s σ H E I (i E σ H q)⟩
theorem _root_.L2.PSs.imp {X : Cx} {e : List Stmt} {t t' : TS} (h : PSs X e t) (i : ∀ E σ H, t' E σ H → t E σ H) : PSs X e t' := ⟨fun pins s σ H E I q => h.run pins s σ H E I (i E σ H q)⟩
end Ev

set_option Elab.async false
set_option linter.all false
set_option maxRecDepth 100000
set_option maxHeartbeats 1000000
/-! Ev2: expressions: names, constants, operators, comparisons, tests, displays, items, slices. -/
namespace Ev
open PySem PySem.Spec PyProof.Rows L2
open Classical
section
variable {K : PySem.W.Frag} {cls : String → Addr} {wd wd' : Wd} {H : Hp} {S : Sta} {W : WX} {σ : St}

/-! ### a new object in the heap -/
theorem nodupIx {α : Type} : ∀ {l : List α} {i j : Nat} {x : α}, l.Nodup → l[i]? = some x → l[j]? = some x → i = j
  | [], _, _, _, _, e, _ => by simp at e
  | y :: r, 0, 0, _, _, _, _ => rfl
  | y :: r, 0, j + 1, x, n, e1, e2 => by
    simp at e1 e2; subst e1
    exact absurd (List.mem_of_getElem? e2) (List.nodup_cons.mp n).1
  | y :: r, i + 1, 0, x, n, e1, e2 => by
    simp at e1 e2; subst e2
    exact absurd (List.mem_of_getElem? e1) (List.nodup_cons.mp n).1
  | y :: r, i + 1, j + 1, x, n, e1, e2 => by
    have e1' : r[i]? = some x := by simpa using e1
    have e2' : r[j]? = some x := by simpa using e2
    rw [nodupIx (List.nodup_cons.mp n).2 e1' e2']
theorem HR.fz_none (h : HR K cls wd S H) {p} (n : H p = none) : wd.fz p = none := by
  cases e : wd.fz p with
  | none => rfl
  | some o => rw [h.fz p o e] at n; cases n
theorem HR.bx_none (h : HR K cls wd S H) {p} (n : H p = none) : p ∉ wd.bx := fun m => by
  obtain ⟨i, hi⟩ := List.getElem?_of_mem m
  have hl : i < S.B.length := by rw [h.bn]; exact (List.getElem?_eq_some_iff.mp hi).1
  obtain ⟨⟨b, l⟩, hb⟩ : ∃ x, S.B[i]? = some x := ⟨_, List.getElem?_eq_getElem hl⟩
  cases b with
  | true =>
    obtain ⟨a, vs, e1, e2, _, _⟩ := h.live i l hb
    rw [hi] at e1; cases e1; rw [n] at e2; cases e2
  | false =>
    obtain ⟨a, vs, e1, e2, _⟩ := h.froz i l hb
    rw [hi] at e1; cases e1; rw [h.fz _ _ e2] at n; cases n
theorem HR.ob_none (h : HR K cls wd S H) {p} (n : H p = none) : p ∉ wd.ob := fun m => by
  obtain ⟨i, hi⟩ := List.getElem?_of_mem m
  have hl : i < S.P.length := by rw [h.on]; exact (List.getElem?_eq_some_iff.mp hi).1
  obtain ⟨o, hb⟩ : ∃ x, S.P[i]? = some x := ⟨_, List.getElem?_eq_getElem hl⟩
  obtain ⟨a, e1, e2⟩ := h.ob i o hb
  rw [hi] at e1; cases e1
  cases o with
  | ins c fs => obtain ⟨dx, vfs, e, _⟩ := e2; rw [n] at e; cases e
  | dic kvs => obtain ⟨vk, e, _⟩ := e2; rw [n] at e; cases e
  | dlk kvs => obtain ⟨od, vk, e, _⟩ := e2; rw [n] at e; cases e
theorem HR.an_none (h : HR K cls wd S H) {p} (n : H p = none) : p ∉ wd.an.map (·.1) := fun m => by
  obtain ⟨q, hq, rfl⟩ := List.mem_map.mp m
  rw [(h.an q hq).1] at n; cases n
theorem ObAt.at_ne {p o a ob} (hp : a ≠ p) (h : ObAt K cls wd H a ob) : ObAt K cls wd (upd H p o) a ob := by
  cases ob with
  | ins c fs => obtain ⟨dx, vfs, e, r⟩ := h; exact ⟨dx, vfs, by rw [upd_ne hp]; exact e, r⟩
  | dic kvs => obtain ⟨vk, e, r⟩ := h; exact ⟨vk, by rw [upd_ne hp]; exact e, r⟩
  | dlk kvs => obtain ⟨od, vk, e, r⟩ := h; exact ⟨od, vk, by rw [upd_ne hp]; exact e, r⟩
theorem HR.lay (h : HR K cls wd S H) {p o} (n : H p = none) : HR K cls wd S (upd H p o) where
  fz := fun a u e => by rw [upd_ne (ne_of_none (h.fz a u e) n)]; exact h.fz a u e
  bn := h.bn
  live := fun i l q => by
    obtain ⟨a, vs, e1, e2, r⟩ := h.live i l q
    exact ⟨a, vs, e1, by rw [upd_ne (ne_of_none e2 n)]; exact e2, r⟩
  froz := h.froz
  bnd := h.bnd
  on := h.on
  ond := h.ond
  ob := fun i u q => by
    obtain ⟨a, e1, r⟩ := h.ob i u q
    exact ⟨a, e1, r.at_ne fun z => h.ob_none n (z ▸ List.mem_of_getElem? e1)⟩
  an := fun q hq => by
    obtain ⟨e1, e2, e3⟩ := h.an q hq
    exact ⟨by rw [upd_ne (ne_of_none e1 n)]; exact e1, e2, e3⟩
  annd := h.annd
  nfz := h.nfz
/-- .. a tuple -/
def Wd.put (wd : Wd) (a : Addr) (o : HO) : Wd := { wd with fz := fun p => if p = a then some o else wd.fz p }
theorem put_le {a o} (n : wd.fz a = none) : wd.Le (wd.put a o) := ⟨fun p u e => by
  show (if p = a then some o else wd.fz p) = some u
  by_cases h : p = a
  · subst h; rw [n] at e; cases e
  · rw [if_neg h]; exact e, List.prefix_refl _, List.prefix_refl _, rfl⟩
theorem put_ne {a b : Addr} {o} (h : b ≠ a) : (wd.put a o).fz b = wd.fz b := if_neg h
theorem put_same {a : Addr} {o} : (wd.put a o).fz a = some o := if_pos rfl
theorem HR.put (h : HR K cls wd S H) {a o} (e : H a = some o) (n : wd.fz a = none) (nb : a ∉ wd.bx) (na : a ∉ wd.an.map (·.1)) (hz : isFz o = true) : HR K cls (wd.put a o) S H where
  fz := fun p u q => by
    by_cases hp : p = a
    · subst hp; rw [put_same] at q; cases q; exact e
    · rw [put_ne hp] at q; exact h.fz p u q
  bn := h.bn
  live := fun i l q => by
    obtain ⟨b, us, e1, e2, e3, r⟩ := h.live i l q
    refine ⟨b, us, e1, e2, ?_, RDs.mono K (put_le n) _ _ r⟩
    rw [put_ne]; exact e3
    intro z; subst z; exact nb (List.mem_of_getElem? e1)
  froz := fun i l q => by
    obtain ⟨b, us, e1, e3, r⟩ := h.froz i l q
    exact ⟨b, us, e1, (put_le n).fz _ _ e3, RDs.mono K (put_le n) _ _ r⟩
  bnd := h.bnd
  on := h.on
  ond := h.ond
  ob := fun i u q => let ⟨b, e1, r⟩ := h.ob i u q; ⟨b, e1, r.mono (put_le n)⟩
  an := fun p hp => by
    obtain ⟨e1, e2, e3⟩ := h.an p hp
    refine ⟨e1, ?_, e3⟩
    rw [put_ne]; exact e2
    intro z; exact na (z ▸ List.mem_map_of_mem hp)
  annd := h.annd
  nfz := fun p u q => by
    by_cases hp : p = a
    · subst hp; rw [put_same] at q; cases q; exact hz
    · rw [put_ne hp] at q; exact h.nfz p u q
theorem HR.newTup (h : HR K cls wd S H) {p vs l} (n : H p = none) (r : RDs K wd l vs) :
    ∃ wd1, wd.Le wd1 ∧ HR K cls wd1 S (upd H p (.tup vs)) ∧ RD K wd1 (.tup l) (.ref p) := by
  refine ⟨wd.put p (.tup vs), put_le (h.fz_none n), (h.lay n).put upd_same (h.fz_none n) (h.bx_none n) (h.an_none n) rfl, ?_⟩
  simp only [RD]
  exact ⟨p, vs, rfl, .inl put_same, RDs.mono K (put_le (h.fz_none n)) _ _ r⟩
theorem HR.newLst (h : HR K cls wd S H) {p vs l} (n : H p = none) (r : RDs K wd l vs) :
    HR K cls wd S (upd H p (.lst vs)) ∧ RV K wd (upd H p (.lst vs)) (.new l) (.ref p) :=
  ⟨h.lay n, p, vs, rfl, upd_same, h.fz_none n, h.bx_none n, h.an_none n, r⟩
end

/-! ### names and constants -/
@[simp] noncomputable def eVar (i : Nat) : EV := fun σ S => match σ[i]? with
  | some (some v) => .ok v S
  | _ => .bad
@[simp] def eC (x : D) : EV := fun _ S => .ok (.d x) S
section
variable {g : G} {pos : Pos} {a b e : Expr} {Ta Tb T : EV}
theorem je_var (i : Nat) {x : Str} (hN : g.N[i]? = some x := by rfl) (hv : Vis g.sc x := by first | exact Or.inl rfl | exact Or.inr (Or.inl rfl) | exact Or.inr (Or.inr rfl)) (hd : (x == ("__debug__" : Str)) = false := by decide)
    (hcd : (x == ("__classdict__" : Str)) = false := by decide) : JE g (.Name x pos) (eVar i) := fun X hX W tk => by
  refine (pe_var (X := X) (i := i) (by rw [hX.N]; exact hN) (by rw [hX.sc]; exact hv) hd hcd).imp fun σ H Q h => ?_
  obtain ⟨wd, σ', S, hs, hh, h⟩ := h
  unfold eVar at h
  split at h
  · rename_i v e
    obtain ⟨x, e2, r⟩ := hs i v e
    exact ⟨x, e2, h wd x H (.refl _) hh r.rv⟩
  · exact h.elim
theorem je_c {x : D} {v : V} (hp : ∀ X : Cx, PE X e (tC v)) (r : ∀ wd, RD g.K wd x v) : JE g e (eC x) := fun X hX W tk => by
  refine (hp X).imp fun σ H Q h => ?_
  obtain ⟨wd, σ', S, hs, hh, h⟩ := h
  exact h wd v H (.refl _) hh (r wd)
theorem je_int {i j} : JE g (.Constant (.int i) j pos) (eC (.int i)) := je_c (fun _ => pe_int) fun _ => by simp [RD]
theorem je_bl {b j} : JE g (.Constant (.bool b) j pos) (eC (.bl b)) := je_c (fun _ => pe_bl) fun _ => by simp [RD]
theorem je_non {j} : JE g (.Constant .none j pos) (eC .non) := je_c (fun _ => pe_non) fun _ => by simp [RD]
theorem je_str {x j} (h : PyData.strOk x = true := by decide +kernel) : JE g (.Constant (.str x) j pos) (eC (.str x)) := je_c (fun _ => pe_str) fun _ => by simp [RD, h]
abbrev GlS (g : G) (x : Str) : Prop := g.sc.names.lookup x = some .globalImplicit
theorem gl_of {X : Cx} (hX : Good g X) {x : Str} (h : g.sc.names.lookup x = some .globalImplicit) : Gl X x := by
  show X.env.scope.names.lookup x = _
  rw [hX.sc]; exact h
/-- a constant of the module -/
theorem je_gint {x : Str} {i : Int} {t : Tok} (hg : g.sc.names.lookup x = some .globalImplicit) (hm : g.mg x = some (.int i t)) (hd : (x == ("__debug__" : Str)) = false := by decide) : JE g (.Name x pos) (eC (.int i)) := fun X hX W tk => by
  refine (pe_glob (X := X) (v := .int i) (gl_of hX hg) (by rw [hX.mg]; exact hm) ⟨t, rfl⟩ hd).imp fun σ H Q h => ?_
  obtain ⟨wd, σ', S, hs, hh, h⟩ := h
  exact h wd _ H (.refl _) hh (by simp [RV, RD])
theorem je_gstr {x z : Str} {t : Tok} (hg : g.sc.names.lookup x = some .globalImplicit) (hm : g.mg x = some (.str z t)) (hz : PyData.strOk z = true := by decide +kernel) (hd : (x == ("__debug__" : Str)) = false := by decide) : JE g (.Name x pos) (eC (.str z)) := fun X hX W tk => by
  refine (pe_glob (X := X) (v := .str z) (gl_of hX hg) (by rw [hX.mg]; exact hm) ⟨t, rfl⟩ hd).imp fun σ H Q h => ?_
  obtain ⟨wd, σ', S, hs, hh, h⟩ := h
  exact h wd _ H (.refl _) hh (by simp [RV, RD, hz])

/-! ### two operands -/
/-- by values -/
def OpD (g : G) (r : R2) (f : Vl → Vl → Sta → Out Vl) : Prop := ∀ (W : WX) (σ : St) (wd : Wd) (H : Hp) (S : Sta) (v u : Vl) (x y : V) (Q : VK),
  HR g.K g.cls wd S H → RW g.K wd v x → RW g.K wd u y → OkE g.K g.cls W σ wd Q (f v u S) → r x y H Q
@[simp] noncomputable def eBin (f : Vl → Vl → Sta → Out Vl) (Ta Tb : EV) : EV := fun σ S => (Ta σ S).bind fun v S1 => (Tb σ S1).bind fun u S2 => f (frz v) (frz u) S2
theorem bin_read {r : R2} {f : Vl → Vl → Sta → Out Vl} (hf : OpD g r f) {W : WX} {σ : St} {H : Hp} {Q : VK} (h : LE g.K g.cls W (eBin f Ta Tb) σ H Q) : tOp r (LE g.K g.cls W Ta) (LE g.K g.cls W Tb) σ H Q := by
  obtain ⟨wd, σ', S, hs, hh, h⟩ := h
  refine ⟨wd, σ', S, hs, hh, ?_⟩
  have h1 := OkE_opd (F := fun v S1 => (Tb σ' S1).bind fun u S2 => f v (frz u) S2) h
  revert h1
  cases Ta σ' S with
  | ok v S1 =>
    intro h1 wd1 x H1 l hr rv
    obtain ⟨v', wd2, S2, l2, hr2, rw2, h2⟩ := h1 wd1 x H1 l hr rv
    refine ⟨wd2, σ', S2, hs.mono l2, hr2, ?_⟩
    have h3 := OkE_opd (F := fun u S2 => f v' u S2) h2
    revert h3
    cases Tb σ' S2 with
    | ok u S3 =>
      intro h3 wd3 y H3 l3 hr3 rv3
      obtain ⟨u', wd4, S4, l4, hr4, rw4, h4⟩ := h3 wd3 y H3 l3 hr3 rv3
      exact hf W σ wd4 H3 S4 v' u' x y Q hr4 (rw2.mono l4) rw4 h4
    | exc c fs S3 => intro h3; exact h3
    | bad => intro h3; exact h3
  | exc c fs S1 => intro h1; exact h1
  | bad => intro h1; exact h1
theorem je_bin {op : Operator} {r : R2} {f} (ho : ∀ X, Good g X → OpR X (binaryOp op) r) (hf : OpD g r f) (ha : JE g a Ta) (hb : JE g b Tb) : JE g (.BinOp a op b pos) (eBin f Ta Tb) := fun X hX W tk =>
  (pe_op (ho X hX) (ha X hX W tk) (hb X hX W tk)).imp fun σ H Q h => bin_read hf h
theorem je_cmp {op : CmpOp} {r : R2} {f} (ho : ∀ X, Good g X → OpR X (compareOp op) r) (hf : OpD g r f) (ha : JE g a Ta) (hb : JE g b Tb) (hm : behindInMarks op b = false := by first | exact nomark _ | rfl) : JE g (.Compare a [op] [b] pos) (eBin f Ta Tb) := fun X hX W tk =>
  (pe_cmpR (ho X hX) (ha X hX W tk) (hb X hX W tk) hm).imp fun σ H Q h => bin_read hf h
/-- .. as a test -/
@[simp] noncomputable def tOf (T : EV) : TV := fun σ S => (T σ S).bind fun v S1 => match v with
  | .d (.bl k) => .ok k S1
  | _ => .bad
theorem of_test {W : WX} {σ : St} {H : Hp} {Q : Bool → Hp → Prop} (h : LT g.K g.cls W (tOf T) σ H Q) : LE g.K g.cls W T σ H (fun x H1 => ∃ k, x = .bl k ∧ Q k H1) := by
  obtain ⟨wd, σ', S, hs, hh, h⟩ := h
  refine ⟨wd, σ', S, hs, hh, ?_⟩
  revert h
  unfold tOf
  cases T σ' S with
  | ok v S1 =>
    intro h wd1 x H1 l hr rv
    cases v with
    | d y =>
      cases y with
      | bl k => simp only [RV, RD] at rv; exact ⟨k, rv, h wd1 H1 l hr⟩
      | _ => exact h.elim
    | _ => exact h.elim
  | exc c fs S1 => intro h; exact h
  | bad => intro h; exact h
theorem jt_cmp {op : CmpOp} {r : R2} {f} (ho : ∀ X, Good g X → OpR X (compareOp op) r) (hf : OpD g r f) (ha : JE g a Ta) (hb : JE g b Tb) (hm : behindInMarks op b = false := by first | exact nomark _ | rfl) : JT g (.Compare a [op] [b] pos) (tOf (eBin f Ta Tb)) := fun X hX W tk =>
  (pt_cmpR (ho X hX) (ha X hX W tk) (hb X hX W tk) hm).imp fun σ H Q h => bin_read hf (of_test h)
/-- an expression that gives True or False, as a test -/
theorem jt_val (h : JE g e T) (he : ∀ env whole, isTrue e env whole = (do let v ← whole; standAt e.pos; holding [v] (truthy v)) := by intro _ _; rfl) : JT g e (tOf T) := fun X hX W tk =>
  (pt_val (h X hX W tk) (he X.env)).imp fun σ H Q h => of_test h

/-! ### and, or, not; if-expressions -/
variable {TA TB : TV} {rest : List Expr}
@[simp] noncomputable def tAndW (TA TB : TV) : TV := fun σ S => (TA σ S).bind fun k S1 => if k = true then TB σ S1 else .ok false S1
@[simp] noncomputable def tOrW (TA TB : TV) : TV := fun σ S => (TA σ S).bind fun k S1 => if k = true then .ok true S1 else TB σ S1
@[simp] noncomputable def tNotW (TA : TV) : TV := fun σ S => (TA σ S).bind fun k S1 => .ok (!k) S1
theorem seqT {W : WX} {σ : St} {H : Hp} {Q : Bool → Hp → Prop} {F : Bool → TV} {R : Bool → TT} (h : LT g.K g.cls W (fun σ S => (TA σ S).bind fun k S1 => F k σ S1) σ H Q) (hf : ∀ k σ H Q, LT g.K g.cls W (F k) σ H Q → R k σ H Q) :
    LT g.K g.cls W TA σ H fun k H1 => R k σ H1 Q := by
  obtain ⟨wd, σ', S, hs, hh, h⟩ := h
  refine ⟨wd, σ', S, hs, hh, ?_⟩
  dsimp only at h
  revert h
  cases TA σ' S with
  | ok k S1 => intro h wd1 H1 l hr; exact hf k σ H1 Q ⟨wd1, σ', S1, hs.mono l, hr, OkT.mono l h⟩
  | exc c fs S1 => intro h; exact h
  | bad => intro h; exact h
theorem okT {W : WX} {σ : St} {H : Hp} {Q : Bool → Hp → Prop} {k : Bool} (h : LT g.K g.cls W (fun _ S => .ok k S) σ H Q) : Q k H := by
  obtain ⟨wd, σ', S, hs, hh, h⟩ := h
  exact h wd H (.refl _) hh
theorem jw_and1 (ha : JT g a TA) : JW g (.BoolOp .And [a] pos) TA := fun X hX W tk => pw_and1 (ha X hX W tk)
theorem jw_or1 (ha : JT g a TA) : JW g (.BoolOp .Or [a] pos) TA := fun X hX W tk => pw_or1 (ha X hX W tk)
theorem jw_and (ha : JT g a TA) (hb : JW g (.BoolOp .And (b :: rest) pos) TB) : JW g (.BoolOp .And (a :: b :: rest) pos) (tAndW TA TB) := fun X hX W tk =>
  (pw_and (ha X hX W tk) (hb X hX W tk)).imp fun σ H Q h => by
    refine seqT (F := fun k => if k = true then TB else fun _ S => .ok false S) (R := fun k σ H Q => if k = true then LT g.K g.cls W TB σ H Q else Q false H) ?_ ?_
    · obtain ⟨wd, σ', S, hs, hh, h⟩ := h
      refine ⟨wd, σ', S, hs, hh, ?_⟩
      unfold tAndW at h
      have e : (fun (k : Bool) S1 => (if k = true then TB else fun _ S => Out.ok false S) σ' S1) = fun k S1 => if k = true then TB σ' S1 else Out.ok false S1 := by funext k S1; cases k <;> rfl
      dsimp only
      rw [e]; exact h
    · intro k σ H Q h
      cases k with
      | true => exact h
      | false => exact okT h
theorem jw_or (ha : JT g a TA) (hb : JW g (.BoolOp .Or (b :: rest) pos) TB) : JW g (.BoolOp .Or (a :: b :: rest) pos) (tOrW TA TB) := fun X hX W tk =>
  (pw_or (ha X hX W tk) (hb X hX W tk)).imp fun σ H Q h => by
    refine seqT (F := fun k => if k = true then fun _ S => .ok true S else TB) (R := fun k σ H Q => if k = true then Q true H else LT g.K g.cls W TB σ H Q) ?_ ?_
    · obtain ⟨wd, σ', S, hs, hh, h⟩ := h
      refine ⟨wd, σ', S, hs, hh, ?_⟩
      unfold tOrW at h
      have e : (fun (k : Bool) S1 => (if k = true then (fun _ S => Out.ok true S) else TB) σ' S1) = fun k S1 => if k = true then Out.ok true S1 else TB σ' S1 := by funext k S1; cases k <;> rfl
      dsimp only
      rw [e]; exact h
    · intro k σ H Q h
      cases k with
      | true => exact okT h
      | false => exact h
theorem jt_bool (h : JW g e TA) : JT g e TA := fun X hX W tk => (h X hX W tk).pt
theorem jt_not (ha : JT g a TA) : JT g (.UnaryOp .Not a pos) (tNotW TA) := fun X hX W tk =>
  (pt_not (ha X hX W tk)).imp fun σ H Q h => seqT (F := fun k => fun _ S => .ok (!k) S) (R := fun k σ H Q => Q (!k) H) h fun k σ H Q h => okT h
/-- as values: all but the last True or False -/
@[simp] noncomputable def eAnd (Ta Tb : EV) : EV := fun σ S => (tOf Ta σ S).bind fun k S1 => if k = true then Tb σ S1 else .ok (.d (.bl false)) S1
@[simp] noncomputable def eOr (Ta Tb : EV) : EV := fun σ S => (tOf Ta σ S).bind fun k S1 => if k = true then .ok (.d (.bl true)) S1 else Tb σ S1
@[simp] noncomputable def eNot (Ta : EV) : EV := fun σ S => (tOf Ta σ S).bind fun k S1 => .ok (.d (.bl (!k))) S1
@[simp] noncomputable def eIf (TA : TV) (Ta Tb : EV) : EV := fun σ S => (TA σ S).bind fun k S1 => if k = true then Ta σ S1 else Tb σ S1
theorem seqTE {W : WX} {σ : St} {H : Hp} {Q : VK} {F : Bool → EV} {R : Bool → TE} (h : LE g.K g.cls W (fun σ S => (TA σ S).bind fun k S1 => F k σ S1) σ H Q) (hf : ∀ k σ H Q, LE g.K g.cls W (F k) σ H Q → R k σ H Q) :
    LT g.K g.cls W TA σ H fun k H1 => R k σ H1 Q := by
  obtain ⟨wd, σ', S, hs, hh, h⟩ := h
  refine ⟨wd, σ', S, hs, hh, ?_⟩
  dsimp only at h
  revert h
  cases TA σ' S with
  | ok k S1 => intro h wd1 H1 l hr; exact hf k σ H1 Q ⟨wd1, σ', S1, hs.mono l, hr, OkE.mono l h⟩
  | exc c fs S1 => intro h; exact h
  | bad => intro h; exact h
theorem LE.eq {W : WX} {σ : St} {H : Hp} {Q : VK} {T T' : EV} (e : T = T') (h : LE g.K g.cls W T σ H Q) : LE g.K g.cls W T' σ H Q := e ▸ h
theorem okE {W : WX} {σ : St} {H : Hp} {Q : VK} {x : D} {v : V} (h : LE g.K g.cls W (fun _ S => .ok (.d x) S) σ H Q) (r : ∀ wd, RD g.K wd x v) : Q v H := by
  obtain ⟨wd, σ', S, hs, hh, h⟩ := h
  exact h wd _ H (.refl _) hh (r wd)
theorem je_one {op} (h : JE g a Ta) : JE g (.BoolOp op [a] pos) Ta := fun X hX W tk => pe_one (h X hX W tk)
theorem je_and (ha : JE g a Ta) (hb : JE g (.BoolOp .And (b :: rest) pos) Tb) : JE g (.BoolOp .And (a :: b :: rest) pos) (eAnd Ta Tb) := fun X hX W tk =>
  (pe_and (ha X hX W tk) (hb X hX W tk)).imp fun σ H Q h => by
    have h2 := seqTE (g := g) (W := W) (TA := tOf Ta) (F := fun k => if k = true then Tb else fun _ S => .ok (.d (.bl false)) S) (R := fun k σ H Q => if k = true then LE g.K g.cls W Tb σ H Q else Q (.bl false) H)
      (LE.eq (by funext σ S; unfold eAnd; congr 1; funext k S1; cases k <;> rfl) h) (fun k σ H Q h => by
        cases k with
        | true => exact h
        | false => exact okE h fun _ => by simp [RD])
    exact of_test h2
theorem je_or (ha : JE g a Ta) (hb : JE g (.BoolOp .Or (b :: rest) pos) Tb) : JE g (.BoolOp .Or (a :: b :: rest) pos) (eOr Ta Tb) := fun X hX W tk =>
  (pe_or (ha X hX W tk) (hb X hX W tk)).imp fun σ H Q h => by
    have h2 := seqTE (g := g) (W := W) (TA := tOf Ta) (F := fun k => if k = true then fun _ S => .ok (.d (.bl true)) S else Tb) (R := fun k σ H Q => if k = true then Q (.bl true) H else LE g.K g.cls W Tb σ H Q)
      (LE.eq (by funext σ S; unfold eOr; congr 1; funext k S1; cases k <;> rfl) h) (fun k σ H Q h => by
        cases k with
        | true => exact okE h fun _ => by simp [RD]
        | false => exact h)
    exact of_test h2
theorem je_not (ha : JE g a Ta) : JE g (.UnaryOp .Not a pos) (eNot Ta) := fun X hX W tk =>
  (pe_not (ha X hX W tk)).imp fun σ H Q h => by
    have h2 := seqTE (g := g) (W := W) (TA := tOf Ta) (F := fun k => fun _ S => .ok (.d (.bl (!k))) S) (R := fun k σ H Q => Q (.bl (!k)) H) h (fun k σ H Q h => okE h fun _ => by simp [RD])
    exact of_test h2
theorem je_if {c : Expr} (hc : JT g c TA) (ha : JE g a Ta) (hb : JE g b Tb) : JE g (.IfExp c a b pos) (eIf TA Ta Tb) := fun X hX W tk =>
  (pe_ifExp (hc X hX W tk) (ha X hX W tk) (hb X hX W tk)).imp fun σ H Q h => seqTE (TA := TA) (F := fun k => if k = true then Ta else Tb) (R := fun k σ H Q => if k = true then LE g.K g.cls W Ta σ H Q else LE g.K g.cls W Tb σ H Q)
      (LE.eq (by funext σ S; unfold eIf; congr 1; funext k S1; cases k <;> rfl) h) (fun k σ H Q h => by cases k <;> exact h)

/-! ### arguments, displays -/
variable {es : List Expr} {Ts : EVs}
@[simp] def aNil : EVs := fun _ S => .ok [] S
@[simp] noncomputable def aCons (T : EV) (Ts : EVs) : EVs := fun σ S => (T σ S).bind fun v S1 => (Ts σ S1).bind fun vs S2 => .ok (frz v :: vs) S2
theorem ja_nil : JA g [] aNil := fun X hX W tk => (pa_nil (X := X)).imp fun σ H Q h => by
  obtain ⟨wd, σ', S, hs, hh, h⟩ := h
  exact h wd [] H (.refl _) hh rfl
theorem ja_cons (ha : JE g e T) (hr : JA g es Ts) (hs : ∀ env, starEach (e :: es) env = (false, eval e env) :: starEach es env := by intro _; rfl) : JA g (e :: es) (aCons T Ts) := fun X hX W tk =>
  (pa_cons (ha X hX W tk) (hr X hX W tk) (hs X.env)).imp fun σ H Q h => by
    obtain ⟨wd, σ', S, hs, hh, h⟩ := h
    refine ⟨wd, σ', S, hs, hh, ?_⟩
    have h1 := OkA_opd (F := fun v S1 => (Ts σ' S1).bind fun vs S2 => .ok (v :: vs) S2) h
    revert h1
    cases T σ' S with
    | ok v S1 =>
      intro h1 wd1 x H1 l hr rv
      obtain ⟨v', wd2, S2, l2, hr2, rw2, h2⟩ := h1 wd1 x H1 l hr rv
      refine ⟨wd2, σ', S2, hs.mono l2, hr2, ?_⟩
      have h3 := OkA_bind h2
      revert h3
      cases Ts σ' S2 with
      | ok u S3 =>
        intro h3 wd3 y H3 l3 hr3 rv3
        obtain ⟨u', wd4, S4, l4, hr4, rw4, h4⟩ := h3 wd3 y H3 l3 hr3 rv3
        exact h4 wd4 (x :: y) H3 (.refl _) hr4 ⟨x, y, rfl, rw2.mono l4, rw4⟩
      | exc c fs S3 => intro h3; exact h3
      | bad => intro h3; exact h3
    | exc c fs S1 => intro h1; exact h1
    | bad => intro h1; exact h1
/-- what data a value is: a box is frozen -/
noncomputable def toD (v : Vl) (S : Sta) : Option (D × Sta) := match v with
  | .d x => some (x, S)
  | .new l => some (.lst l, S)
  | .box i => match S.B[i]? with
    | some (_, l) => some (.lst l, { S with B := S.B.set i (false, l) })
    | none => none
@[simp] theorem toD_d (x : D) (S : Sta) : toD (.d x) S = some (x, S) := rfl
noncomputable def toDs : List Vl → Sta → Option (List D × Sta)
  | [], S => some ([], S)
  | v :: vs, S => match toD v S with
    | none => none
    | some (x, S1) => match toDs vs S1 with
      | none => none
      | some (xs, S2) => some (x :: xs, S2)
@[simp] theorem toDs_nil (S : Sta) : toDs [] S = some ([], S) := rfl
@[simp] theorem toDs_cons (x : D) (vs : List Vl) (S : Sta) : toDs (.d x :: vs) S = match toDs vs S with
      | none => none
      | some (xs, S2) => some (x :: xs, S2) := rfl
theorem RW.toD {wd : Wd} {H : Hp} {S S1 : Sta} {v : Vl} {x : V} {y : D} (h : HR g.K g.cls wd S H) (r : RW g.K wd v x) (e : Ev.toD v S = some (y, S1)) : ∃ wd1, wd.Le wd1 ∧ HR g.K g.cls wd1 S1 H ∧ RD g.K wd1 y x := by
  cases v with
  | d z => cases e; exact ⟨wd, .refl _, h, r⟩
  | new l => exact r.elim
  | box i =>
    obtain ⟨a, rfl, ea⟩ := r
    unfold Ev.toD at e
    split at e
    · rename_i z
      cases z
    · rename_i z; cases z
    · rename_i j z
      cases z
      split at e
      · rename_i k l eb
        cases e
        have hi : i < S.B.length := (List.getElem?_eq_some_iff.mp eb).1
        have key : ∀ (vs : List V) (wd1 : Wd), wd.Le wd1 → wd1.bx = wd.bx → wd1.an = wd.an → wd1.ob = wd.ob → HR g.K g.cls wd1 S H ∨ True → wd1.fz a = some (.lst vs) → (∀ p o, wd1.fz p = some o → H p = some o) → (∀ p, p ≠ a → wd1.fz p = wd.fz p) → RDs g.K wd l vs →
            HR g.K g.cls wd1 { S with B := S.B.set i (false, l) } H ∧ RD g.K wd1 (.lst l) (.ref a) := by
          intro vs wd1 le eb1 ea1 eo1 _ hf hfz hne rr
          refine ⟨⟨hfz, by rw [eb1]; simpa using h.bn, fun j m q => ?_, fun j m q => ?_, by rw [eb1]; exact h.bnd, by rw [eo1]; exact h.on, by rw [eo1]; exact h.ond, fun j o q => ?_, fun p hp => ?_, by rw [ea1]; exact h.annd, fun p o q => ?_⟩, ?_⟩
          · by_cases hj : j = i
            · subst hj; rw [List.getElem?_set_self hi] at q; cases q
            · rw [List.getElem?_set_ne (Ne.symm hj)] at q
              obtain ⟨b, us, e1, e2, e3, r3⟩ := h.live j m q
              refine ⟨b, us, by rw [eb1]; exact e1, e2, ?_, RDs.mono _ le _ _ r3⟩
              rw [hne b ?_]; exact e3
              intro z; subst z
              exact hj (nodupIx h.bnd e1 ea)
          · by_cases hj : j = i
            · subst hj; rw [List.getElem?_set_self hi] at q; cases q
              exact ⟨a, vs, by rw [eb1]; exact ea, hf, RDs.mono _ le _ _ rr⟩
            · rw [List.getElem?_set_ne (Ne.symm hj)] at q
              obtain ⟨b, us, e1, e2, r3⟩ := h.froz j m q
              exact ⟨b, us, by rw [eb1]; exact e1, le.fz _ _ e2, RDs.mono _ le _ _ r3⟩
          · obtain ⟨b, e1, r1⟩ := h.ob j o q
            exact ⟨b, by rw [eo1]; exact e1, r1.mono le⟩
          · rw [ea1] at hp
            obtain ⟨e1, e2, e3⟩ := h.an p hp
            refine ⟨e1, ?_, by rw [eb1]; exact e3⟩
            rw [hne]; exact e2
            intro z; rw [z] at e3; exact e3 (List.mem_of_getElem? ea)
          · by_cases hp : p = a
            · subst hp; rw [hf] at q; cases q; rfl
            · rw [hne p hp] at q; exact h.nfz p o q
          · simp only [RD]
            exact ⟨a, vs, rfl, hf, RDs.mono _ le _ _ rr⟩
        cases k with
        | true =>
          obtain ⟨b, vs, e1, e2, e3, rr⟩ := h.live i l eb
          rw [ea] at e1; cases e1
          refine ⟨wd.put a (.lst vs), put_le e3, key vs _ (put_le e3) rfl rfl rfl (.inr trivial) put_same (fun p o q => ?_) (fun p hp => put_ne hp) rr⟩
          by_cases hp : p = a
          · subst hp; rw [put_same] at q; cases q; exact e2
          · rw [put_ne hp] at q; exact h.fz p o q
        | false =>
          obtain ⟨b, vs, e1, e2, rr⟩ := h.froz i l eb
          rw [ea] at e1; cases e1
          exact ⟨wd, .refl _, key vs wd (.refl _) rfl rfl rfl (.inr trivial) e2 h.fz (fun _ _ => rfl) rr⟩
      · cases e
theorem RWs.toDs {wd : Wd} {H : Hp} : ∀ {vs : List Vl} {xs : List V} {ys : List D} {S S1 : Sta} {wd : Wd}, HR g.K g.cls wd S H → RWs g.K wd vs xs → Ev.toDs vs S = some (ys, S1) → ∃ wd1, wd.Le wd1 ∧ HR g.K g.cls wd1 S1 H ∧ RDs g.K wd1 ys xs
  | [], xs, ys, S, S1, wd, h, r, e => by
    cases e
    have r' : xs = [] := r
    subst r'
    exact ⟨wd, .refl _, h, by simp [RDs]⟩
  | v :: vs, xs, ys, S, S1, wd, h, r, e => by
    obtain ⟨x, xr, rfl, r1, r2⟩ := r
    unfold Ev.toDs at e
    split at e
    · cases e
    · rename_i y S2 e1
      obtain ⟨wd1, l1, h1, q1⟩ := RW.toD h r1 e1
      split at e
      · cases e
      · rename_i zs S3 e2
        cases e
        obtain ⟨wd2, l2, h2, q2⟩ := RWs.toDs (wd := wd) h1 (RWs.mono l1 r2) e2
        exact ⟨wd2, l1.trans l2, h2, by simp only [RDs]; exact ⟨x, xr, rfl, RD.mono _ l2 _ _ q1, q2⟩⟩
@[simp] noncomputable def eTup (Ts : EVs) : EV := fun σ S => (Ts σ S).bind fun vs S1 => match toDs vs S1 with
  | some (l, S2) => if l.length ≤ sizeLine then .ok (.d (.tup l)) S2 else .bad
  | none => .bad
@[simp] noncomputable def eLst (Ts : EVs) : EV := fun σ S => (Ts σ S).bind fun vs S1 => match toDs vs S1 with
  | some (l, S2) => if l.length ≤ sizeLine then .ok (.new l) S2 else .bad
  | none => .bad
theorem je_tup {x1} (h : JA g es Ts) : JE g (.Tuple es x1 pos) (eTup Ts) := fun X hX W tk => (pe_tup (h X hX W tk)).imp fun σ H Q h => by
  obtain ⟨wd, σ', S, hs, hh, h⟩ := h
  refine ⟨wd, σ', S, hs, hh, ?_⟩
  have h1 := OkA_bindE h
  revert h1
  cases Ts σ' S with
  | ok v S1 =>
    intro h1 wd1 x H1 l hr rv
    obtain ⟨v', wd2, S2, l2, hr2, rw2, h2⟩ := h1 wd1 x H1 l hr rv
    split at h2
    · rename_i ys S3 e
      obtain ⟨wd3, l3, hr3, r3⟩ := RWs.toDs (wd := wd) hr2 rw2 e
      split at h2
      · rename_i hz
        refine ⟨by rw [← r3.length]; exact hz, fun p hp => ?_⟩
        obtain ⟨wd4, l4, hr4, r4⟩ := hr3.newTup hp r3
        exact h2 wd4 _ _ (l3.trans l4) hr4 r4
      · exact h2.elim
    · exact h2.elim
  | exc c fs S1 => intro h1; exact h1
  | bad => intro h1; exact h1
theorem je_lst (h : JA g es Ts) : JE g (.List es pos) (eLst Ts) := fun X hX W tk => (pe_lst (h X hX W tk)).imp fun σ H Q h => by
  obtain ⟨wd, σ', S, hs, hh, h⟩ := h
  refine ⟨wd, σ', S, hs, hh, ?_⟩
  have h1 := OkA_bindE h
  revert h1
  cases Ts σ' S with
  | ok v S1 =>
    intro h1 wd1 x H1 l hr rv
    obtain ⟨v', wd2, S2, l2, hr2, rw2, h2⟩ := h1 wd1 x H1 l hr rv
    split at h2
    · rename_i ys S3 e
      obtain ⟨wd3, l3, hr3, r3⟩ := RWs.toDs (wd := wd) hr2 rw2 e
      split at h2
      · rename_i hz
        refine ⟨by rw [← r3.length]; exact hz, fun p hp => ?_⟩
        obtain ⟨hr4, r4⟩ := hr3.newLst hp r3
        exact h2 wd3 _ _ l3 hr4 r4
      · exact h2.elim
    · exact h2.elim
  | exc c fs S1 => intro h1; exact h1
  | bad => intro h1; exact h1
end
end Ev

set_option Elab.async false
set_option linter.all false
set_option maxRecDepth 100000
set_option maxHeartbeats 1000000
/-! Ev3: operators by values. -/
namespace Ev
open PySem PySem.Spec PyProof.Rows L2
open Classical
section
variable {g : G}
/-! ### whole numbers, texts -/
def subF : Vl → Vl → Sta → Out Vl
  | .d (.int i), .d (.int j), S => .ok (.d (.int (i - j))) S
  | _, _, _ => .bad
noncomputable def mulF : Vl → Vl → Sta → Out Vl
  | .d (.int i), .d (.int j), S => if CMulW i j then .ok (.d (.int (i * j))) S else .bad
  | _, _, _ => .bad
noncomputable def modF : Vl → Vl → Sta → Out Vl
  | .d (.int i), .d (.int j), S => if 0 < j then .ok (.d (.int (i % j))) S else .bad
  | _, _, _ => .bad
noncomputable def divF : Vl → Vl → Sta → Out Vl
  | .d (.int i), .d (.int j), S => if CDivW i j then .ok (.d (.int (i / j))) S else .bad
  | _, _, _ => .bad
noncomputable def powF : Vl → Vl → Sta → Out Vl
  | .d (.int i), .d (.int j), S => if CPow i j then .ok (.d (.int (i ^ j.toNat))) S else .bad
  | _, _, _ => .bad
def ltF : Vl → Vl → Sta → Out Vl
  | .d (.int i), .d (.int j), S => .ok (.d (.bl (decide (i < j)))) S
  | _, _, _ => .bad
def leF : Vl → Vl → Sta → Out Vl
  | .d (.int i), .d (.int j), S => .ok (.d (.bl (decide (i ≤ j)))) S
  | _, _, _ => .bad
def gtF : Vl → Vl → Sta → Out Vl
  | .d (.int i), .d (.int j), S => .ok (.d (.bl (decide (j < i)))) S
  | _, _, _ => .bad
def geF : Vl → Vl → Sta → Out Vl
  | .d (.int i), .d (.int j), S => .ok (.d (.bl (decide (j ≤ i)))) S
  | _, _, _ => .bad
theorem rd_int {K wd i x} (h : RW K wd (.d (.int i)) x) : x = .int i := by simpa [RW, RD] using h
theorem rd_bl {K wd i x} (h : RW K wd (.d (.bl i)) x) : x = .bl i := by simpa [RW, RD] using h
theorem rd_str {K wd i x} (h : RW K wd (.d (.str i)) x) : x = .str i ∧ PyData.strOk i = true := by simpa [RW, RD] using h
theorem rd_non {K wd x} (h : RW K wd (.d .non) x) : x = .non := by simpa [RW, RD] using h
theorem rv_int {K wd H i} : RV K wd H (.d (.int i)) (.int i) := by simp [RV, RD]
theorem rv_bl {K wd H i} : RV K wd H (.d (.bl i)) (.bl i) := by simp [RV, RD]
theorem rv_non {K wd H} : RV K wd H (.d .non) .non := by simp [RV, RD]
theorem rv_str {K wd H i} (h : PyData.strOk i = true) : RV K wd H (.d (.str i)) (.str i) := by simp [RV, RD, h]
theorem opd_sub : OpD g (rI0 fun i j => .int (i - j)) subF := by
  intro W σ wd H S v u x y Q hh rv ru h
  unfold subF at h
  split at h
  · exact ⟨_, _, rd_int rv, rd_int ru, h wd _ H (.refl _) hh rv_int⟩
  · exact h.elim
theorem opd_mul : OpD g (rI CMulW fun i j => .int (i * j)) mulF := by
  intro W σ wd H S v u x y Q hh rv ru h
  unfold mulF at h
  split at h
  · split at h
    · rename_i c
      exact ⟨_, _, rd_int rv, rd_int ru, c, h wd _ H (.refl _) hh rv_int⟩
    · exact h.elim
  · exact h.elim
theorem opd_mod : OpD g (rI (fun _ j => 0 < j) fun i j => .int (i % j)) modF := by
  intro W σ wd H S v u x y Q hh rv ru h
  unfold modF at h
  split at h
  · split at h
    · rename_i c
      exact ⟨_, _, rd_int rv, rd_int ru, c, h wd _ H (.refl _) hh rv_int⟩
    · exact h.elim
  · exact h.elim
theorem opd_div : OpD g (rI CDivW fun i j => .int (i / j)) divF := by
  intro W σ wd H S v u x y Q hh rv ru h
  unfold divF at h
  split at h
  · split at h
    · rename_i c
      exact ⟨_, _, rd_int rv, rd_int ru, c, h wd _ H (.refl _) hh rv_int⟩
    · exact h.elim
  · exact h.elim
theorem opd_pow : OpD g (rI CPow fun i j => .int (i ^ j.toNat)) powF := by
  intro W σ wd H S v u x y Q hh rv ru h
  unfold powF at h
  split at h
  · split at h
    · rename_i c
      exact ⟨_, _, rd_int rv, rd_int ru, c, h wd _ H (.refl _) hh rv_int⟩
    · exact h.elim
  · exact h.elim
theorem opd_lt : OpD g (rI0 fun i j => .bl (decide (i < j))) ltF := by
  intro W σ wd H S v u x y Q hh rv ru h
  unfold ltF at h
  split at h
  · exact ⟨_, _, rd_int rv, rd_int ru, h wd _ H (.refl _) hh rv_bl⟩
  · exact h.elim
theorem opd_le : OpD g (rI0 fun i j => .bl (decide (i ≤ j))) leF := by
  intro W σ wd H S v u x y Q hh rv ru h
  unfold leF at h
  split at h
  · exact ⟨_, _, rd_int rv, rd_int ru, h wd _ H (.refl _) hh rv_bl⟩
  · exact h.elim
theorem opd_gt : OpD g (rI0 fun i j => .bl (decide (j < i))) gtF := by
  intro W σ wd H S v u x y Q hh rv ru h
  unfold gtF at h
  split at h
  · exact ⟨_, _, rd_int rv, rd_int ru, h wd _ H (.refl _) hh rv_bl⟩
  · exact h.elim
theorem opd_ge : OpD g (rI0 fun i j => .bl (decide (j ≤ i))) geF := by
  intro W σ wd H S v u x y Q hh rv ru h
  unfold geF at h
  split at h
  · exact ⟨_, _, rd_int rv, rd_int ru, h wd _ H (.refl _) hh rv_bl⟩
  · exact h.elim

/-! ### what a list or tuple holds -/
noncomputable def lstOf (v : Vl) (S : Sta) : Option (List D) := match v with
  | .d (.lst l) => some l
  | .new l => some l
  | .box i => match S.B[i]? with
    | some (_, l) => some l
    | none => none
  | _ => none
@[simp] theorem lstOf_lst (l : List D) (S : Sta) : lstOf (.d (.lst l)) S = some l := rfl
@[simp] theorem lstOf_new (l : List D) (S : Sta) : lstOf (.new l) S = some l := rfl
theorem lst_at {K cls wd H S v x l} (hh : HR K cls wd S H) (r : RW K wd v x) (e : lstOf v S = some l) : ∃ a vs, x = .ref a ∧ H a = some (.lst vs) ∧ RDs K wd l vs := by
  unfold lstOf at e
  split at e
  · cases e
    simp only [RW, RD] at r
    obtain ⟨a, vs, rfl, t, rr⟩ := r
    exact ⟨a, vs, rfl, hh.fz a _ t, rr⟩
  · exact r.elim
  · rename_i i
    obtain ⟨a, rfl, ea⟩ := r
    split at e
    · rename_i b l eb
      cases e
      cases b with
      | true =>
        obtain ⟨c, vs, e1, e2, _, rr⟩ := hh.live i _ eb
        rw [ea] at e1; cases e1
        exact ⟨a, vs, rfl, e2, rr⟩
      | false =>
        obtain ⟨c, vs, e1, e2, rr⟩ := hh.froz i _ eb
        rw [ea] at e1; cases e1
        exact ⟨a, vs, rfl, hh.fz a _ e2, rr⟩
    · cases e
  · cases e
/-- .. or the script -/
noncomputable def rdlOf (v : Vl) (S : Sta) : Option (List D) := match v with
  | .d (.scr l) => some l
  | v => lstOf v S
@[simp] theorem rdlOf_lst (l : List D) (S : Sta) : rdlOf (.d (.lst l)) S = some l := rfl
@[simp] theorem rdlOf_scr (l : List D) (S : Sta) : rdlOf (.d (.scr l)) S = some l := rfl
@[simp] theorem rdlOf_new (l : List D) (S : Sta) : rdlOf (.new l) S = some l := rfl
theorem rdl_at {K cls wd H S v x l} (hh : HR K cls wd S H) (r : RW K wd v x) (e : rdlOf v S = some l) : ∃ a vs, x = .ref a ∧ SqL K H a vs ∧ RDs K wd l vs := by
  unfold rdlOf at e
  split at e
  · cases e
    simp only [RW, RD] at r
    obtain ⟨a, vs, rfl, t, rr⟩ := r
    exact ⟨a, vs, rfl, t.sq hh, rr⟩
  · obtain ⟨a, vs, e1, e2, rr⟩ := lst_at hh r e
    exact ⟨a, vs, e1, .of e2, rr⟩
def tupOf : Vl → Option (List D)
  | .d (.tup l) => some l
  | _ => none
theorem tup_at {K cls wd H S v x l} (hh : HR K cls wd S H) (r : RW K wd v x) (e : tupOf v = some l) : ∃ a vs, x = .ref a ∧ SqT K H a vs ∧ RDs K wd l vs := by
  unfold tupOf at e
  split at e
  · cases e
    simp only [RW, RD] at r
    obtain ⟨a, vs, rfl, t, rr⟩ := r
    exact ⟨a, vs, rfl, t.sq hh, rr⟩
  · cases e
@[simp] theorem tupOf_tup (l : List D) : tupOf (.d (.tup l)) = some l := rfl

/-! ### + -/
noncomputable def addF (v u : Vl) (S : Sta) : Out Vl := match v with
  | .d (.int i) => match u with
    | .d (.int j) => .ok (.d (.int (i + j))) S
    | _ => .bad
  | .d (.str x) => match u with
    | .d (.str y) => if x.length + y.length ≤ sizeLine then .ok (.d (.str (x ++ y))) S else .bad
    | _ => .bad
  | .d (.tup l) => match u with
    | .d (.tup m) => if l.length + m.length ≤ sizeLine then .ok (.d (.tup (l ++ m))) S else .bad
    | _ => .bad
  | v => match lstOf v S with
    | some l => match lstOf u S with
      | some m => if l.length + m.length ≤ sizeLine then .ok (.new (l ++ m)) S else .bad
      | none => .bad
    | none => .bad
def rAddAll (K : PySem.W.Frag) : R2 := fun x y H Q => rI0 (fun i j => .int (i + j)) x y H Q ∨ (∃ i j, x = .str i ∧ y = .str j ∧ i.length + j.length ≤ sizeLine ∧ Q (.str (i ++ j)) H) ∨ rCatA K x y H Q ∨ rCat x y H Q
theorem or_add {X : Cx} : OpR X (binaryOp .Add) (rAddAll X.K) := op_add.or (op_add_str.or (op_catA.or op_cat))
theorem strOk_append {x y : Str} (h : PyData.strOk x = true) (k : PyData.strOk y = true) : PyData.strOk (x ++ y) = true := by
  have e : (x ++ y).cps = x.cps ++ y.cps := rfl
  unfold PyData.strOk at *
  rw [e, Array.all_append, h, k]; rfl
theorem opd_add : OpD g (rAddAll g.K) addF := by
  intro W σ wd H S v u x y Q hh rv ru h
  unfold addF at h
  split at h
  · split at h
    · exact .inl ⟨_, _, rd_int rv, rd_int ru, h wd _ H (.refl _) hh rv_int⟩
    · exact h.elim
  · split at h
    · split at h
      · rename_i c
        exact .inr (.inl ⟨_, _, (rd_str rv).1, (rd_str ru).1, c, h wd _ H (.refl _) hh (rv_str (strOk_append (rd_str rv).2 (rd_str ru).2))⟩)
      · exact h.elim
    · exact h.elim
  · rename_i l
    split at h
    · rename_i m
      split at h
      · rename_i c
        obtain ⟨a, vs, rfl, ht, rr⟩ := tup_at hh rv rfl
        obtain ⟨b, us, rfl, ht', rr'⟩ := tup_at hh ru rfl
        refine .inr (.inr (.inl ⟨a, b, vs, us, rfl, rfl, ht, ht', by rw [← rr.length, ← rr'.length]; exact c, fun z => ?_, fun _ z => ?_, fun _ _ p hp => ?_⟩))
        · have e : l = [] := by
            have := rr.length
            rw [z] at this
            exact List.length_eq_zero_iff.mp this
          subst e
          refine h wd _ H (.refl _) hh ?_
          rw [List.nil_append]; exact ru
        · have e : m = [] := by
            have := rr'.length
            rw [z] at this
            exact List.length_eq_zero_iff.mp this
          subst e
          refine h wd _ H (.refl _) hh ?_
          rw [List.append_nil]; exact rv
        · obtain ⟨wd1, l1, h1, r1⟩ := hh.newTup hp (rr.append rr')
          exact h wd1 _ _ l1 h1 r1
      · exact h.elim
    · exact h.elim
  · split at h
    · rename_i l e
      split at h
      · rename_i m e'
        split at h
        · rename_i c
          obtain ⟨a, vs, rfl, ht, rr⟩ := lst_at hh rv e
          obtain ⟨b, us, rfl, ht', rr'⟩ := lst_at hh ru e'
          refine .inr (.inr (.inr ⟨a, b, vs, us, rfl, rfl, ht, ht', by rw [← rr.length, ← rr'.length]; exact c, fun p hp => ?_⟩))
          obtain ⟨h1, r1⟩ := hh.newLst hp (rr.append rr')
          exact h wd _ _ (.refl _) h1 r1
        · exact h.elim
      · exact h.elim
    · exact h.elim

/-! ### == over data -/
mutual
def toPy : D → PyData
  | .non => .none
  | .bl b => .bool b
  | .int i => .int i
  | .str x => .str x
  | .tup l => .tuple (toPys l)
  | .lst l => .list (toPys l)
  | .scr l => .list (toPys l)
  | .obj _ => .none
  | .ty _ => .none
  | .cl _ => .none
def toPys : List D → List PyData
  | [] => []
  | x :: r => toPy x :: toPys r
end
/- plain data, nested to this depth -/
mutual
def okD : Nat → D → Bool
  | _, .non => true
  | _, .bl _ => true
  | _, .int _ => true
  | _, .str _ => true
  | 0, .tup _ => false
  | n + 1, .tup l => okDs n l
  | 0, .lst _ => false
  | n + 1, .lst l => okDs n l
  | 0, .scr _ => false
  | n + 1, .scr l => okDs n l
  | _, .obj _ => false
  | _, .ty _ => false
  | _, .cl _ => false
def okDs : Nat → List D → Bool
  | _, [] => true
  | n, x :: r => okD n x && okDs n r
end
theorem okDs_iff {n : Nat} : ∀ {l : List D}, okDs n l = true ↔ ∀ x ∈ l, okD n x = true
  | [] => by simp [okDs]
  | x :: r => by simp [okDs, okDs_iff (l := r)]
mutual
theorem okD_depth : ∀ (n : Nat) (x : D), okD n x = true → (toPy x).depth ≤ n
  | _, .non, _ => by simp [toPy, PyData.depth]
  | _, .bl _, _ => by simp [toPy, PyData.depth]
  | _, .int _, _ => by simp [toPy, PyData.depth]
  | _, .str _, _ => by simp [toPy, PyData.depth]
  | 0, .tup _, h => by simp [okD] at h
  | n + 1, .tup l, h => by
    have := okDs_depth n l (by simpa [okD] using h)
    simp only [toPy, PyData.depth]; omega
  | 0, .lst _, h => by simp [okD] at h
  | n + 1, .lst l, h => by
    have := okDs_depth n l (by simpa [okD] using h)
    simp only [toPy, PyData.depth]; omega
  | 0, .scr _, h => by simp [okD] at h
  | n + 1, .scr l, h => by
    have := okDs_depth n l (by simpa [okD] using h)
    simp only [toPy, PyData.depth]; omega
  | _, .obj _, h => by simp [okD] at h
  | _, .ty _, h => by simp [okD] at h
  | _, .cl _, h => by simp [okD] at h
theorem okDs_depth : ∀ (n : Nat) (l : List D), okDs n l = true → PyData.depthAll (toPys l) ≤ n
  | _, [], _ => by simp [toPys, PyData.depthAll]
  | n, x :: r, h => by
    simp only [okDs, Bool.and_eq_true] at h
    have h1 := okD_depth n x h.1
    have h2 := okDs_depth n r h.2
    simp only [toPys, PyData.depthAll]; omega
end
mutual
theorem RD.py {K : PySem.W.Frag} {cls : String → Addr} {wd : Wd} {H : Hp} {S : Sta} (hh : HR K cls wd S H) : ∀ (n : Nat) (x : D) (v : V), okD n x = true → RD K wd x v → Dp K H v (toPy x) ∧ (toPy x).canLay0 = true
  | _, .non, v, _, r => by
    have e : v = .non := by simpa [RD] using r
    subst e; exact ⟨.non, rfl⟩
  | _, .bl b, v, _, r => by
    have e : v = .bl b := by simpa [RD] using r
    subst e; exact ⟨.bl b, rfl⟩
  | _, .int b, v, _, r => by
    have e : v = .int b := by simpa [RD] using r
    subst e; exact ⟨.int b, rfl⟩
  | _, .str b, v, _, r => by
    have e : v = .str b ∧ PyData.strOk b = true := by simpa [RD] using r
    obtain ⟨e, e2⟩ := e
    subst e; exact ⟨.str b, by simpa [toPy, PyData.canLay0] using e2⟩
  | 0, .tup _, _, h, _ => by simp [okD] at h
  | n + 1, .tup l, v, h, r => by
    simp only [RD] at r
    obtain ⟨a, vs, rfl, t, rr⟩ := r
    obtain ⟨d, c⟩ := RDs.py hh n l vs (by simpa [okD] using h) rr
    exact ⟨.tup (t.sq hh) d, by simpa [toPy, PyData.canLay0] using c⟩
  | 0, .lst _, _, h, _ => by simp [okD] at h
  | n + 1, .lst l, v, h, r => by
    simp only [RD] at r
    obtain ⟨a, vs, rfl, t, rr⟩ := r
    obtain ⟨d, c⟩ := RDs.py hh n l vs (by simpa [okD] using h) rr
    exact ⟨.lst (t.sq hh) d, by simpa [toPy, PyData.canLay0] using c⟩
  | 0, .scr _, _, h, _ => by simp [okD] at h
  | n + 1, .scr l, v, h, r => by
    simp only [RD] at r
    obtain ⟨a, vs, rfl, t, rr⟩ := r
    obtain ⟨d, c⟩ := RDs.py hh n l vs (by simpa [okD] using h) rr
    exact ⟨.lst (t.sq hh) d, by simpa [toPy, PyData.canLay0] using c⟩
  | _, .obj _, _, h, _ => by simp [okD] at h
  | _, .ty _, _, h, _ => by simp [okD] at h
  | _, .cl _, _, h, _ => by simp [okD] at h
theorem RDs.py {K : PySem.W.Frag} {cls : String → Addr} {wd : Wd} {H : Hp} {S : Sta} (hh : HR K cls wd S H) : ∀ (n : Nat) (l : List D) (vs : List V), okDs n l = true → RDs K wd l vs → DpAll K H vs (toPys l) ∧ PyData.canLayAll0 (toPys l) = true
  | _, [], vs, _, r => by
    have e : vs = [] := by simpa [RDs] using r
    subst e; exact ⟨.nil, rfl⟩
  | n, x :: l, vs, h, r => by
    simp only [RDs] at r
    obtain ⟨v, vr, rfl, r1, r2⟩ := r
    simp only [okDs, Bool.and_eq_true] at h
    obtain ⟨d1, c1⟩ := RD.py hh n x v h.1 r1
    obtain ⟨d2, c2⟩ := RDs.py hh n l vr h.2 r2
    exact ⟨.cons d1 d2, by simp [toPys, PyData.canLayAll0, c1, c2]⟩
end
/-- what data there is to compare -/
noncomputable def datOf (v : Vl) (S : Sta) : Option D := match v with
  | .d x => some x
  | v => match lstOf v S with
    | some l => some (.lst l)
    | none => none
@[simp] theorem datOf_d (x : D) (S : Sta) : datOf (.d x) S = some x := rfl
@[simp] theorem datOf_new (l : List D) (S : Sta) : datOf (.new l) S = some (.lst l) := rfl
theorem dat_py {K cls wd H S v x d} (hh : HR K cls wd S H) (r : RW K wd v x) (e : datOf v S = some d) {n : Nat} (h : okD n d = true) (hn : n ≤ 64) : Dp K H x (toPy d) ∧ SeqAt.shaped (toPy d) = true := by
  have key : Dp K H x (toPy d) ∧ (toPy d).canLay0 = true := by
    unfold datOf at e
    split at e
    · cases e; exact RD.py hh n d x h r
    · split at e
      · rename_i l e2
        cases e
        obtain ⟨a, vs, rfl, t, rr⟩ := lst_at hh r e2
        cases n with
        | zero => simp [okD] at h
        | succ n =>
          obtain ⟨d, c⟩ := RDs.py hh n l vs (by simpa [okD] using h) rr
          exact ⟨.lst (.of t) d, by simpa [toPy, PyData.canLay0] using c⟩
      · cases e
  refine ⟨key.1, ?_⟩
  have := okD_depth n d h
  simp [SeqAt.shaped, key.2]; omega
def eqD (a b : D) : Bool := PyData.eqv (toPy a) (toPy b)
noncomputable def eqF (v u : Vl) (S : Sta) : Out Vl := match datOf v S, datOf u S with
  | some a, some b => if okD 60 a = true ∧ okD 60 b = true then .ok (.d (.bl (eqD a b))) S else .bad
  | _, _ => .bad
noncomputable def neF (v u : Vl) (S : Sta) : Out Vl := match datOf v S, datOf u S with
  | some a, some b => if okD 60 a = true ∧ okD 60 b = true then .ok (.d (.bl (!eqD a b))) S else .bad
  | _, _ => .bad
theorem opd_eq : OpD g (rEqD g.K) eqF := by
  intro W σ wd H S v u x y Q hh rv ru h
  unfold eqF at h
  split at h
  · rename_i a b e1 e2
    split at h
    · rename_i c
      obtain ⟨d1, s1⟩ := dat_py hh rv e1 c.1 (by decide)
      obtain ⟨d2, s2⟩ := dat_py hh ru e2 c.2 (by decide)
      exact ⟨_, _, d1, d2, s1, s2, h wd _ H (.refl _) hh rv_bl⟩
    · exact h.elim
  · exact h.elim
theorem opd_ne : OpD g (rNeD g.K) neF := by
  intro W σ wd H S v u x y Q hh rv ru h
  unfold neF at h
  split at h
  · rename_i a b e1 e2
    split at h
    · rename_i c
      obtain ⟨d1, s1⟩ := dat_py hh rv e1 c.1 (by decide)
      obtain ⟨d2, s2⟩ := dat_py hh ru e2 c.2 (by decide)
      exact ⟨_, _, d1, d2, s1, s2, h wd _ H (.refl _) hh rv_bl⟩
    · exact h.elim
  · exact h.elim

/-! ### in -/
def flatD : D → Bool
  | .non => true
  | .bl _ => true
  | .int _ => true
  | .str _ => true
  | _ => false
def inD (x : D) (l : List D) : Bool := l.any fun y => eqD y x
theorem flat_v {K wd x v} (h : flatD x = true) (r : RD K wd x v) : flatV v = true ∧ ∀ y u, flatD y = true → RD K wd y u → L2.eqV u v = eqD y x := by
  cases x with
  | non =>
    simp only [RD] at r; subst r
    refine ⟨rfl, fun y u hy ru => ?_⟩
    cases y <;> first | (simp [flatD] at hy; done) | (simp only [RD] at ru; first | (obtain ⟨ru, _⟩ := ru; subst ru; simp [L2.eqV, eqD, toPy, PyData.eqv]) | (subst ru; simp [L2.eqV, eqD, toPy, PyData.eqv]))
  | bl b =>
    simp only [RD] at r; subst r
    refine ⟨rfl, fun y u hy ru => ?_⟩
    cases y <;> first | (simp [flatD] at hy; done) | (simp only [RD] at ru; first | (obtain ⟨ru, _⟩ := ru; subst ru; simp [L2.eqV, eqD, toPy, PyData.eqv]) | (subst ru; simp [L2.eqV, eqD, toPy, PyData.eqv]))
  | int i =>
    simp only [RD] at r; subst r
    refine ⟨rfl, fun y u hy ru => ?_⟩
    cases y <;> first | (simp [flatD] at hy; done) | (simp only [RD] at ru; first | (obtain ⟨ru, _⟩ := ru; subst ru; simp [L2.eqV, eqD, toPy, PyData.eqv]) | (subst ru; simp [L2.eqV, eqD, toPy, PyData.eqv]))
  | str i =>
    simp only [RD] at r
    obtain ⟨r, _⟩ := r
    subst r
    refine ⟨rfl, fun y u hy ru => ?_⟩
    cases y <;> first | (simp [flatD] at hy; done) | (simp only [RD] at ru; first | (obtain ⟨ru, _⟩ := ru; subst ru; simp [L2.eqV, eqD, toPy, PyData.eqv]) | (subst ru; simp [L2.eqV, eqD, toPy, PyData.eqv]))
  | _ => simp [flatD] at h
theorem flats_v {K wd x v} (h : flatD x = true) (r : RD K wd x v) : ∀ {l : List D} {vs : List V}, l.all flatD = true → RDs K wd l vs → vs.all flatV = true ∧ inV v vs = inD x l
  | [], vs, _, rr => by
    simp only [RDs] at rr; subst rr; exact ⟨rfl, rfl⟩
  | y :: l, vs, hl, rr => by
    simp only [RDs] at rr
    obtain ⟨u, vr, rfl, r1, r2⟩ := rr
    simp only [List.all_cons, Bool.and_eq_true] at hl
    obtain ⟨i1, i2⟩ := flats_v h r hl.2 r2
    refine ⟨by simp [(flat_v hl.1 r1).1, i1], ?_⟩
    unfold inV at i2 ⊢
    unfold inD at i2 ⊢
    simp only [List.any_cons]
    rw [(flat_v h r).2 y u hl.1 r1, i2]
/-- is it in: a sign in a text, flat data in a list or a tuple -/
noncomputable def inB (v u : Vl) (S : Sta) : Option Bool := match v with
  | .d x => match u with
    | .d (.str z) => match x with
      | .str y => if y.cps.size = 1 then some (decide (y.cps[0]! ∈ z.cps.toList)) else none
      | _ => none
    | .d (.tup l) => if flatD x = true ∧ l.all flatD = true then some (inD x l) else none
    | u => match rdlOf u S with
      | some l => if flatD x = true ∧ l.all flatD = true then some (inD x l) else none
      | none => none
  | _ => none
noncomputable def inF (v u : Vl) (S : Sta) : Out Vl := match inB v u S with
  | some b => .ok (.d (.bl b)) S
  | none => .bad
noncomputable def notInF (v u : Vl) (S : Sta) : Out Vl := match inB v u S with
  | some b => .ok (.d (.bl (!b))) S
  | none => .bad
def rInAll (K : PySem.W.Frag) (neg : Bool) : R2 := fun x y H Q => (∃ (c : Nat) (z : Str), x = .str ⟨#[c]⟩ ∧ y = .str z ∧ Q (.bl (if neg = true then !decide (c ∈ z.cps.toList) else decide (c ∈ z.cps.toList))) H) ∨ rIn K neg x y H Q
theorem or_in {X : Cx} : OpR X (compareOp .In) (rInAll X.K false) := op_in_sign.or op_in_seq
theorem or_notIn {X : Cx} : OpR X (compareOp .NotIn) (rInAll X.K true) := op_notIn_sign.or op_notIn_seq
theorem one_sign {y : Str} (h : y.cps.size = 1) : y = ⟨#[y.cps[0]!]⟩ := by
  obtain ⟨⟨l⟩⟩ := y
  match l, h with
  | [c], _ => rfl
theorem in_read {neg : Bool} {W : WX} {σ : St} {wd H S v u x y Q b} (hh : HR g.K g.cls wd S H) (rv : RW g.K wd v x) (ru : RW g.K wd u y) (e : inB v u S = some b) (h : OkE g.K g.cls W σ wd Q (.ok (.d (.bl (if neg = true then !b else b))) S)) : rInAll g.K neg x y H Q := by
  have hQ : Q (.bl (if neg = true then !b else b)) H := h wd _ H (.refl _) hh rv_bl
  unfold inB at e
  split at e
  · rename_i x0
    split at e
    · rename_i z
      split at e
      · rename_i y0
        split at e
        · rename_i c
          cases e
          have e1 := rd_str rv
          have e2 := rd_str ru
          refine .inl ⟨y0.cps[0]!, z, ?_, e2.1, hQ⟩
          rw [e1.1]; exact congrArg V.str (one_sign c)
        · cases e
      · cases e
    · rename_i l
      split at e
      · rename_i c
        cases e
        obtain ⟨a, vs, rfl, t, rr⟩ := tup_at hh ru rfl
        obtain ⟨f1, f2⟩ := flats_v c.1 rv c.2 rr
        exact .inr ⟨a, vs, rfl, .inr t, (flat_v c.1 rv).1, f1, by rw [f2]; exact hQ⟩
      · cases e
    · split at e
      · rename_i l el
        split at e
        · rename_i c
          cases e
          obtain ⟨a, vs, rfl, t, rr⟩ := rdl_at hh ru el
          obtain ⟨f1, f2⟩ := flats_v c.1 rv c.2 rr
          exact .inr ⟨a, vs, rfl, .inl t, (flat_v c.1 rv).1, f1, by rw [f2]; exact hQ⟩
        · cases e
      · cases e
  · cases e
theorem opd_in : OpD g (rInAll g.K false) inF := by
  intro W σ wd H S v u x y Q hh rv ru h
  unfold inF at h
  split at h
  · rename_i b e
    exact in_read (neg := false) (W := W) (σ := σ) hh rv ru e h
  · exact h.elim
theorem opd_notIn : OpD g (rInAll g.K true) notInF := by
  intro W σ wd H S v u x y Q hh rv ru h
  unfold notInF at h
  split at h
  · rename_i b e
    exact in_read (neg := true) (W := W) (σ := σ) hh rv ru e h
  · exact h.elim
/-! ### is None -/
def isNon : D → Bool
  | .non => true
  | _ => false
def isNF : Vl → Vl → Sta → Out Vl
  | .d x, .d .non, S => .ok (.d (.bl (isNon x))) S
  | .box _, .d .non, S => .ok (.d (.bl false)) S
  | _, _, _ => .bad
def notNF : Vl → Vl → Sta → Out Vl
  | .d x, .d .non, S => .ok (.d (.bl (!isNon x))) S
  | .box _, .d .non, S => .ok (.d (.bl true)) S
  | _, _, _ => .bad
theorem non_iff {K wd x v} (r : RD K wd x v) : decide (v = .non) = isNon x := by
  cases x <;> simp only [RD] at r <;> first | (subst r; rfl) | (obtain ⟨e, _⟩ := r; subst e; rfl) | (obtain ⟨a, b, e, _⟩ := r; subst e; rfl) | (obtain ⟨a, e, _⟩ := r; subst e; rfl)
theorem opd_isN : OpD g (fun x y H Q => y = .non ∧ Q (.bl (decide (x = .non))) H) isNF := by
  intro W σ wd H S v u x y Q hh rv ru h
  unfold isNF at h
  split at h
  · exact ⟨rd_non ru, by rw [non_iff rv]; exact h wd _ H (.refl _) hh rv_bl⟩
  · obtain ⟨a, rfl, _⟩ := rv
    exact ⟨rd_non ru, h wd _ H (.refl _) hh rv_bl⟩
  · exact h.elim
theorem opd_notN : OpD g (fun x y H Q => y = .non ∧ Q (.bl (!decide (x = .non))) H) notNF := by
  intro W σ wd H S v u x y Q hh rv ru h
  unfold notNF at h
  split at h
  · rename_i x0
    refine ⟨rd_non ru, ?_⟩
    rw [non_iff rv]
    exact h wd _ H (.refl _) hh rv_bl
  · obtain ⟨a, rfl, _⟩ := rv
    exact ⟨rd_non ru, h wd _ H (.refl _) hh rv_bl⟩
  · exact h.elim

/-! ### the judgements -/
variable {a b e : Expr} {Ta Tb T : EV} {pos : Pos}
theorem je_add (ha : JE g a Ta) (hb : JE g b Tb) : JE g (.BinOp a .Add b pos) (eBin addF Ta Tb) := je_bin (fun X hX => hX.K ▸ or_add) opd_add ha hb
theorem je_sub (ha : JE g a Ta) (hb : JE g b Tb) : JE g (.BinOp a .Sub b pos) (eBin subF Ta Tb) := je_bin (fun X hX => op_sub) opd_sub ha hb
theorem je_mul (ha : JE g a Ta) (hb : JE g b Tb) : JE g (.BinOp a .Mult b pos) (eBin mulF Ta Tb) := je_bin (fun X hX => op_mulW) opd_mul ha hb
theorem je_mod (ha : JE g a Ta) (hb : JE g b Tb) : JE g (.BinOp a .Mod b pos) (eBin modF Ta Tb) := je_bin (fun X hX => op_mod) opd_mod ha hb
theorem je_div (ha : JE g a Ta) (hb : JE g b Tb) : JE g (.BinOp a .FloorDiv b pos) (eBin divF Ta Tb) := je_bin (fun X hX => op_fdivW) opd_div ha hb
theorem je_pow (ha : JE g a Ta) (hb : JE g b Tb) : JE g (.BinOp a .Pow b pos) (eBin powF Ta Tb) := je_bin (fun X hX => op_pow) opd_pow ha hb
theorem je_lt (ha : JE g a Ta) (hb : JE g b Tb) : JE g (.Compare a [.Lt] [b] pos) (eBin ltF Ta Tb) := je_cmp (fun X hX => op_lt) opd_lt ha hb
theorem je_le (ha : JE g a Ta) (hb : JE g b Tb) : JE g (.Compare a [.LtE] [b] pos) (eBin leF Ta Tb) := je_cmp (fun X hX => op_le) opd_le ha hb
theorem je_gt (ha : JE g a Ta) (hb : JE g b Tb) : JE g (.Compare a [.Gt] [b] pos) (eBin gtF Ta Tb) := je_cmp (fun X hX => op_gt) opd_gt ha hb
theorem je_ge (ha : JE g a Ta) (hb : JE g b Tb) : JE g (.Compare a [.GtE] [b] pos) (eBin geF Ta Tb) := je_cmp (fun X hX => op_ge) opd_ge ha hb
theorem je_eq (ha : JE g a Ta) (hb : JE g b Tb) : JE g (.Compare a [.Eq] [b] pos) (eBin eqF Ta Tb) := je_cmp (fun X hX => hX.K ▸ op_eqD hX.room.units) opd_eq ha hb
theorem je_ne (ha : JE g a Ta) (hb : JE g b Tb) : JE g (.Compare a [.NotEq] [b] pos) (eBin neF Ta Tb) := je_cmp (fun X hX => hX.K ▸ op_neD hX.room.units) opd_ne ha hb
theorem je_in (ha : JE g a Ta) (hb : JE g b Tb) (hm : behindInMarks .In b = false := by rfl) : JE g (.Compare a [.In] [b] pos) (eBin inF Ta Tb) := je_cmp (fun X hX => hX.K ▸ or_in) opd_in ha hb hm
theorem je_notIn (ha : JE g a Ta) (hb : JE g b Tb) (hm : behindInMarks .NotIn b = false := by rfl) : JE g (.Compare a [.NotIn] [b] pos) (eBin notInF Ta Tb) := je_cmp (fun X hX => hX.K ▸ or_notIn) opd_notIn ha hb hm
theorem je_isN {j p} (ha : JE g a Ta) : JE g (.Compare a [.Is] [.Constant .none j p] pos) (eBin isNF Ta (eC .non)) := je_cmp (fun X hX => op_isN) opd_isN ha je_non
theorem je_notN {j p} (ha : JE g a Ta) : JE g (.Compare a [.IsNot] [.Constant .none j p] pos) (eBin notNF Ta (eC .non)) := je_cmp (fun X hX => op_notN) opd_notN ha je_non
theorem jt_lt (ha : JE g a Ta) (hb : JE g b Tb) : JT g (.Compare a [.Lt] [b] pos) (tOf (eBin ltF Ta Tb)) := jt_cmp (fun X hX => op_lt) opd_lt ha hb
theorem jt_le (ha : JE g a Ta) (hb : JE g b Tb) : JT g (.Compare a [.LtE] [b] pos) (tOf (eBin leF Ta Tb)) := jt_cmp (fun X hX => op_le) opd_le ha hb
theorem jt_gt (ha : JE g a Ta) (hb : JE g b Tb) : JT g (.Compare a [.Gt] [b] pos) (tOf (eBin gtF Ta Tb)) := jt_cmp (fun X hX => op_gt) opd_gt ha hb
theorem jt_ge (ha : JE g a Ta) (hb : JE g b Tb) : JT g (.Compare a [.GtE] [b] pos) (tOf (eBin geF Ta Tb)) := jt_cmp (fun X hX => op_ge) opd_ge ha hb
theorem jt_eq (ha : JE g a Ta) (hb : JE g b Tb) : JT g (.Compare a [.Eq] [b] pos) (tOf (eBin eqF Ta Tb)) := jt_cmp (fun X hX => hX.K ▸ op_eqD hX.room.units) opd_eq ha hb
theorem jt_ne (ha : JE g a Ta) (hb : JE g b Tb) : JT g (.Compare a [.NotEq] [b] pos) (tOf (eBin neF Ta Tb)) := jt_cmp (fun X hX => hX.K ▸ op_neD hX.room.units) opd_ne ha hb
theorem jt_in (ha : JE g a Ta) (hb : JE g b Tb) (hm : behindInMarks .In b = false := by rfl) : JT g (.Compare a [.In] [b] pos) (tOf (eBin inF Ta Tb)) := jt_cmp (fun X hX => hX.K ▸ or_in) opd_in ha hb hm
theorem jt_notIn (ha : JE g a Ta) (hb : JE g b Tb) (hm : behindInMarks .NotIn b = false := by rfl) : JT g (.Compare a [.NotIn] [b] pos) (tOf (eBin notInF Ta Tb)) := jt_cmp (fun X hX => hX.K ▸ or_notIn) opd_notIn ha hb hm
theorem jt_isN {j p} (ha : JE g a Ta) : JT g (.Compare a [.Is] [.Constant .none j p] pos) (tOf (eBin isNF Ta (eC .non))) := jt_cmp (fun X hX => op_isN) opd_isN ha je_non
theorem jt_notN {j p} (ha : JE g a Ta) : JT g (.Compare a [.IsNot] [.Constant .none j p] pos) (tOf (eBin notNF Ta (eC .non))) := jt_cmp (fun X hX => op_notN) opd_notN ha je_non
/-- -n -/
def negF : Vl → Sta → Out Vl
  | .d (.int i), S => .ok (.d (.int (-i))) S
  | _, _ => .bad
@[simp] noncomputable def eUn (f : Vl → Sta → Out Vl) (T : EV) : EV := fun σ S => (T σ S).bind fun v S1 => f (frz v) S1
theorem un_read {r : V → Hp → VK → Prop} {f : Vl → Sta → Out Vl} (hf : ∀ (W : WX) (σ : St) (wd : Wd) (H : Hp) (S : Sta) (v : Vl) (x : V) (Q : VK), HR g.K g.cls wd S H → RW g.K wd v x → OkE g.K g.cls W σ wd Q (f v S) → r x H Q)
    {W : WX} {σ : St} {H : Hp} {Q : VK} (h : LE g.K g.cls W (eUn f T) σ H Q) : LE g.K g.cls W T σ H (fun x H1 => r x H1 Q) := by
  obtain ⟨wd, σ', S, hs, hh, h⟩ := h
  refine ⟨wd, σ', S, hs, hh, ?_⟩
  have h1 := OkE_opd (F := f) h
  revert h1
  cases T σ' S with
  | ok v S1 =>
    intro h1 wd1 x H1 l hr rv
    obtain ⟨v', wd2, S2, l2, hr2, rw2, h2⟩ := h1 wd1 x H1 l hr rv
    exact hf W σ wd2 H1 S2 v' x Q hr2 rw2 h2
  | exc c fs S1 => intro h1; exact h1
  | bad => intro h1; exact h1
theorem je_neg (ha : JE g a Ta) : JE g (.UnaryOp .USub a pos) (eUn negF Ta) := fun X hX W tk => (pe_un un_neg (ha X hX W tk)).imp fun σ H Q h => un_read (fun W σ wd H S v x Q hh rv h => by
  unfold negF at h
  split at h
  · exact ⟨_, rd_int rv, h wd _ H (.refl _) hh rv_int⟩
  · exact h.elim) h
end
end Ev

set_option Elab.async false
set_option linter.all false
set_option maxRecDepth 100000
set_option maxHeartbeats 1000000
/-! Ev4: items, slices, built-in calls and methods, fields, calls of own defs. -/
namespace Ev
open PySem PySem.Spec PyProof.Rows L2
open Classical
section
variable {g : G} {pos : Pos} {a b e : Expr} {Ta Tb T : EV} {es : List Expr} {Ts : EVs}
/-! ### items -/
theorem RDs.at' {K wd} {xs : List D} {vs : List V} (h : RDs K wd xs vs) {i : Int} {x : D} (e : atI xs i = some x) : ∃ v, atI vs i = some v ∧ RD K wd x v := by
  unfold atI at e ⊢
  rw [h.length] at e
  cases q : ixN vs.length i with
  | none => rw [q] at e; cases e
  | some j =>
    rw [q] at e
    exact h.get' e
noncomputable def ixF (v u : Vl) (S : Sta) : Out Vl := match u with
  | .d (.int i) => match v with
    | .d (.str z) => if z.length ≤ sizeLine then match atI z.cps.toList i with
      | some c => .ok (.d (.str ⟨#[c]⟩)) S
      | none => .bad else .bad
    | .d (.tup l) => match atI l i with
      | some x => .ok (.d x) S
      | none => .bad
    | v => match rdlOf v S with
      | some l => match atI l i with
        | some x => .ok (.d x) S
        | none => .bad
      | none => .bad
  | _ => .bad
theorem atI_mem {α : Type} {l : List α} {i : Int} {x : α} (h : atI l i = some x) : x ∈ l := by
  obtain ⟨j, _, e, _⟩ := atI_get h
  exact List.mem_of_getElem? e
theorem strOk_iff {x : Str} : PyData.strOk x = true ↔ ∀ c ∈ x.cps.toList, c < 0x110000 := by
  unfold PyData.strOk
  rw [Array.all_eq_true]
  constructor
  · intro h c hc
    obtain ⟨i, hi, e⟩ := List.getElem_of_mem hc
    have := h i (by simpa using hi)
    simp at this e
    rw [e] at this
    exact this
  · intro h i hi
    have := h x.cps[i] (by simp)
    simpa using this
theorem opd_ix : OpD g (rIx g.K) ixF := by
  intro W σ wd H S v u x y Q hh rv ru h
  unfold ixF at h
  split at h
  · split at h
    · split at h
      · rename_i c
        split at h
        · rename_i z _ ch e
          refine .inr (.inr ⟨_, _, _, (rd_str rv).1, rd_int ru, c, e, h wd _ H (.refl _) hh (rv_str ?_)⟩)
          refine strOk_iff.mpr fun c hc => ?_
          have hc : c = ch := by simpa using hc
          subst hc
          exact strOk_iff.mp (rd_str rv).2 _ (atI_mem e)
        · exact h.elim
      · exact h.elim
    · split at h
      · rename_i e
        obtain ⟨a, vs, rfl, t, rr⟩ := tup_at hh rv rfl
        obtain ⟨w, ew, rw'⟩ := rr.at' e
        exact .inr (.inl ⟨a, vs, _, w, rfl, rd_int ru, t, ew, h wd _ H (.refl _) hh rw'⟩)
      · exact h.elim
    · split at h
      · rename_i l el
        split at h
        · rename_i e
          obtain ⟨a, vs, rfl, t, rr⟩ := rdl_at hh rv el
          obtain ⟨w, ew, rw'⟩ := rr.at' e
          exact .inl ⟨a, vs, _, w, rfl, rd_int ru, t, ew, h wd _ H (.refl _) hh rw'⟩
        · exact h.elim
      · exact h.elim
  · exact h.elim
theorem je_ix (ha : JE g a Ta) (hb : JE g b Tb) (hs : PlainIx b := by intro _ _; rfl) : JE g (.Subscript a b pos) (eBin ixF Ta Tb) := fun X hX W tk =>
  (pe_ix (hX.K ▸ ix_seq) (ha X hX W tk) (hb X hX W tk) hs).imp fun σ H Q h => bin_read opd_ix h
/-! ### slices -/
abbrev OV := Sl → Sta → Out (Option Int)
@[simp] def oNone : OV := fun _ S => .ok none S
@[simp] noncomputable def oSome (T : EV) : OV := fun σ S => (T σ S).bind fun v S1 => match v with
  | .d (.int i) => .ok (some i) S1
  | _ => .bad
def OkO (K : PySem.W.Frag) (cls : String → Addr) (W : WX) (σ : St) (wd : Wd) (Q : Option Int → Hp → Prop) : Out (Option Int) → Prop
  | .ok b S1 => ∀ wd1 H1, wd.Le wd1 → HR K cls wd1 S1 H1 → Q b H1
  | .exc c fs S1 => ∀ wd1 H1 cv d, wd.Le wd1 → HR K cls wd1 S1 H1 → XR K cls wd1 H1 c fs cv d → W cv d σ H1
  | .bad => False
def LO (K : PySem.W.Frag) (cls : String → Addr) (W : WX) (T : OV) : TO := fun σ H Q => ∃ wd σ' S, SR K wd σ' σ ∧ HR K cls wd S H ∧ OkO K cls W σ wd Q (T σ' S)
def JO (g : G) (e : Option Expr) (T : OV) : Prop := ∀ X, Good g X → ∀ W, Takes X W → L2.PO X e (LO g.K g.cls W T)
theorem _root_.L2.PO.imp {X : Cx} {e : Option Expr} {t t' : TO} (h : L2.PO X e t) (i : ∀ σ H Q, t' σ H Q → t σ H Q) : L2.PO X e t' := ⟨fun pins s σ H Q I q => h.run pins s σ H Q I (i σ H Q q)⟩
theorem jo_none : JO g none oNone := fun X hX W tk => (po_none (X := X)).imp fun σ H Q h => by
  obtain ⟨wd, σ', S, hs, hh, h⟩ := h
  exact h wd H (.refl _) hh
theorem jo_some (h : JE g e T) : JO g (some e) (oSome T) := fun X hX W tk => (po_some (h X hX W tk)).imp fun σ H Q h => by
  obtain ⟨wd, σ', S, hs, hh, h⟩ := h
  refine ⟨wd, σ', S, hs, hh, ?_⟩
  revert h
  unfold oSome
  cases T σ' S with
  | ok v S1 =>
    intro h wd1 x H1 l hr rv
    dsimp only [Out.bind] at h
    split at h
    · rename_i i
      have e : x = .int i := by simpa [RV, RD] using rv
      exact ⟨i, e, h wd1 H1 l hr⟩
    · exact h.elim
  | exc c fs S1 => intro h; exact h
  | bad => intro h; exact h
def cut {α : Type} (xs : List α) (lo hi : Option Int) : List α := (xs.drop (HT.sIx xs.length 0 lo)).take (HT.sIx xs.length xs.length hi - HT.sIx xs.length 0 lo)
theorem RDs.cut {K wd} {xs : List D} {vs : List V} (h : RDs K wd xs vs) (lo hi) : RDs K wd (cut xs lo hi) (cutV vs lo hi) := by
  unfold Ev.cut cutV
  rw [h.length]
  exact (h.drop _).take _
noncomputable def slF (v : Vl) (lo hi : Option Int) (S : Sta) : Out Vl := match v with
  | .d (.str z) => if z.length ≤ sizeLine then .ok (.d (.str (cutS z lo hi))) S else .bad
  | .d (.tup l) => .ok (.d (.tup (cut l lo hi))) S
  | v => match rdlOf v S with
    | some l => .ok (.new (cut l lo hi)) S
    | none => .bad
def rSlAll (K : PySem.W.Frag) : V → Option Int → Option Int → Hp → VK → Prop := fun x lo hi H Q => rSlS x lo hi H Q ∨ rSlA K x lo hi H Q ∨ rSlL K x lo hi H Q
theorem sl_all {X : Cx} : SlR X (rSlAll X.K) := sl_str.or (sl_tupA.or sl_list)
theorem sl_read {W : WX} {σ : St} {wd H S v x lo hi Q} (hh : HR g.K g.cls wd S H) (rv : RW g.K wd v x) (h : OkE g.K g.cls W σ wd Q (slF v lo hi S)) : rSlAll g.K x lo hi H Q := by
  unfold slF at h
  split at h
  · split at h
    · rename_i z c
      refine .inl ⟨_, (rd_str rv).1, c, h wd _ H (.refl _) hh (rv_str ?_)⟩
      refine strOk_iff.mpr fun c hc => ?_
      unfold cutS at hc
      rw [List.toList_toArray] at hc
      exact strOk_iff.mp (rd_str rv).2 c (List.mem_of_mem_drop (List.mem_of_mem_take hc))
    · exact h.elim
  · rename_i l
    obtain ⟨a, vs, rfl, t, rr⟩ := tup_at hh rv rfl
    refine .inr (.inl ⟨a, vs, rfl, t, fun z => ?_, fun _ p hp => ?_⟩)
    · have e : cut l lo hi = l := by
        rw [← rr.length] at z
        unfold cut
        rw [z.1, z.2, List.drop_zero, Nat.sub_zero, List.take_length]
      rw [e] at h
      exact h wd _ H (.refl _) hh rv
    · obtain ⟨wd1, l1, h1, r1⟩ := hh.newTup hp (rr.cut lo hi)
      exact h wd1 _ _ l1 h1 r1
  · split at h
    · rename_i l el
      obtain ⟨a, vs, rfl, t, rr⟩ := rdl_at hh rv el
      refine .inr (.inr ⟨a, vs, rfl, t, fun p hp => ?_⟩)
      obtain ⟨h1, r1⟩ := hh.newLst hp (rr.cut lo hi)
      exact h wd _ _ (.refl _) h1 r1
    · exact h.elim
@[simp] noncomputable def eSl (T : EV) (L U : OV) : EV := fun σ S => (T σ S).bind fun v S1 => (L σ S1).bind fun lo S2 => (U σ S2).bind fun hi S3 => slF (frz v) lo hi S3
theorem OkO_bind {W : WX} {σ : St} {wd : Wd} {T : Out (Option Int)} {F : Option Int → Sta → Out Vl} {Q : VK} (h : OkE g.K g.cls W σ wd Q (T.bind F)) :
    OkO g.K g.cls W σ wd (fun b H1 => ∃ wd1 S1, wd.Le wd1 ∧ HR g.K g.cls wd1 S1 H1 ∧ OkE g.K g.cls W σ wd1 Q (F b S1)) T := by
  cases T with
  | ok v S1 => exact fun wd1 H1 l hr => ⟨wd1, S1, l, hr, OkE.mono l h⟩
  | exc c fs S1 => exact h
  | bad => exact h
theorem je_sl {lo hi : Option Expr} {L U : OV} {p2 : Pos} (ha : JE g a T) (hl : JO g lo L) (hu : JO g hi U) : JE g (.Subscript a (.Slice lo hi none p2) pos) (eSl T L U) := fun X hX W tk =>
  (pe_slice (hX.K ▸ sl_all) (ha X hX W tk) (hl X hX W tk) (hu X hX W tk)).imp fun σ H Q h => by
    obtain ⟨wd, σ', S, hs, hh, h⟩ := h
    refine ⟨wd, σ', S, hs, hh, ?_⟩
    have h1 := OkE_opd (F := fun v S1 => (L σ' S1).bind fun lo S2 => (U σ' S2).bind fun hi S3 => slF v lo hi S3) h
    revert h1
    cases T σ' S with
    | ok v S1 =>
      intro h1 wd1 x H1 l hr rv
      obtain ⟨v', wd2, S2, l2, hr2, rw2, h2⟩ := h1 wd1 x H1 l hr rv
      refine ⟨wd2, σ', S2, hs.mono l2, hr2, ?_⟩
      have h3 := OkO_bind h2
      revert h3
      cases L σ' S2 with
      | ok lo S3 =>
        intro h3 wd3 H3 l3 hr3
        obtain ⟨wd4, S4, l4, hr4, h4⟩ := h3 wd3 H3 l3 hr3
        refine ⟨wd4, σ', S4, (hs.mono l2).mono l4, hr4, ?_⟩
        have h5 := OkO_bind h4
        revert h5
        cases U σ' S4 with
        | ok hi S5 =>
          intro h5 wd5 H5 l5 hr5
          obtain ⟨wd6, S6, l6, hr6, h6⟩ := h5 wd5 H5 l5 hr5
          exact sl_read hr6 ((rw2.mono l4).mono l6) h6
        | exc c fs S1 => intro h; exact h
        | bad => intro h; exact h
      | exc c fs S1 => intro h; exact h
      | bad => intro h; exact h
    | exc c fs S1 => intro h; exact h
    | bad => intro h; exact h

/-! ### built-in calls -/
def CallD (g : G) (r : List V → Hp → VK → Prop) (f : List Vl → Sta → Out Vl) : Prop := ∀ (W : WX) (σ : St) (wd : Wd) (H : Hp) (S : Sta) (vs : List Vl) (xs : List V) (Q : VK),
  HR g.K g.cls wd S H → RWs g.K wd vs xs → OkE g.K g.cls W σ wd Q (f vs S) → r xs H Q
@[simp] noncomputable def eCall (f : List Vl → Sta → Out Vl) (Ts : EVs) : EV := fun σ S => (Ts σ S).bind f
theorem call_read {r : List V → Hp → VK → Prop} {f} (hf : CallD g r f) {W : WX} {σ : St} {H : Hp} {Q : VK} (h : LE g.K g.cls W (eCall f Ts) σ H Q) : LA g.K g.cls W Ts σ H fun xs H1 => r xs H1 Q := by
  obtain ⟨wd, σ', S, hs, hh, h⟩ := h
  refine ⟨wd, σ', S, hs, hh, ?_⟩
  have h1 := OkA_bindE h
  revert h1
  cases Ts σ' S with
  | ok v S1 =>
    intro h1 wd1 x H1 l hr rv
    obtain ⟨v', wd2, S2, l2, hr2, rw2, h2⟩ := h1 wd1 x H1 l hr rv
    exact hf W σ wd2 H1 S2 v' x Q hr2 rw2 h2
  | exc c fs S1 => intro h1; exact h1
  | bad => intro h1; exact h1
theorem je_callB {id : String} {r f} {x : Str} {p : Pos} (hc : ∀ X, Good g X → CallR X (.builtin id) r) (hf : CallD g r f) (hg : GlS g x) (hm : g.mg x = none) (hv : bootBuiltins x = some (.builtin id)) (ha : JA g (e :: es) Ts)
    (hn : x ≠ "__name__" := by decide) (hdb : (x == ("__debug__" : Str)) = false := by decide) (he : ∀ env, starEach (e :: es) env = (false, eval e env) :: starEach es env := by intro _; rfl) (hp : ∀ env, (backTo pos (starEach es env)).any (·.1) = false := by intro _; rfl) :
    JE g (.Call (.Name x p) (e :: es) [] pos) (eCall f Ts) := fun X hX W tk =>
  (pe_callB (hc X hX) (gl_of hX hg) (by rw [hX.mg]; exact hm) hv (ha X hX W tk) hn hdb (he X.env) (hp X.env)).imp fun σ H Q h => call_read hf h
theorem je_callTy {ty : String} {r f} {x : Str} {p : Pos} (hc : ∀ X, Good g X → CallR X (.type ty) r) (hf : CallD g r f) (hg : GlS g x) (hm : g.mg x = none) (hv : bootBuiltins x = some (.type ty)) (ha : JA g (e :: es) Ts)
    (hn : x ≠ "__name__" := by decide) (hdb : (x == ("__debug__" : Str)) = false := by decide) (he : ∀ env, starEach (e :: es) env = (false, eval e env) :: starEach es env := by intro _; rfl) (hp : ∀ env, (backTo pos (starEach es env)).any (·.1) = false := by intro _; rfl) :
    JE g (.Call (.Name x p) (e :: es) [] pos) (eCall f Ts) := fun X hX W tk =>
  (pe_callTy (hc X hX) (gl_of hX hg) (by rw [hX.mg]; exact hm) hv (ha X hX W tk) hn hdb (he X.env) (hp X.env)).imp fun σ H Q h => call_read hf h
theorem rws1 {K wd v xs} (r : RWs K wd [v] xs) : ∃ x, xs = [x] ∧ RW K wd v x := by
  obtain ⟨x, xr, rfl, r1, r2⟩ := r
  have : xr = [] := r2
  subst this
  exact ⟨x, rfl, r1⟩
/-- len -/
noncomputable def lenF (vs : List Vl) (S : Sta) : Out Vl := match vs with
  | [v] => match v with
    | .d (.str z) => if z.length ≤ sizeLine then .ok (.d (.int z.length)) S else .bad
    | .d (.tup l) => .ok (.d (.int l.length)) S
    | v => match rdlOf v S with
      | some l => .ok (.d (.int l.length)) S
      | none => .bad
  | _ => .bad
theorem call_lenD' : CallD g (fun xs H Q => ∃ x n, xs = [x] ∧ LenV g.K x H n ∧ Q (.int n) H) lenF := by
  intro W σ wd H S vs xs Q hh r h
  unfold lenF at h
  split at h
  · obtain ⟨x, rfl, rv⟩ := rws1 r
    split at h
    · split at h
      · rename_i c
        have e := (rd_str rv).1
        subst e
        exact ⟨_, _, rfl, ⟨c, rfl⟩, h wd _ H (.refl _) hh rv_int⟩
      · exact h.elim
    · obtain ⟨a, vs, rfl, t, rr⟩ := tup_at hh rv rfl
      exact ⟨_, vs.length, rfl, .inr ⟨vs, t, rfl⟩, by rw [← rr.length]; exact h wd _ H (.refl _) hh rv_int⟩
    · split at h
      · rename_i l el
        obtain ⟨a, vs, rfl, t, rr⟩ := rdl_at hh rv el
        exact ⟨_, vs.length, rfl, .inl ⟨vs, t, rfl⟩, by rw [← rr.length]; exact h wd _ H (.refl _) hh rv_int⟩
      · exact h.elim
  · exact h.elim
theorem je_len {p : Pos} (hg : GlS g "len") (hm : g.mg "len" = none) (ha : JA g [e] Ts) (he : ∀ env, starEach [e] env = (false, eval e env) :: starEach [] env := by intro _; rfl) : JE g (.Call (.Name "len" p) [e] [] pos) (eCall lenF Ts) :=
  je_callB (fun X hX => hX.K ▸ call_len) call_lenD' hg hm PySem.boot_len ha (he := he)
/-- int of an int or a truth -/
def intF (vs : List Vl) (S : Sta) : Out Vl := match vs with
  | [.d (.int i)] => .ok (.d (.int i)) S
  | [.d (.bl k)] => .ok (.d (.int (if k then 1 else 0))) S
  | _ => .bad
theorem call_intD : CallD g (fun xs H Q => (∃ i, xs = [.int i] ∧ Q (.int i) H) ∨ ∃ k, xs = [.bl k] ∧ Q (.int (if k then 1 else 0)) H) intF := by
  intro W σ wd H S vs xs Q hh r h
  unfold intF at h
  split at h
  · obtain ⟨x, rfl, rv⟩ := rws1 r
    exact .inl ⟨_, by rw [rd_int rv], h wd _ H (.refl _) hh rv_int⟩
  · obtain ⟨x, rfl, rv⟩ := rws1 r
    exact .inr ⟨_, by rw [rd_bl rv], h wd _ H (.refl _) hh rv_int⟩
  · exact h.elim
theorem je_int1 {p : Pos} (hg : GlS g "int") (hm : g.mg "int" = none) (ha : JA g [e] Ts) (he : ∀ env, starEach [e] env = (false, eval e env) :: starEach [] env := by intro _; rfl) : JE g (.Call (.Name "int" p) [e] [] pos) (eCall intF Ts) :=
  je_callTy (fun X hX => call_int1) call_intD hg hm (by decide +kernel) ha (he := he)
/-- tuple of a list or a tuple -/
noncomputable def tupleF (vs : List Vl) (S : Sta) : Out Vl := match vs with
  | [v] => match v with
    | .d (.tup l) => .ok (.d (.tup l)) S
    | v => match rdlOf v S with
      | some l => .ok (.d (.tup l)) S
      | none => .bad
  | _ => .bad
theorem call_tupleD : CallD g (fun xs H Q => ∃ p ys, xs = [.ref p] ∧ ((SqL g.K H p ys ∧ ∀ l, H l = none → Q (.ref l) (upd H l (.tup ys))) ∨ (SqT g.K H p ys ∧ Q (.ref p) H))) tupleF := by
  intro W σ wd H S vs xs Q hh r h
  unfold tupleF at h
  split at h
  · obtain ⟨x, rfl, rv⟩ := rws1 r
    split at h
    · obtain ⟨a, vs, rfl, t, rr⟩ := tup_at hh rv rfl
      exact ⟨a, vs, rfl, .inr ⟨t, h wd _ H (.refl _) hh rv⟩⟩
    · split at h
      · rename_i l el
        obtain ⟨a, vs, rfl, t, rr⟩ := rdl_at hh rv el
        refine ⟨a, vs, rfl, .inl ⟨t, fun p hp => ?_⟩⟩
        obtain ⟨wd1, l1, h1, r1⟩ := hh.newTup hp rr
        exact h wd1 _ _ l1 h1 r1
      · exact h.elim
  · exact h.elim
theorem je_tuple {p : Pos} (hg : GlS g "tuple") (hm : g.mg "tuple" = none) (ha : JA g [e] Ts) (he : ∀ env, starEach [e] env = (false, eval e env) :: starEach [] env := by intro _; rfl) : JE g (.Call (.Name "tuple" p) [e] [] pos) (eCall tupleF Ts) :=
  je_callTy (fun X hX => hX.K ▸ call_tuple_of) call_tupleD hg hm (by decide +kernel) ha (he := he)
/-- list of a list or a tuple -/
noncomputable def listF (vs : List Vl) (S : Sta) : Out Vl := match vs with
  | [v] => match v with
    | .d (.tup l) => .ok (.new l) S
    | v => match rdlOf v S with
      | some l => .ok (.new l) S
      | none => .bad
  | _ => .bad
theorem call_listD : CallD g (fun xs H Q => ∃ p ys, xs = [.ref p] ∧ (SqL g.K H p ys ∨ SqT g.K H p ys) ∧ ∀ l, H l = none → Q (.ref l) (upd H l (.lst ys))) listF := by
  intro W σ wd H S vs xs Q hh r h
  unfold listF at h
  split at h
  · obtain ⟨x, rfl, rv⟩ := rws1 r
    split at h
    · obtain ⟨a, vs, rfl, t, rr⟩ := tup_at hh rv rfl
      refine ⟨a, vs, rfl, .inr t, fun p hp => ?_⟩
      obtain ⟨h1, r1⟩ := hh.newLst hp rr
      exact h wd _ _ (.refl _) h1 r1
    · split at h
      · rename_i l el
        obtain ⟨a, vs, rfl, t, rr⟩ := rdl_at hh rv el
        refine ⟨a, vs, rfl, .inl t, fun p hp => ?_⟩
        obtain ⟨h1, r1⟩ := hh.newLst hp rr
        exact h wd _ _ (.refl _) h1 r1
      · exact h.elim
  · exact h.elim
theorem je_list {p : Pos} (hg : GlS g "list") (hm : g.mg "list" = none) (ha : JA g [e] Ts) (he : ∀ env, starEach [e] env = (false, eval e env) :: starEach [] env := by intro _; rfl) : JE g (.Call (.Name "list" p) [e] [] pos) (eCall listF Ts) :=
  je_callTy (fun X hX => hX.K ▸ call_list_of) call_listD hg hm (by decide +kernel) ha (he := he)
/-- all, any of a list of truths -/
def blsOf : List D → Option (List Bool)
  | [] => some []
  | .bl b :: r => (blsOf r).map (b :: ·)
  | _ => none
theorem bls_v {K wd} : ∀ {l : List D} {vs : List V} {bs : List Bool}, RDs K wd l vs → blsOf l = some bs → vs = bs.map V.bl
  | [], vs, bs, r, e => by cases e; simpa [RDs] using r
  | x :: l, vs, bs, r, e => by
    simp only [RDs] at r
    obtain ⟨v, vr, rfl, r1, r2⟩ := r
    cases x <;> simp only [blsOf] at e <;> first | (cases e; done) | skip
    obtain ⟨bs', e1, rfl⟩ := Option.map_eq_some_iff.mp e
    simp only [RD] at r1
    rw [r1, bls_v r2 e1]; rfl
@[simp] theorem blsOf_map (bs : List Bool) : blsOf (bs.map D.bl) = some bs := by
  induction bs with
  | nil => rfl
  | cons b r ih => simp [blsOf, ih]
noncomputable def allF (vs : List Vl) (S : Sta) : Out Vl := match vs with
  | [v] => match rdlOf v S with
    | some l => match blsOf l with
      | some bs => .ok (.d (.bl (bs.all id))) S
      | none => .bad
    | none => .bad
  | _ => .bad
noncomputable def anyF (vs : List Vl) (S : Sta) : Out Vl := match vs with
  | [v] => match rdlOf v S with
    | some l => match blsOf l with
      | some bs => .ok (.d (.bl (bs.any id))) S
      | none => .bad
    | none => .bad
  | _ => .bad
theorem call_allD : CallD g (rAll g.K) allF := by
  intro W σ wd H S vs xs Q hh r h
  unfold allF at h
  split at h
  · obtain ⟨x, rfl, rv⟩ := rws1 r
    split at h
    · rename_i l el
      split at h
      · rename_i bs eb
        obtain ⟨a, vs, rfl, t, rr⟩ := rdl_at hh rv el
        exact ⟨a, bs, rfl, by rw [← bls_v rr eb]; exact t, h wd _ H (.refl _) hh rv_bl⟩
      · exact h.elim
    · exact h.elim
  · exact h.elim
theorem call_anyD : CallD g (rAny g.K) anyF := by
  intro W σ wd H S vs xs Q hh r h
  unfold anyF at h
  split at h
  · obtain ⟨x, rfl, rv⟩ := rws1 r
    split at h
    · rename_i l el
      split at h
      · rename_i bs eb
        obtain ⟨a, vs, rfl, t, rr⟩ := rdl_at hh rv el
        exact ⟨a, bs, rfl, by rw [← bls_v rr eb]; exact t, h wd _ H (.refl _) hh rv_bl⟩
      · exact h.elim
    · exact h.elim
  · exact h.elim
theorem je_all {p : Pos} (hg : GlS g "all") (hm : g.mg "all" = none) (ha : JA g [e] Ts) (he : ∀ env, starEach [e] env = (false, eval e env) :: starEach [] env := by intro _; rfl) : JE g (.Call (.Name "all" p) [e] [] pos) (eCall allF Ts) :=
  je_callB (fun X hX => hX.K ▸ cr_all hX.calm) call_allD hg hm (by decide +kernel) ha (he := he)
theorem je_any {p : Pos} (hg : GlS g "any") (hm : g.mg "any" = none) (ha : JA g [e] Ts) (he : ∀ env, starEach [e] env = (false, eval e env) :: starEach [] env := by intro _; rfl) : JE g (.Call (.Name "any" p) [e] [] pos) (eCall anyF Ts) :=
  je_callB (fun X hX => hX.K ▸ cr_any hX.calm) call_anyD hg hm (by decide +kernel) ha (he := he)
/-- isinstance(x, T), T a built-in class -/
noncomputable def tyN (v : Vl) (S : Sta) : Option String := match v with
  | .d .non => some "NoneType"
  | .d (.bl _) => some "bool"
  | .d (.int _) => some "int"
  | .d (.str _) => some "str"
  | .d (.tup _) => some "tuple"
  | .d (.scr _) => some "list"
  | .d (.obj i) => match S.P[i]? with
    | some (.dic _) => some "dict"
    | some (.dlk _) => some "dict"
    | _ => none
  | v => match lstOf v S with
    | some _ => some "list"
    | none => none
@[simp] theorem tyN_non (S : Sta) : tyN (.d .non) S = some "NoneType" := rfl
@[simp] theorem tyN_bl (b) (S : Sta) : tyN (.d (.bl b)) S = some "bool" := rfl
@[simp] theorem tyN_int (b) (S : Sta) : tyN (.d (.int b)) S = some "int" := rfl
@[simp] theorem tyN_str (b) (S : Sta) : tyN (.d (.str b)) S = some "str" := rfl
@[simp] theorem tyN_tup (b) (S : Sta) : tyN (.d (.tup b)) S = some "tuple" := rfl
@[simp] theorem tyN_lst (b) (S : Sta) : tyN (.d (.lst b)) S = some "list" := rfl
@[simp] theorem tyN_new (b) (S : Sta) : tyN (.new b) S = some "list" := rfl
theorem tyx {K cls wd H S v x t} (hh : HR K cls wd S H) (r : RW K wd v x) (e : tyN v S = some t) : TyX K H x (.type t) := by
  unfold tyN at e
  split at e
  · cases e; rw [rd_non r]; exact .base .non
  · cases e; rw [rd_bl r]; exact .base (.bl _)
  · cases e; rw [rd_int r]; exact .base (.int _)
  · cases e; rw [(rd_str r).1]; exact .base (.str _)
  · cases e
    simp only [RW, RD] at r
    obtain ⟨a, vs, rfl, t, rr⟩ := r
    rcases t with t | ⟨o, its, n, t, c, _⟩
    · exact .base (.tup (hh.fz a _ t))
    · exact .kTuple t c
  · cases e
    simp only [RW, RD] at r
    obtain ⟨a, vs, rfl, t, rr⟩ := r
    rcases t with ⟨o, t⟩ | ⟨o, its, n, t, c, _⟩
    · exact .base (.frz (hh.fz a _ t))
    · exact .kList t c
  · split at e
    · rename_i i _ kvs ei
      cases e
      simp only [RW, RD] at r
      obtain ⟨a, rfl, ea⟩ := r
      obtain ⟨a', ea', vk, hx, _⟩ := hh.ob i _ ei
      rw [ea] at ea'; cases ea'
      exact .base (.dK hx)
    · rename_i i _ kvs ei
      cases e
      simp only [RW, RD] at r
      obtain ⟨a, rfl, ea⟩ := r
      obtain ⟨a', ea', od, vk, hx, _⟩ := hh.ob i _ ei
      rw [ea] at ea'; cases ea'
      exact .fDict hx
    · cases e
  · split at e
    · rename_i l el
      cases e
      obtain ⟨a, vs, rfl, t, rr⟩ := lst_at hh r el
      exact .base (.lst t)
    · cases e
/-- the known answers -/
def isTab (a b : String) : Option Bool := match b with
  | "str" => match a with
    | "str" => some true
    | "NoneType" => some false
    | "bool" => some false
    | "int" => some false
    | "tuple" => some false
    | "list" => some false
    | "dict" => some false
    | _ => none
  | "tuple" => match a with
    | "tuple" => some true
    | "NoneType" => some false
    | "bool" => some false
    | "int" => some false
    | "str" => some false
    | "list" => some false
    | "dict" => some false
    | _ => none
  | "list" => match a with
    | "list" => some true
    | "NoneType" => some false
    | "bool" => some false
    | "int" => some false
    | "str" => some false
    | "tuple" => some false
    | "dict" => some false
    | _ => none
  | "bool" => match a with
    | "bool" => some true
    | "NoneType" => some false
    | "int" => some false
    | "str" => some false
    | "tuple" => some false
    | "list" => some false
    | "dict" => some false
    | _ => none
  | "int" => match a with
    | "int" => some true
    | "bool" => some true
    | "NoneType" => some false
    | "str" => some false
    | "tuple" => some false
    | "list" => some false
    | "dict" => some false
    | _ => none
  | _ => none
theorem isTab_ok {a b : String} {r : Bool} (h : isTab a b = some r) : kitB a b = some r := by
  unfold isTab at h
  split at h <;> first | (split at h <;> first | (cases h; decide +kernel) | cases h) | cases h
@[simp] noncomputable def eIsTy (n : String) (T : EV) : EV := eUn (fun v S => match tyN v S with
  | some t => match isTab t n with
    | some b => .ok (.d (.bl b)) S
    | none => .bad
  | none => .bad) T
theorem je_isTy {n : String} {x : Str} {p q : Pos} (hg : GlS g "isinstance") (hm : g.mg "isinstance" = none) (hg2 : GlS g x) (hm2 : g.mg x = none) (hv : bootBuiltins x = some (.type n)) (ha : JE g e T)
    (he : ∀ env, starEach [e, .Name x q] env = (false, eval e env) :: starEach [.Name x q] env := by intro _; rfl) (hn : x ≠ "__name__" := by decide) (hd : (x == ("__debug__" : Str)) = false := by decide) (hp : ∀ env, (backTo pos (starEach [.Name x q] env)).any (·.1) = false := by intro _; rfl)
    (he2 : ∀ env, starEach [.Name x q] env = (false, eval (.Name x q) env) :: starEach [] env := by intro _; rfl) :
    JE g (.Call (.Name "isinstance" p) [e, .Name x q] [] pos) (eIsTy n T) := fun X hX W tk =>
  (pe_callB call_isi (gl_of hX hg) (by rw [hX.mg]; exact hm) (by decide +kernel) (pa_cons (ha X hX W tk) (pa_cons (pe_bltn (gl_of hX hg2) (by rw [hX.mg]; exact hm2) hv (v := .ty n) rfl hn hd) pa_nil (he2 X.env)) (he X.env)) (by decide) (by decide) (he X.env) (hp X.env)).imp fun σ H Q h => by
    refine un_read (r := fun x H1 Q => rIsi X.K [x, .ty n] H1 Q) (fun W σ wd H S v x Q hh rv h => ?_) h
    split at h
    · rename_i t et
      split at h
      · rename_i b eb
        refine ⟨x, .ty n, .type t, .type n, b, rfl, .ty n, ?_, kit_ty (isTab_ok eb), h wd _ H (.refl _) hh rv_bl⟩
        rw [hX.K]; exact tyx hh rv et
      · exact h.elim
    · exact h.elim

/-! ### methods of lists and texts -/
theorem HR.setBox {K cls wd S H i l a vs l'} (h : HR K cls wd S H) (e : S.B[i]? = some (true, l)) (ea : wd.bx[i]? = some a) (r : RDs K wd l' vs) : HR K cls wd { S with B := S.B.set i (true, l') } (upd H a (.lst vs)) := by
  have hi : i < S.B.length := (List.getElem?_eq_some_iff.mp e).1
  obtain ⟨a', vs0, e1, e2, e3, _⟩ := h.live i l e
  rw [ea] at e1; cases e1
  have nfz : ∀ p o, wd.fz p = some o → p ≠ a := fun p o q z => by subst z; rw [e3] at q; cases q
  refine ⟨fun p o q => by rw [upd_ne (nfz p o q)]; exact h.fz p o q, by simpa using h.bn, fun j m q => ?_, fun j m q => ?_, h.bnd, h.on, h.ond, fun j o q => ?_, fun p hp => ?_, h.annd, h.nfz⟩
  · by_cases hj : j = i
    · subst hj; rw [List.getElem?_set_self hi] at q; cases q
      exact ⟨a, vs, ea, upd_same, e3, r⟩
    · rw [List.getElem?_set_ne (Ne.symm hj)] at q
      obtain ⟨b, us, q1, q2, q3, rr⟩ := h.live j m q
      refine ⟨b, us, q1, ?_, q3, rr⟩
      rw [upd_ne]; exact q2
      intro z; subst z; exact hj (nodupIx h.bnd q1 ea)
  · by_cases hj : j = i
    · subst hj; rw [List.getElem?_set_self hi] at q; cases q
    · rw [List.getElem?_set_ne (Ne.symm hj)] at q
      exact h.froz j m q
  · obtain ⟨b, q1, q2⟩ := h.ob j o q
    refine ⟨b, q1, q2.at_ne ?_⟩
    intro z; subst z
    cases o with
    | ins c fs => obtain ⟨dx, vfs, q3, _⟩ := q2; rw [e2] at q3; cases q3
    | dic kvs => obtain ⟨vk, q3, _⟩ := q2; rw [e2] at q3; cases q3
    | dlk kvs => obtain ⟨od, vk, q3, _⟩ := q2; rw [e2] at q3; cases q3
  · obtain ⟨q1, q2, q3⟩ := h.an p hp
    refine ⟨?_, q2, q3⟩
    rw [upd_ne]; exact q1
    intro z; rw [z] at q3; exact q3 (List.mem_of_getElem? ea)
@[simp] noncomputable def appendF (v u : Vl) (S : Sta) : Out Vl := match v with
  | .box i => match toD u S with
    | some (x, S2) => match S2.B[i]? with
      | some (true, l) => if l.length < sizeLine then .ok (.d .non) { S2 with B := S2.B.set i (true, l ++ [x]) } else .bad
      | _ => .bad
    | none => .bad
  | _ => .bad
@[simp] noncomputable def extendF (v u : Vl) (S : Sta) : Out Vl := match v with
  | .box i => match lstOf u S with
    | some m => match S.B[i]? with
      | some (true, l) => if l.length + m.length ≤ sizeLine then .ok (.d .non) { S with B := S.B.set i (true, l ++ m) } else .bad
      | _ => .bad
    | none => .bad
  | _ => .bad
noncomputable def boxOk (v : Vl) (S : Sta) : Bool := match v with
  | .box i => match S.B[i]? with
    | some _ => true
    | none => false
  | _ => false
/-- a method of a list in a box -/
@[simp] noncomputable def eLm (f : Vl → Vl → Sta → Out Vl) (To T : EV) : EV := fun σ S => (To σ S).bind fun v S1 => if boxOk v S1 = true then (T σ S1).bind fun u S2 => f (frz v) (frz u) S2 else .bad
theorem box_lst {K cls wd S H v x} (h : HR K cls wd S H) (r : RW K wd v x) (b : boxOk v S = true) : ∃ a vs, x = .ref a ∧ H a = some (.lst vs) := by
  unfold boxOk at b
  split at b
  · rename_i i
    obtain ⟨a, rfl, ea⟩ := r
    split at b
    · rename_i p e
      obtain ⟨k, l⟩ := p
      cases k with
      | true =>
        obtain ⟨a', vs, e1, e2, _⟩ := h.live i l e
        rw [ea] at e1; cases e1
        exact ⟨a, vs, rfl, e2⟩
      | false =>
        obtain ⟨a', vs, e1, e2, _⟩ := h.froz i l e
        rw [ea] at e1; cases e1
        exact ⟨a, vs, rfl, h.fz _ _ e2⟩
    · cases b
  · cases b
theorem je_lm {id : String} {name : Str} {apos cpos : Pos} {o : Expr} {To : EV} {r : V → List V → Hp → VK → Prop} {f} (slot : Slot "list" name id) (hty : typeOf (.builtin id) = pure (.type "method_descriptor")) (hm : ∀ X, Good g X → MtR X id r)
    (hf : OpD g (fun x y H Q => r x [y] H Q) f) (ho : JE g o To) (ha : JE g e T)
    (hbase : ∀ env, attributeBase o name env (eval o env) = eval o env := by intro _; rfl) (hline : (apos.endLine == cpos.line) = true := by rfl) (he : ∀ env, starEach [e] env = (false, eval e env) :: starEach [] env := by intro _; rfl) :
    JE g (.Call (.Attribute o name apos) [e] [] cpos) (eLm f To T) := fun X hX W tk => by
  have hall : (((backTo cpos (starEach [e] X.env)).all (fun x => !x.1) && (backToKw cpos (keywordEach [] X.env)).all fun x => x.1.isSome) && decide ([e].length + ([] : List Keyword).length + (if ([] : List Keyword).isEmpty = true then 0 else 1) < 30)) = true := by rw [he]; rfl
  refine (pe_bm PySem.F.plainAttrs_list slot hty (hm X hX) (ho X hX W tk) (pa_cons (ha X hX W tk) pa_nil (he X.env)) (hbase X.env) (by first | exact hall | (rw [he]; rfl)) hline (he X.env) (by rfl)).imp fun σ H Q h => ?_
  obtain ⟨wd, σ', S, hs, hh, h⟩ := h
  refine ⟨wd, σ', S, hs, hh, ?_⟩
  have h1 : OkE g.K g.cls W σ wd Q ((To σ' S).bind fun v S1 => if boxOk (frz v) S1 = true then (T σ' S1).bind fun u S2 => f (frz v) (frz u) S2 else .bad) := by
    unfold eLm at h
    revert h
    cases To σ' S with
    | ok v S1 => cases v <;> exact fun h => h
    | exc c fs S1 => exact fun h => h
    | bad => exact fun h => h
  have h1 := OkE_opd (F := fun v S1 => if boxOk v S1 = true then (T σ' S1).bind fun u S2 => f v (frz u) S2 else .bad) h1
  revert h1
  cases To σ' S with
  | ok v S1 =>
    intro h1 wd1 x H1 l hr rv
    obtain ⟨v', wd2, S2, l2, hr2, rw2, h2⟩ := h1 wd1 x H1 l hr rv
    split at h2
    · rename_i hb
      obtain ⟨a, vs, rfl, ha⟩ := box_lst hr2 rw2 hb
      refine ⟨.inl ⟨rfl, vs, .of ha⟩, ?_⟩
      refine ⟨wd2, σ', S2, hs.mono l2, hr2, ?_⟩
      have h3 := OkE_opd (F := fun u S2 => f v' u S2) h2
      revert h3
      cases T σ' S2 with
      | ok u S3 =>
        intro h3 wd3 y H3 l3 hr3 rv3
        obtain ⟨u', wd4, S4, l4, hr4, rw4, h4⟩ := h3 wd3 y H3 l3 hr3 rv3
        exact hf W σ wd4 H3 S4 v' u' _ y Q hr4 (rw2.mono l4) rw4 h4
      | exc c fs S3 => intro h3; exact h3
      | bad => intro h3; exact h3
    · exact h2.elim
  | exc c fs S1 => intro h1; exact h1
  | bad => intro h1; exact h1
theorem opd_append : OpD g (fun x y H Q => rAppend x [y] H Q) appendF := by
  intro W σ wd H S v u x y Q hh rv ru h
  unfold appendF at h
  split at h
  · rename_i i
    split at h
    · rename_i z S2 ez
      obtain ⟨wd1, l1, h1, r1⟩ := RW.toD hh ru ez
      split at h
      · rename_i l el
        split at h
        · rename_i hz
          obtain ⟨a, rfl, ea⟩ := rv.mono l1
          obtain ⟨a', vs, e1, e2, e3, rr⟩ := h1.live i l el
          rw [ea] at e1; cases e1
          refine ⟨a, vs, y, rfl, rfl, e2, by rw [← rr.length]; exact hz, ?_⟩
          exact h wd1 _ _ l1 (h1.setBox el ea (rr.append (.one r1))) rv_non
        · exact h.elim
      · exact h.elim
    · exact h.elim
  · exact h.elim
theorem opd_extend : OpD g (fun x y H Q => rExtend x [y] H Q) extendF := by
  intro W σ wd H S v u x y Q hh rv ru h
  unfold extendF at h
  split at h
  · rename_i i
    split at h
    · rename_i m em
      split at h
      · rename_i l el
        split at h
        · rename_i hz
          obtain ⟨a, rfl, ea⟩ := rv
          obtain ⟨a', vs, e1, e2, e3, rr⟩ := hh.live i l el
          rw [ea] at e1; cases e1
          obtain ⟨b, us, rfl, t, rr'⟩ := lst_at hh ru em
          refine ⟨a, b, vs, us, rfl, rfl, e2, t, by rw [← rr.length, ← rr'.length]; exact hz, ?_⟩
          exact h wd _ _ (.refl _) (hh.setBox el ea (rr.append rr')) rv_non
        · exact h.elim
      · exact h.elim
    · exact h.elim
  · exact h.elim
theorem je_append {apos cpos : Pos} {o : Expr} {To : EV} (ho : JE g o To) (ha : JE g e T) (hbase : ∀ env, attributeBase o "append" env (eval o env) = eval o env := by intro _; rfl) (hline : (apos.endLine == cpos.line) = true := by rfl) (he : ∀ env, starEach [e] env = (false, eval e env) :: starEach [] env := by intro _; rfl) :
    JE g (.Call (.Attribute o "append" apos) [e] [] cpos) (eLm appendF To T) := je_lm PySem.F.slot_list_append PySem.F.type_list_append (fun X hX => mt_append) opd_append ho ha hbase hline he
theorem je_extend {apos cpos : Pos} {o : Expr} {To : EV} (ho : JE g o To) (ha : JE g e T) (hbase : ∀ env, attributeBase o "extend" env (eval o env) = eval o env := by intro _; rfl) (hline : (apos.endLine == cpos.line) = true := by rfl) (he : ∀ env, starEach [e] env = (false, eval e env) :: starEach [] env := by intro _; rfl) :
    JE g (.Call (.Attribute o "extend" apos) [e] [] cpos) (eLm extendF To T) := je_lm PySem.F.slot_list_extend PySem.F.type_list_extend (fun X hX => mt_extend) opd_extend ho ha hbase hline he
/-- sep.join(texts) -/
def strsOf : List D → Option (List Str)
  | [] => some []
  | .str b :: r => (strsOf r).map (b :: ·)
  | _ => none
theorem strs_v {K wd} : ∀ {l : List D} {vs : List V} {bs : List Str}, RDs K wd l vs → strsOf l = some bs → vs = bs.map V.str ∧ ∀ b ∈ bs, PyData.strOk b = true
  | [], vs, bs, r, e => by cases e; simpa [RDs] using r
  | x :: l, vs, bs, r, e => by
    simp only [RDs] at r
    obtain ⟨v, vr, rfl, r1, r2⟩ := r
    cases x <;> simp only [strsOf] at e <;> first | (cases e; done) | skip
    obtain ⟨bs', e1, rfl⟩ := Option.map_eq_some_iff.mp e
    simp only [RD] at r1
    obtain ⟨i1, i2⟩ := strs_v r2 e1
    refine ⟨by rw [r1.1, i1]; rfl, fun b hb => ?_⟩
    rcases List.mem_cons.mp hb with rfl | hb
    · exact r1.2
    · exact i2 b hb
@[simp] theorem strsOf_map (bs : List Str) : strsOf (bs.map D.str) = some bs := by
  induction bs with
  | nil => rfl
  | cons b r ih => simp [strsOf, ih]
noncomputable def joinF (v u : Vl) (S : Sta) : Out Vl := match v with
  | .d (.str a) => match rdlOf u S with
    | some l => match strsOf l with
      | some ys => if (ys.map (·.length)).sum + ys.length * a.length ≤ 16777216 then .ok (.d (.str (Txt.join a ys))) S else .bad
      | none => .bad
    | none => .bad
  | _ => .bad
end
end Ev

set_option Elab.async false
set_option linter.all false
set_option maxRecDepth 100000
set_option maxHeartbeats 1000000
/-! Ev5: statements, loops. -/
namespace Ev
open PySem PySem.Spec PyProof.Rows L2
open Classical
@[simp] noncomputable def SOut.andThen (o : SOut) (f : SV) : SOut := match o with
  | .nxt σ S => f σ S
  | o => o
@[simp] noncomputable def Out.st (o : Out Vl) (σ : Sl) (f : Vl → Sta → SOut) : SOut := match o with
  | .ok v S => f v S
  | .exc c fs S => .exc c fs σ S
  | .bad => .bad
@[simp] noncomputable def Out.stB (o : Out Bool) (σ : Sl) (f : Bool → Sta → SOut) : SOut := match o with
  | .ok v S => f v S
  | .exc c fs S => .exc c fs σ S
  | .bad => .bad
section
variable {g : G} {pos : Pos} {a b e : Expr} {Ta Tb T : EV} {es : List Expr} {Ts : EVs} {st : Stmt} {rest : List Stmt} {A B : SV}
@[simp] def sNext : SV := fun σ S => .nxt σ S
@[simp] noncomputable def sSeq (A B : SV) : SV := fun σ S => (A σ S).andThen B
theorem OkS_andThen {W : WX} {wd : Wd} {E : Ends} {o : SOut} {f : SV} (h : OkS g.K g.cls W wd E (o.andThen f)) : OkS g.K g.cls W wd { E with nx := LS g.K g.cls W f E } o := by
  cases o with
  | nxt σ S => exact fun wd1 σ1 H1 l hs hr => ⟨wd1, σ, S, hs, hr, OkS.mono l h⟩
  | ret v S => exact h
  | brk σ S => exact h
  | cnt σ S => exact h
  | exc c fs σ S => exact h
  | bad => exact h
theorem jss_nil : JSs g [] sNext := fun X hX W tk => (pss_nil (X := X)).imp fun E σ H h => by
  obtain ⟨wd, σ', S, hs, hh, h⟩ := h
  exact h wd σ H (.refl _) hs hh
theorem jss_cons (h1 : JS g st A) (h2 : JSs g rest B) : JSs g (st :: rest) (sSeq A B) := fun X hX W tk => (pss_cons (h1 X hX W tk) (h2 X hX W tk)).imp fun E σ H h => by
  obtain ⟨wd, σ', S, hs, hh, h⟩ := h
  exact ⟨wd, σ', S, hs, hh, OkS_andThen h⟩
theorem jss_one (h1 : JS g st A) : JSs g [st] A := fun X hX W tk => pss_one (h1 X hX W tk)
@[simp] def sBad : SV := fun _ _ => .bad
theorem js_bad : JS g st sBad := fun X hX W tk => (ps_never (X := X)).imp fun E σ H h => by
  obtain ⟨wd, σ', S, hs, hh, h⟩ := h
  exact h
theorem js_pass : JS g (.Pass pos) sNext := fun X hX W tk => (ps_pass (X := X)).imp fun E σ H h => by
  obtain ⟨wd, σ', S, hs, hh, h⟩ := h
  exact h wd σ H (.refl _) hs hh
@[simp] def sBrk : SV := fun σ S => .brk σ S
@[simp] def sCnt : SV := fun σ S => .cnt σ S
theorem js_break : JS g (.Break pos) sBrk := fun X hX W tk => (ps_break (X := X)).imp fun E σ H h => by
  obtain ⟨wd, σ', S, hs, hh, h⟩ := h
  exact h wd σ H (.refl _) hs hh
theorem js_cont : JS g (.Continue pos) sCnt := fun X hX W tk => (ps_continue (X := X)).imp fun E σ H h => by
  obtain ⟨wd, σ', S, hs, hh, h⟩ := h
  exact h wd σ H (.refl _) hs hh
/-- from an expression's run to a statement's -/
theorem st_read {W : WX} {wd : Wd} {E : Ends} {σ' : Sl} {σ : St} {o : Out Vl} {f : Vl → Sta → SOut} (hs : SR g.K wd σ' σ) (h : OkS g.K g.cls W wd E (o.st σ' f)) :
    OkE g.K g.cls W σ wd (fun x H1 => ∃ v wd1 S1, wd.Le wd1 ∧ HR g.K g.cls wd1 S1 H1 ∧ RV g.K wd1 H1 v x ∧ OkS g.K g.cls W wd1 E (f v S1)) o := by
  cases o with
  | ok v S => exact fun wd1 x H1 l hr rv => ⟨v, wd1, S, l, hr, rv, OkS.mono l h⟩
  | exc c fs S => exact fun wd1 H1 cv d l hr hx => h wd1 σ H1 cv d l (hs.mono l) hr hx
  | bad => exact h
theorem stB_read {W : WX} {wd : Wd} {E : Ends} {σ' : Sl} {σ : St} {o : Out Bool} {f : Bool → Sta → SOut} (hs : SR g.K wd σ' σ) (h : OkS g.K g.cls W wd E (o.stB σ' f)) :
    OkT g.K g.cls W σ wd (fun b H1 => ∃ wd1 S1, wd.Le wd1 ∧ HR g.K g.cls wd1 S1 H1 ∧ OkS g.K g.cls W wd1 E (f b S1)) o := by
  cases o with
  | ok v S => exact fun wd1 H1 l hr => ⟨wd1, S, l, hr, OkS.mono l h⟩
  | exc c fs S => exact fun wd1 H1 cv d l hr hx => h wd1 σ H1 cv d l (hs.mono l) hr hx
  | bad => exact h
@[simp] noncomputable def sExpr (T : EV) : SV := fun σ S => (T σ S).st σ fun _ S1 => .nxt σ S1
theorem js_expr (h : JE g e T) (hs : ∀ env, swapsWith e none pos.line env = pure false := by intro _; rfl) : JS g (.Expr e pos) (sExpr T) := fun X hX W tk => (ps_expr (h X hX.toGood W tk) (hs X.env)).imp fun E σ H h => by
  obtain ⟨wd, σ', S, hs, hh, h⟩ := h
  refine ⟨wd, σ', S, hs, hh, ?_⟩
  have h1 := st_read hs h
  revert h1
  cases T σ' S with
  | ok v S1 =>
    intro h1 wd1 x H1 l hr rv
    obtain ⟨v', wd2, S2, l2, hr2, rw2, h2⟩ := h1 wd1 x H1 l hr rv
    exact h2 wd2 σ H1 (.refl _) (hs.mono l2) hr2
  | exc c fs S1 => intro h1; exact h1
  | bad => intro h1; exact h1
theorem js_doc {x j} {p : Pos} : JS g (.Expr (.Constant (.str x) j p) pos) sNext := fun X hX W tk => (ps_doc (X := X)).imp fun E σ H h => by
  obtain ⟨wd, σ', S, hs, hh, h⟩ := h
  exact h wd σ H (.refl _) hs hh
@[simp] noncomputable def sRet (T : EV) : SV := fun σ S => (T σ S).st σ fun v S1 => .ret v S1
theorem js_ret (h : JE g e T) : JS g (.Return (some e) pos) (sRet T) := fun X hX W tk => (ps_ret (h X hX.toGood W tk)).imp fun E σ H h => by
  obtain ⟨wd, σ', S, hs, hh, h⟩ := h
  refine ⟨wd, σ', S, hs, hh, ?_⟩
  have h1 := st_read hs h
  revert h1
  cases T σ' S with
  | ok v S1 =>
    intro h1 wd1 x H1 l hr rv
    obtain ⟨v', wd2, S2, l2, hr2, rw2, h2⟩ := h1 wd1 x H1 l hr rv
    exact h2 wd2 x H1 (.refl _) hr2 rw2
  | exc c fs S1 => intro h1; exact h1
  | bad => intro h1; exact h1
@[simp] def sRetN : SV := fun _ S => .ret (.d .non) S
theorem js_retN : JS g (.Return none pos) sRetN := fun X hX W tk => (ps_retN (X := X)).imp fun E σ H h => by
  obtain ⟨wd, σ', S, hs, hh, h⟩ := h
  exact h wd .non H (.refl _) hh (by simp [RV, RD])
@[simp] noncomputable def sIf (TA : TV) (A B : SV) : SV := fun σ S => (TA σ S).stB σ fun k S1 => if k = true then A σ S1 else B σ S1
theorem js_if {c : Expr} {p q : List Stmt} {TA : TV} (hc : JT g c TA) (ha : JSs g p A) (hb : JSs g q B) : JS g (.If c p q pos) (sIf TA A B) := fun X hX W tk => (ps_if (hc X hX.toGood W tk) (ha X hX W tk) (hb X hX W tk)).imp fun E σ H h => by
  obtain ⟨wd, σ', S, hs, hh, h⟩ := h
  refine ⟨wd, σ', S, hs, hh, ?_⟩
  have h1 := stB_read hs h
  revert h1
  cases TA σ' S with
  | ok v S1 =>
    intro h1 wd1 H1 l hr
    obtain ⟨wd2, S2, l2, hr2, h2⟩ := h1 wd1 H1 l hr
    cases v with
    | true => exact ⟨wd2, σ', S2, hs.mono l2, hr2, h2⟩
    | false => exact ⟨wd2, σ', S2, hs.mono l2, hr2, h2⟩
  | exc c fs S1 => intro h1; exact h1
  | bad => intro h1; exact h1

/-! ### names are set -/
theorem SR.set {K wd σ' σ} (h : SR K wd σ' σ) (i : Nat) {v x} (r : RW K wd v x) (hl : σ'.length = σ.length) : SR K wd (σ'.set i (some v)) (σ.set i (some x)) := fun j w e => by
  by_cases hj : j = i
  · subst hj
    have hlt : j < σ'.length := by
      have := (List.getElem?_eq_some_iff.mp e).1
      simpa using this
    rw [List.getElem?_set_self hlt] at e
    cases e
    exact ⟨x, by rw [List.getElem?_set_self (by omega)], r⟩
  · rw [List.getElem?_set_ne (Ne.symm hj)] at e
    obtain ⟨y, e1, r1⟩ := h j w e
    exact ⟨y, by rw [List.getElem?_set_ne (Ne.symm hj)]; exact e1, r1⟩
/-- slot i gets a value: nothing is said where the plain slots are short -/
def putS (σ : Sl) (i : Nat) (v : Vl) : Sl := σ.set i (some v)
theorem SR.put {K wd σ' σ} (h : SR K wd σ' σ) (i : Nat) {v x} (r : RW K wd v x) (hi : i < σ.length) : SR K wd (putS σ' i v) (σ.set i (some x)) := fun j w e => by
  unfold putS at e
  by_cases hj : j = i
  · subst hj
    have hlt : j < σ'.length := by
      have := (List.getElem?_eq_some_iff.mp e).1
      simpa using this
    rw [List.getElem?_set_self hlt] at e
    cases e
    exact ⟨x, by rw [List.getElem?_set_self hi], r⟩
  · rw [List.getElem?_set_ne (Ne.symm hj)] at e
    obtain ⟨y, e1, r1⟩ := h j w e
    exact ⟨y, by rw [List.getElem?_set_ne (Ne.symm hj)]; exact e1, r1⟩
/-- a name whose slot is not there in the frame: σ.set leaves all as it is; then the name is no name of N. To be sure the frame's slots are as many as N tells -/
def LenOk (g : G) (σ : St) : Prop := σ.length = g.N.length
@[simp] noncomputable def sSet (i : Nat) (T : EV) : SV := fun σ S => (T σ S).st σ fun v S1 => .nxt (σ.set i (some (frz v))) S1
/-- .. a list gets a box -/
@[simp] noncomputable def boxIn (σ : Sl) (i : Nat) (v : Vl) (S1 : Sta) : SOut := match v with
  | .new l => .nxt (σ.set i (some (.box S1.B.length))) { S1 with B := S1.B ++ [(true, l)] }
  | v => .nxt (σ.set i (some v)) S1
@[simp] noncomputable def sSetB (i : Nat) (T : EV) : SV := fun σ S => (T σ S).st σ fun v S1 => boxIn σ i v S1
/-- statements whose frame has the right number of slots -/
theorem _root_.L2.PS.len {X : Cx} {e : Stmt} {t t' : TS} (h : PS X e t) (i : ∀ E σ H, σ.length = X.N.length → t' E σ H → t E σ H) : PS X e t' := ⟨fun pins s σ H E I q => h.run pins s σ H E I (i E σ H I.len q)⟩
theorem HR.pushBox {K cls wd S H l a vs} (h : HR K cls wd S H) (e : H a = some (.lst vs)) (n : wd.fz a = none) (nb : a ∉ wd.bx) (na : a ∉ wd.an.map (·.1)) (r : RDs K wd l vs) :
    wd.Le { wd with bx := wd.bx ++ [a] } ∧ HR K cls { wd with bx := wd.bx ++ [a] } { S with B := S.B ++ [(true, l)] } H := by
  have le : wd.Le { wd with bx := wd.bx ++ [a] } := ⟨fun _ _ q => q, List.prefix_append _ _, List.prefix_refl _, rfl⟩
  refine ⟨le, ⟨h.fz, by simp [h.bn], fun i m q => ?_, fun i m q => ?_, ?_, h.on, h.ond, fun i o q => ?_, fun p hp => ?_, h.annd, h.nfz⟩⟩
  · by_cases hi : i < S.B.length
    · rw [List.getElem?_append_left hi] at q
      obtain ⟨b, us, e1, e2, e3, rr⟩ := h.live i m q
      exact ⟨b, us, pre_get le.bx e1, e2, e3, RDs.mono _ le _ _ rr⟩
    · have hi' : i = S.B.length := by
        have := (List.getElem?_eq_some_iff.mp q).1
        simp at this; omega
      subst hi'
      have q' : l = m := by simpa using q
      subst q'
      exact ⟨a, vs, by rw [h.bn]; simp, e, n, RDs.mono _ le _ _ r⟩
  · by_cases hi : i < S.B.length
    · rw [List.getElem?_append_left hi] at q
      obtain ⟨b, us, e1, e2, rr⟩ := h.froz i m q
      exact ⟨b, us, pre_get le.bx e1, e2, RDs.mono _ le _ _ rr⟩
    · have hi' : i = S.B.length := by
        have := (List.getElem?_eq_some_iff.mp q).1
        simp at this; omega
      subst hi'
      simp at q
  · exact List.nodup_append.mpr ⟨h.bnd, by simp, fun x hx y hy z => by
      have : y = a := by simpa using hy
      subst this; subst z; exact nb hx⟩
  · obtain ⟨b, e1, r1⟩ := h.ob i o q
    exact ⟨b, e1, r1.mono le⟩
  · obtain ⟨e1, e2, e3⟩ := h.an p hp
    refine ⟨e1, e2, fun z => ?_⟩
    rcases List.mem_append.mp z with z | z
    · exact e3 z
    · have z' : p.1 = a := by simpa using z
      exact na (z' ▸ List.mem_map_of_mem hp)
theorem js_set (i : Nat) {x : Str} {p : Pos} (h : JE g e T) (hi : g.N[i]? = some x := by rfl) (hx : Loc g.sc x := by first | exact Or.inl rfl | exact Or.inr rfl) (hs : ∀ env, env.scope = g.sc → swapsWith e (some (.Name x p)) pos.line env = pure false := by intro _ _; rfl)
    (hf : g.own x = true ∨ g.sc.names.lookup x = some .local := by first | exact .inl rfl | exact .inr rfl) :
    JS g (.Assign [.Name x p] e pos) (sSet i T) := fun X hX W tk => (ps_set (X := X) (i := i) (by rw [hX.N]; exact hX.nd) (by rw [hX.N]; exact hi) (by rw [hX.sc]; exact hx) (h X hX.toGood W tk) (hs X.env hX.sc) (hf.imp (hX.fn x) (fun q => by rw [hX.sc]; exact q))).len fun E σ H hl h => by
  obtain ⟨wd, σ', S, hs, hh, h⟩ := h
  refine ⟨wd, σ', S, hs, hh, ?_⟩
  have hlt : i < σ.length := by rw [hl, hX.N]; exact (List.getElem?_eq_some_iff.mp hi).1
  have h1 := st_read hs h
  revert h1
  cases T σ' S with
  | ok v S1 =>
    intro h1 wd1 x H1 l hr rv
    obtain ⟨v', wd2, S2, l2, hr2, rw2, h2⟩ := h1 wd1 x H1 l hr rv
    obtain ⟨wd3, l3, hr3, r3⟩ := rw2.frz hr2
    exact h2 wd3 _ H1 l3 ((hs.mono (l2.trans l3)).put i r3 hlt) hr3
  | exc c fs S1 => intro h1; exact h1
  | bad => intro h1; exact h1
theorem setB_read {W : WX} {wd : Wd} {E : Ends} {σ' : Sl} {σ : St} {i : Nat} {H : Hp} {S : Sta} {v : Vl} {x : V} (hs : SR g.K wd σ' σ) (hh : HR g.K g.cls wd S H) (rv : RV g.K wd H v x) (hlt : i < σ.length)
    (h : OkS g.K g.cls W wd E (boxIn σ' i v S)) : E.nx (σ.set i (some x)) H := by
  cases v with
  | new l =>
    obtain ⟨a, vs, rfl, e, n, nb, na, r⟩ := rv
    obtain ⟨le, hr⟩ := hh.pushBox e n nb na r
    exact h _ _ H le ((hs.mono le).put i (v := .box S.B.length) ⟨a, rfl, by rw [hh.bn]; simp⟩ hlt) hr
  | d y => exact h wd _ H (.refl _) (hs.put i (v := .d y) rv hlt) hh
  | box j => exact h wd _ H (.refl _) (hs.put i (v := .box j) rv hlt) hh
theorem js_setB (i : Nat) {x : Str} {p : Pos} (h : JE g e T) (hi : g.N[i]? = some x := by rfl) (hx : Loc g.sc x := by first | exact Or.inl rfl | exact Or.inr rfl) (hs : ∀ env, env.scope = g.sc → swapsWith e (some (.Name x p)) pos.line env = pure false := by intro _ _; rfl)
    (hf : g.own x = true ∨ g.sc.names.lookup x = some .local := by first | exact .inl rfl | exact .inr rfl) :
    JS g (.Assign [.Name x p] e pos) (sSetB i T) := fun X hX W tk => (ps_set (X := X) (i := i) (by rw [hX.N]; exact hX.nd) (by rw [hX.N]; exact hi) (by rw [hX.sc]; exact hx) (h X hX.toGood W tk) (hs X.env hX.sc) (hf.imp (hX.fn x) (fun q => by rw [hX.sc]; exact q))).len fun E σ H hl h => by
  obtain ⟨wd, σ', S, hs, hh, h⟩ := h
  refine ⟨wd, σ', S, hs, hh, ?_⟩
  have hlt : i < σ.length := by rw [hl, hX.N]; exact (List.getElem?_eq_some_iff.mp hi).1
  have h1 := st_read hs h
  revert h1
  cases T σ' S with
  | ok v S1 =>
    intro h1 wd1 x H1 l hr rv
    obtain ⟨v', wd2, S2, l2, hr2, rw2, h2⟩ := h1 wd1 x H1 l hr rv
    exact setB_read (hs.mono l2) hr2 rw2 hlt h2
  | exc c fs S1 => intro h1; exact h1
  | bad => intro h1; exact h1

/-! ### targets -/
abbrev GV := D → Sl → Option Sl
def LG (K : PySem.W.Frag) (cls : String → Addr) (T : GV) (ix : List Nat) : TG := fun v σ H Q => ∃ wd σ' S x, SR K wd σ' σ ∧ HR K cls wd S H ∧ RD K wd x v ∧ ∃ σ1', T x σ' = some σ1' ∧ ∀ σ1, SR K wd σ1' σ1 → σ1.length = σ.length → (∀ i : Nat, i ∉ ix → σ1[i]? = σ[i]?) → Q σ1 H
def JG (g : G) (tg : Expr) (T : GV) (ix : List Nat) : Prop := ∀ X, Good g X → PG X tg (LG g.K g.cls T ix)
@[simp] def gNm (i : Nat) : GV := fun x σ => some (σ.set i (some (.d x)))
theorem jg_name (i : Nat) {x : Str} (hi : g.N[i]? = some x := by rfl) (hx : Loc g.sc x := by first | exact Or.inl rfl | exact Or.inr rfl) (hf : g.own x = true ∨ g.sc.names.lookup x = some .local := by first | exact .inl rfl | exact .inr rfl) : JG g (.Name x pos) (gNm i) [i] := fun X hX => by
  have hp := pg_name (X := X) (pos := pos) (i := i) (x := x) (by rw [hX.N]; exact hX.nd) (by rw [hX.N]; exact hi) (by rw [hX.sc]; exact hx) (hf.imp (hX.fn x) (fun q => by rw [hX.sc]; exact q))
  refine ⟨fun pins s σ H v u Q I r h => hp.run pins s σ H v u Q I r ?_⟩
  obtain ⟨wd, σ', S, y, hs, hh, rd, σ1', e, q⟩ := h
  cases e
  refine q _ (hs.put i (v := .d y) rd ?_) (by simp) fun j hj => List.getElem?_set_ne (fun z => hj (by simp [z]))
  rw [I.len, hX.N]; exact (List.getElem?_eq_some_iff.mp hi).1
abbrev GVs := List D → Sl → Option Sl
def LGs (K : PySem.W.Frag) (cls : String → Addr) (T : GVs) (ix : List Nat) : TGs := fun v σ H Q => ∃ wd σ' S x, SR K wd σ' σ ∧ HR K cls wd S H ∧ RDs K wd x v ∧ ∃ σ1', T x σ' = some σ1' ∧ ∀ σ1, SR K wd σ1' σ1 → σ1.length = σ.length → (∀ i : Nat, i ∉ ix → σ1[i]? = σ[i]?) → Q σ1 H
def JGs (g : G) (tg : List Expr) (T : GVs) (ix : List Nat) : Prop := ∀ X, Good g X → PGs X tg (LGs g.K g.cls T ix)
@[simp] def gNone : GVs := fun xs σ => match xs with
  | [] => some σ
  | _ => none
@[simp] def gMore (T : GV) (Ts : GVs) : GVs := fun xs σ => match xs with
  | x :: r => match T x σ with
    | some σ1 => Ts r σ1
    | none => none
  | [] => none
theorem jgs_nil : JGs g [] gNone [] := fun X hX => by
  refine ⟨fun pins s σ H v u Q I r h => (pgs_nil (X := X)).run pins s σ H v u Q I r ?_⟩
  obtain ⟨wd, σ', S, y, hs, hh, rd, σ1', e, q⟩ := h
  unfold gNone at e
  split at e
  · cases e
    exact ⟨by simpa [RDs] using rd, q σ hs rfl fun _ _ => rfl⟩
  · cases e
theorem jgs_cons {tgs : List Expr} {t : Expr} {T : GV} {Ts : GVs} {ix jx : List Nat} (h1 : JG g t T ix) (h2 : JGs g tgs Ts jx) (hs : ∀ env, (assignEach (t :: tgs) env).map (·.2) = assign t env :: (assignEach tgs env).map (·.2) := by intro _; rfl) : JGs g (t :: tgs) (gMore T Ts) (ix ++ jx) := fun X hX => by
  refine ⟨fun pins s σ H v u Q I r h => (pgs_cons (h1 X hX) (h2 X hX) (hs X.env)).run pins s σ H v u Q I r ?_⟩
  obtain ⟨wd, σ', S, y, hs, hh, rd, σ1', e, q⟩ := h
  unfold gMore at e
  split at e
  · rename_i z zs
    split at e
    · rename_i σ2 e2
      simp only [RDs] at rd
      obtain ⟨w, wr, rfl, r1, r2⟩ := rd
      exact ⟨w, wr, rfl, wd, σ', S, z, hs, hh, r1, σ2, e2, fun σ3 hs3 hl3 hx3 => ⟨wd, σ2, S, zs, hs3, hh, r2, σ1', e, fun σ4 hs4 hl4 hx4 => q σ4 hs4 (hl4.trans hl3) fun i hi => by rw [hx4 i (fun z => hi (List.mem_append_right _ z)), hx3 i (fun z => hi (List.mem_append_left _ z))]⟩⟩
    · cases e
  · cases e
@[simp] def gTp (n : Nat) (Ts : GVs) : GV := fun x σ => match x with
  | .tup l => if l.length = n then Ts l σ else none
  | _ => none
theorem jg_tup {tgs : List Expr} {k n : Nat} {Ts : GVs} {ix : List Nat} (h : JGs g tgs Ts ix) (hn : ∀ env, (assignEach tgs env).length = n := by intro _; rfl) (hst : ∀ env, (assignEach tgs env).findIdx? (·.1) = none := by intro _; rfl) : JG g (.Tuple tgs k pos) (gTp n Ts) ix := fun X hX => by
  have hp := pg_tup (pos := pos) (k := k) (n := n) hX.calm (h X hX) (hn X.env) (hst X.env)
  refine ⟨fun pins s σ H v u Q I r h => hp.run pins s σ H v u Q I r ?_⟩
  obtain ⟨wd, σ', S, y, hs, hh, rd, σ1', e, q⟩ := h
  unfold gTp at e
  split at e
  · rename_i l
    split at e
    · rename_i hl
      obtain ⟨a, vs, rfl, t, rr⟩ := tup_at hh (v := .d (.tup l)) rd rfl
      exact ⟨a, vs, rfl, by rw [hX.K]; exact t, by rw [← rr.length]; exact hl, wd, σ', S, l, hs, hh, rr, σ1', e, q⟩
    · cases e
  · cases e
/-- target = value, the target a tuple of names -/
@[simp] noncomputable def sUnp (G : GV) (T : EV) : SV := fun σ S => (T σ S).st σ fun v S1 => match toD (frz v) S1 with
  | some (x, S2) => match G x σ with
    | some σ1 => .nxt σ1 S2
    | none => .bad
  | none => .bad
theorem js_unp {tg : Expr} {Gt : GV} {ix : List Nat} (h : JE g e T) (hg : JG g tg Gt ix) (hs : ∀ env, swapsWithSole [tg] e pos.line env = pure false := by intro _; rfl) (hw : ∀ env, swappedStores [tg] e env = pure none := by intro _; rfl) (h1 : ∀ env, (assignEach [tg] env).map (·.2) = [assign tg env] := by intro _; rfl) :
    JS g (.Assign [tg] e pos) (sUnp Gt T) := fun X hX W tk => (ps_asg (h X hX.toGood W tk) (hg X hX.toGood) (hs X.env) (hw X.env) (h1 X.env)).imp fun E σ H h => by
  obtain ⟨wd, σ', S, hs, hh, h⟩ := h
  refine ⟨wd, σ', S, hs, hh, ?_⟩
  have h1 := st_read hs h
  revert h1
  cases T σ' S with
  | ok v S1 =>
    intro h1 wd1 x H1 l hr rv
    obtain ⟨v', wd2, S2, l2, hr2, rw2, h2⟩ := h1 wd1 x H1 l hr rv
    obtain ⟨wd3, l3, hr3, r3⟩ := rw2.frz hr2
    split at h2
    · rename_i y S3 ey
      obtain ⟨wd4, l4, hr4, r4⟩ := RW.toD hr3 r3 ey
      split at h2
      · rename_i σ1 e1
        refine ⟨wd4, σ', S3, y, ((hs.mono l2).mono l3).mono l4, hr4, r4, σ1, e1, fun σ2 hs2 _ _ => h2 wd4 σ2 H1 (l3.trans l4) hs2 hr4⟩
      · exact h2.elim
    · exact h2.elim
  | exc c fs S1 => intro h1; exact h1
  | bad => intro h1; exact h1

/-! ### for -/
/-- what a loop walks: the items, and what must stand at each turn -/
abbrev IV := Sl → Sta → Out (List D × (Sta → Bool))
/-- .. whatever lists are in the making -/
structure LeX (a b : Wd) : Prop where
  fz : ∀ p o, a.fz p = some o → b.fz p = some o
  bx : a.bx <+: b.bx
  ob : a.ob <+: b.ob
theorem Wd.Le.x {a b : Wd} (h : a.Le b) : LeX a b := ⟨h.fz, h.bx, h.ob⟩
theorem LeX.le {a b : Wd} (h : LeX a b) : a.Le { b with an := a.an } := ⟨h.fz, h.bx, h.ob, rfl⟩
theorem RW.x {K a b v x} (r : RW K a v x) (h : LeX a b) : RW K b v x := by
  have r1 := r.mono h.le
  cases v with
  | d y => exact RD.same (wd := { b with an := a.an }) (wd' := b) rfl rfl y x r1
  | box i => exact r1
  | new l => exact r1
def ItOk (K : PySem.W.Frag) (cls : String → Addr) (wd : Wd) (J : It) (p : List D × (Sta → Bool)) : Prop :=
  ∀ wd2 S H, LeX wd wd2 → HR K cls wd2 S H → p.2 S = true → J.stop p.1.length H ∧
    ∀ (i : Nat) x, p.1[i]? = some x → J.go i H ∧ ∀ v H', J.yld i H v H' → ∃ wd3, wd2.Le wd3 ∧ HR K cls wd3 S H' ∧ RD K wd3 x v
def OkI (K : PySem.W.Frag) (cls : String → Addr) (W : WX) (σ : St) (wd : Wd) (R : It → Hp → Prop) : Out (List D × (Sta → Bool)) → Prop
  | .ok p S1 => ∀ wd1 H1 J, wd.Le wd1 → HR K cls wd1 S1 H1 → ItOk K cls wd1 J p → R J H1
  | .exc c fs S1 => ∀ wd1 H1 cv d, wd.Le wd1 → HR K cls wd1 S1 H1 → XR K cls wd1 H1 c fs cv d → W cv d σ H1
  | .bad => False
def LI (K : PySem.W.Frag) (cls : String → Addr) (W : WX) (I : IV) : TI := fun σ H R => ∃ wd σ' S, SR K wd σ' σ ∧ HR K cls wd S H ∧ OkI K cls W σ wd R (I σ' S)
def JI (g : G) (tg it : Expr) (I : IV) : Prop := ∀ X, Good g X → ∀ W, Takes X W → PI X tg it (LI g.K g.cls W I)
theorem _root_.L2.PI.imp {X : Cx} {tg e : Expr} {t t' : TI} (h : PI X tg e t) (i : ∀ σ H Q, t' σ H Q → t σ H Q) : PI X tg e t' := ⟨fun pins s σ H Q I q => h.run pins s σ H Q I (i σ H Q q)⟩
/-- a list, whose items stay -/
noncomputable def itemsL (v : Vl) (S : Sta) : Out (List D × (Sta → Bool)) := match rdlOf v S with
  | some l => .ok (l, fun S1 => decide (rdlOf v S1 = some l)) S
  | none => .bad
def itemsT (v : Vl) (S : Sta) : Out (List D × (Sta → Bool)) := match v with
  | .d (.tup l) => .ok (l, fun _ => true) S
  | _ => .bad
@[simp] noncomputable def iOf (f : Vl → Sta → Out (List D × (Sta → Bool))) (T : EV) : IV := fun σ S => (T σ S).bind fun v S1 => f (frz v) S1
theorem OkI_opd {W : WX} {σ : St} {wd : Wd} {o : Out Vl} {F : Vl → Sta → Out (List D × (Sta → Bool))} {R : It → Hp → Prop} (h : OkI g.K g.cls W σ wd R (o.bind fun v S1 => F (frz v) S1)) :
    OkE g.K g.cls W σ wd (fun x H1 => ∃ v wd1 S1, wd.Le wd1 ∧ HR g.K g.cls wd1 S1 H1 ∧ RW g.K wd1 v x ∧ OkI g.K g.cls W σ wd1 R (F v S1)) o := by
  cases o with
  | ok v S1 =>
    refine fun wd1 x H1 l hr rv => ?_
    obtain ⟨wd2, l2, hr2, rw2⟩ := rv.frz hr
    refine ⟨frz v, wd2, S1, l.trans l2, hr2, rw2, ?_⟩
    have h' : OkI g.K g.cls W σ wd R (F (frz v) S1) := h
    revert h'
    cases F (frz v) S1 with
    | ok p S2 => exact fun h wd3 H3 J l3 => h wd3 H3 J ((l.trans l2).trans l3)
    | exc c fs S2 => exact fun h wd3 H3 cv d l3 => h wd3 H3 cv d ((l.trans l2).trans l3)
    | bad => exact fun h => h
  | exc c fs S1 => exact h
  | bad => exact h
theorem ji_list {tg : Expr} (h : JE g e T) : JI g tg e (iOf itemsL T) := fun X hX W tk => (pi_list (h X hX W tk)).imp fun σ H R h => by
  obtain ⟨wd, σ', S, hs, hh, h⟩ := h
  refine ⟨wd, σ', S, hs, hh, ?_⟩
  have h1 := OkI_opd (F := itemsL) h
  revert h1
  cases T σ' S with
  | ok v S1 =>
    intro h1 wd1 x H1 l hr rv
    obtain ⟨v', wd2, S2, l2, hr2, rw2, h2⟩ := h1 wd1 x H1 l hr rv
    unfold itemsL at h2
    split at h2
    · rename_i m em
      obtain ⟨a, vs, rfl, t, rr⟩ := rdl_at hr2 rw2 em
      refine ⟨a, rfl, ⟨vs, by rw [hX.K]; exact t⟩, h2 wd2 H1 _ (.refl _) hr2 ?_⟩
      intro wd3 S3 H3 l3 hr3 hc
      have ec : rdlOf v' S3 = some m := of_decide_eq_true hc
      obtain ⟨a', us, e1, t3, rr3⟩ := rdl_at hr3 (rw2.x l3) ec
      cases e1
      rw [hX.K]
      refine ⟨⟨us, t3, by rw [← rr3.length]; exact Nat.le_refl _⟩, fun i y ey => ?_⟩
      obtain ⟨w, ew, rw'⟩ := rr3.get' ey
      refine ⟨⟨us, w, t3, ew⟩, fun v2 H2 hy => ?_⟩
      obtain ⟨rfl, hy⟩ := hy
      have e2 := hy us t3
      rw [ew] at e2; cases e2
      exact ⟨wd3, .refl _, hr3, rw'⟩
    · exact h2.elim
  | exc c fs S1 => intro h1; exact h1
  | bad => intro h1; exact h1
theorem ji_tup {tg : Expr} (h : JE g e T) : JI g tg e (iOf itemsT T) := fun X hX W tk => (pi_tup (h X hX W tk)).imp fun σ H R h => by
  obtain ⟨wd, σ', S, hs, hh, h⟩ := h
  refine ⟨wd, σ', S, hs, hh, ?_⟩
  have h1 := OkI_opd (F := itemsT) h
  revert h1
  cases T σ' S with
  | ok v S1 =>
    intro h1 wd1 x H1 l hr rv
    obtain ⟨v', wd2, S2, l2, hr2, rw2, h2⟩ := h1 wd1 x H1 l hr rv
    unfold itemsT at h2
    split at h2
    · rename_i m
      obtain ⟨a, vs, rfl, t, rr⟩ := tup_at hr2 rw2 rfl
      refine ⟨a, rfl, ⟨vs, by rw [hX.K]; exact t⟩, h2 wd2 H1 _ (.refl _) hr2 ?_⟩
      intro wd3 S3 H3 l3 hr3 hc
      obtain ⟨a', us, e1, t3, rr3⟩ := tup_at hr3 (rw2.x l3) rfl
      cases e1
      rw [hX.K]
      refine ⟨⟨us, t3, by rw [← rr3.length]; exact Nat.le_refl _⟩, fun i y ey => ?_⟩
      obtain ⟨w, ew, rw'⟩ := rr3.get' ey
      refine ⟨⟨us, w, t3, ew⟩, fun v2 H2 hy => ?_⟩
      obtain ⟨rfl, hy⟩ := hy
      have e2 := hy us t3
      rw [ew] at e2; cases e2
      exact ⟨wd3, .refl _, hr3, rw'⟩
    · exact h2.elim
  | exc c fs S1 => intro h1; exact h1
  | bad => intro h1; exact h1
/-- range(n), range(m, n) -/
@[irreducible] noncomputable def itemsR1 (vs : List Vl) (S : Sta) : Out (List D × (Sta → Bool)) := match vs with
  | [.d (.int j)] => if -(2 ^ 62) ≤ j ∧ j < 2 ^ 62 then .ok ((List.range j.toNat).map fun k => D.int (0 + ((k : Nat) : Int)), fun _ => true) S else .bad
  | _ => .bad
@[irreducible] noncomputable def itemsR2 (vs : List Vl) (S : Sta) : Out (List D × (Sta → Bool)) := match vs with
  | [.d (.int i), .d (.int j)] => if (-(2 ^ 62) ≤ i ∧ i < 2 ^ 62) ∧ -(2 ^ 62) ≤ j ∧ j < 2 ^ 62 then .ok ((List.range (j - i).toNat).map fun k => D.int (i + ((k : Nat) : Int)), fun _ => true) S else .bad
  | _ => .bad
@[simp] noncomputable def iRan1 (Ts : EVs) : IV := fun σ S => (Ts σ S).bind itemsR1
@[simp] noncomputable def iRan2 (Ts : EVs) : IV := fun σ S => (Ts σ S).bind itemsR2
theorem OkI_bindA {W : WX} {σ : St} {wd : Wd} {o : Out (List Vl)} {F : List Vl → Sta → Out (List D × (Sta → Bool))} {R : It → Hp → Prop} (h : OkI g.K g.cls W σ wd R (o.bind F)) :
    OkA g.K g.cls W σ wd (fun x H1 => ∃ v wd1 S1, wd.Le wd1 ∧ HR g.K g.cls wd1 S1 H1 ∧ RWs g.K wd1 v x ∧ OkI g.K g.cls W σ wd1 R (F v S1)) o := by
  cases o with
  | ok v S1 =>
    refine fun wd1 x H1 l hr rv => ⟨v, wd1, S1, l, hr, rv, ?_⟩
    have h' : OkI g.K g.cls W σ wd R (F v S1) := h
    revert h'
    cases F v S1 with
    | ok p S2 => exact fun h wd3 H3 J l3 => h wd3 H3 J (l.trans l3)
    | exc c fs S2 => exact fun h wd3 H3 cv d l3 => h wd3 H3 cv d (l.trans l3)
    | bad => exact fun h => h
  | exc c fs S1 => exact h
  | bad => exact h
theorem range_ok {K cls wd} {lo : Int} {n : Nat} {l : List D} (hl : l.length = n) (h : ∀ i : Nat, i < n → l[i]? = some (D.int (lo + ((i : Nat) : Int)))) : ItOk K cls wd (Itr lo n) (l, fun _ => true) := by
  intro wd2 S H _ hr _
  refine ⟨Nat.le_of_eq hl.symm, fun i x e => ?_⟩
  have hi : i < n := by rw [← hl]; exact (List.getElem?_eq_some_iff.mp e).1
  refine ⟨hi, fun v H' hy => ?_⟩
  obtain ⟨rfl, rfl⟩ := hy
  rw [h i hi] at e; cases e
  exact ⟨wd2, .refl _, hr, by simp [RD]⟩
theorem ji_range1 {tg : Expr} {p : Pos} (hg : GlS g "range") (hm : g.mg "range" = none) (ha : JA g [e] Ts) (he : ∀ env, starEach [e] env = [(false, eval e env)] := by intro _; rfl) : JI g tg (.Call (.Name "range" p) [e] [] pos) (iRan1 Ts) := fun X hX W tk =>
  (pi_range1 (gl_of hX hg) (by rw [hX.mg]; exact hm) (ha X hX W tk) (he X.env)).imp fun σ H R h => by
  obtain ⟨wd, σ', S, hs, hh, h⟩ := h
  refine ⟨wd, σ', S, hs, hh, ?_⟩
  have h1 := OkI_bindA (F := itemsR1) h
  revert h1
  cases Ts σ' S with
  | ok v S1 =>
    intro h1 wd1 x H1 l hr rv
    obtain ⟨v', wd2, S2, l2, hr2, rw2, h2⟩ := h1 wd1 x H1 l hr rv
    unfold itemsR1 at h2
    split at h2
    · rename_i j
      split at h2
      · rename_i c
        obtain ⟨z, rfl, rz⟩ := rws1 rw2
        exact ⟨j, by rw [rd_int rz], c.1, c.2, h2 wd2 H1 _ (.refl _) hr2 (range_ok (by simp) fun i hi => by simp [hi])⟩
      · exact h2.elim
    · exact h2.elim
  | exc c fs S1 => intro h1; exact h1
  | bad => intro h1; exact h1
theorem rws2 {K wd v u xs} (r : RWs K wd [v, u] xs) : ∃ x y, xs = [x, y] ∧ RW K wd v x ∧ RW K wd u y := by
  obtain ⟨x, xr, rfl, r1, r2⟩ := r
  obtain ⟨y, rfl, r3⟩ := rws1 r2
  exact ⟨x, y, rfl, r1, r3⟩
theorem ji_range2 {tg : Expr} {p : Pos} (hg : GlS g "range") (hm : g.mg "range" = none) (ha : JA g [a, b] Ts) (he : ∀ env, starEach [a, b] env = [(false, eval a env), (false, eval b env)] := by intro _; rfl) (he2 : ∀ env, starEach [b] env = [(false, eval b env)] := by intro _; rfl) : JI g tg (.Call (.Name "range" p) [a, b] [] pos) (iRan2 Ts) := fun X hX W tk =>
  (pi_range2 (gl_of hX hg) (by rw [hX.mg]; exact hm) (ha X hX W tk) (he X.env) (he2 X.env)).imp fun σ H R h => by
  obtain ⟨wd, σ', S, hs, hh, h⟩ := h
  refine ⟨wd, σ', S, hs, hh, ?_⟩
  have h1 := OkI_bindA (F := itemsR2) h
  revert h1
  cases Ts σ' S with
  | ok v S1 =>
    intro h1 wd1 x H1 l hr rv
    obtain ⟨v', wd2, S2, l2, hr2, rw2, h2⟩ := h1 wd1 x H1 l hr rv
    unfold itemsR2 at h2
    split at h2
    · rename_i i j
      split at h2
      · rename_i c
        obtain ⟨z, y, rfl, rz, ry⟩ := rws2 rw2
        exact ⟨i, j, by rw [rd_int rz, rd_int ry], ⟨c.1.1, c.1.2, c.2.1, c.2.2⟩, h2 wd2 H1 _ (.refl _) hr2 (range_ok (by simp) fun i hi => by simp [hi])⟩
      · exact h2.elim
    · exact h2.elim
  | exc c fs S1 => intro h1; exact h1
  | bad => intro h1; exact h1
/-- the loop over the items -/
noncomputable def forL (chk : Sta → Bool) (tg : GV) (body : SV) : List D → SV
  | [], σ, S => if chk S = true then .nxt σ S else .bad
  | x :: r, σ, S => if chk S = true then match tg x σ with
    | none => .bad
    | some σ1 => match body σ1 S with
      | .nxt σ2 S2 => forL chk tg body r σ2 S2
      | .cnt σ2 S2 => forL chk tg body r σ2 S2
      | .brk σ2 S2 => .nxt σ2 S2
      | o => o
    else .bad
@[simp] noncomputable def sFor (I : IV) (tg : GV) (body : SV) : SV := fun σ S => match I σ S with
  | .ok p S1 => forL p.2 tg body p.1 σ S1
  | .exc c fs S1 => .exc c fs σ S1
  | .bad => .bad
theorem js_for {tg it : Expr} {I : IV} {Gt : GV} {ix : List Nat} {bd : List Stmt} {B : SV} (hi : JI g tg it I) (hg : JG g tg Gt ix) (hb : JSs g bd B) (hs : ∀ env x, foldedSetIterable it env x = pure x := by intro _ _; rfl) : JS g (.For tg it bd [] pos) (sFor I Gt B) := fun X hX W tk =>
  (ps_for hX.own hX.calm (hi X hX.toGood W tk) (hg X hX.toGood) (hb X hX W tk) (hs X.env)).imp fun E σ H h => by
  obtain ⟨wd, σ', S, hs, hh, h⟩ := h
  refine ⟨wd, σ', S, hs, hh, ?_⟩
  unfold sFor at h
  revert h
  cases I σ' S with
  | exc c fs S1 => exact fun h wd1 H1 cv d l hr hx => h wd1 σ H1 cv d l (hs.mono l) hr hx
  | bad => exact fun h => h
  | ok p S1 =>
    intro h wd1 H1 J l1 hr1 hJ
    obtain ⟨items, chk⟩ := p
    refine ⟨fun i m σ2 H2 => ∃ wd2 σ2' S2, wd1.Le wd2 ∧ SR g.K wd2 σ2' σ2 ∧ HR g.K g.cls wd2 S2 H2 ∧ m = items.length - i ∧ i ≤ items.length ∧ OkS g.K g.cls W wd2 E (forL chk Gt B (items.drop i) σ2' S2),
      ⟨items.length, wd1, σ', S1, .refl _, hs.mono l1, hr1, by simp, Nat.zero_le _, OkS.mono l1 h⟩, ?_⟩
    rintro i m σ2 H2 ⟨wd2, σ2', S2, l2, hs2, hr2, rfl, hi, h2⟩
    by_cases hlt : i < items.length
    · obtain ⟨x, ex⟩ : ∃ x, items[i]? = some x := ⟨_, List.getElem?_eq_getElem hlt⟩
      have ed : items.drop i = x :: items.drop (i + 1) := by
        rw [List.drop_eq_getElem_cons hlt]
        have := List.getElem?_eq_getElem hlt
        rw [ex] at this; cases this; rfl
      rw [ed] at h2
      unfold forL at h2
      split at h2
      · rename_i hc
        obtain ⟨_, hgo⟩ := hJ wd2 S2 H2 l2.x hr2 hc
        obtain ⟨go, hy⟩ := hgo i x ex
        refine .inr ⟨go, fun σ3 H3 => ∃ m', m' < items.length - i ∧ ∃ wd3 σ3' S3, wd1.Le wd3 ∧ SR g.K wd3 σ3' σ3 ∧ HR g.K g.cls wd3 S3 H3 ∧ m' = items.length - (i + 1) ∧ i + 1 ≤ items.length ∧ OkS g.K g.cls W wd3 E (forL chk Gt B (items.drop (i + 1)) σ3' S3), fun σ3 H3 q => q, fun v H3 y => ?_⟩
        obtain ⟨wd3, l3, hr3, rd⟩ := hy v H3 y
        split at h2
        · exact h2.elim
        · rename_i σ4 e4
          refine ⟨wd3, σ2', S2, x, hs2.mono l3, hr3, rd, σ4, e4, fun σ5 hs5 _ _ => ⟨wd3, σ4, S2, hs5, hr3, ?_⟩⟩
          have h3 := OkS.mono l3 h2
          revert h3
          cases B σ4 S2 with
          | nxt σ6 S6 => exact fun h3 wd7 σ7 H7 l7 hs7 hr7 => ⟨items.length - (i + 1), by omega, wd7, σ6, S6, (l2.trans l3).trans l7, hs7, hr7, rfl, hlt, OkS.mono l7 h3⟩
          | cnt σ6 S6 => exact fun h3 wd7 σ7 H7 l7 hs7 hr7 => ⟨items.length - (i + 1), by omega, wd7, σ6, S6, (l2.trans l3).trans l7, hs7, hr7, rfl, hlt, OkS.mono l7 h3⟩
          | brk σ6 S6 => exact fun h3 => h3
          | ret v S6 => exact fun h3 => h3
          | exc c fs σ6 S6 => exact fun h3 => h3
          | bad => exact fun h3 => h3
      · exact h2.elim
    · have e : i = items.length := by omega
      subst e
      rw [List.drop_length] at h2
      unfold forL at h2
      split at h2
      · rename_i hc
        obtain ⟨st, _⟩ := hJ wd2 S2 H2 l2.x hr2 hc
        exact .inl ⟨st, h2 wd2 σ2 H2 (.refl _) hs2 hr2⟩
      · exact h2.elim
/-- while, by so many turns at most -/
noncomputable def whileN (TA : TV) (body : SV) : Nat → SV
  | 0, σ, S => .bad
  | n + 1, σ, S => (TA σ S).stB σ fun k S1 => if k = true then match body σ S1 with
      | .nxt σ2 S2 => whileN TA body n σ2 S2
      | .cnt σ2 S2 => whileN TA body n σ2 S2
      | .brk σ2 S2 => .nxt σ2 S2
      | o => o
    else .nxt σ S1
/-- some number of turns is enough; the number is no matter -/
noncomputable def sWhile (TA : TV) (body : SV) : SV := fun σ S => if h : ∃ n, whileN TA body n σ S ≠ .bad then whileN TA body h.choose σ S else .bad
theorem whileN_mono (TA : TV) (body : SV) : ∀ (n : Nat) (σ : Sl) (S : Sta), whileN TA body n σ S ≠ .bad → whileN TA body (n + 1) σ S = whileN TA body n σ S
  | 0, σ, S, h => absurd rfl h
  | n + 1, σ, S, h => by
    unfold whileN at h ⊢
    cases hT : TA σ S with
    | ok k S1 =>
      rw [hT] at h
      simp only [Out.stB] at h ⊢
      cases k with
      | false => rfl
      | true =>
        simp only [if_true] at h ⊢
        cases hB : body σ S1 with
        | nxt σ2 S2 => rw [hB] at h; exact whileN_mono TA body n σ2 S2 h
        | cnt σ2 S2 => rw [hB] at h; exact whileN_mono TA body n σ2 S2 h
        | _ => rfl
    | exc c fs S1 => rfl
    | bad => rfl
theorem whileN_more (TA : TV) (body : SV) {n : Nat} {σ : Sl} {S : Sta} (h : whileN TA body n σ S ≠ .bad) (k : Nat) : whileN TA body (n + k) σ S = whileN TA body n σ S := by
  induction k with
  | zero => rfl
  | succ k ih => rw [← Nat.add_assoc, whileN_mono TA body (n + k) σ S (by rw [ih]; exact h), ih]
theorem sWhile_eq (TA : TV) (body : SV) {n : Nat} {σ : Sl} {S : Sta} (h : whileN TA body n σ S ≠ .bad) : sWhile TA body σ S = whileN TA body n σ S := by
  unfold sWhile
  have ex : ∃ n, whileN TA body n σ S ≠ .bad := ⟨n, h⟩
  rw [dif_pos ex]
  have e1 := whileN_more TA body h ex.choose
  have e2 := whileN_more TA body ex.choose_spec n
  rw [Nat.add_comm] at e2
  rw [← e2, e1]
theorem js_while {c : Expr} {bd : List Stmt} {TA : TV} {B : SV} (hc : JT g c TA) (hb : JSs g bd B) : JS g (.While c bd [] pos) (sWhile TA B) := fun X hX W tk =>
  (ps_while hX.own (hc X hX.toGood W tk) (hb X hX W tk)).imp fun E σ H h => by
  obtain ⟨wd, σ', S, hs, hh, h⟩ := h
  unfold sWhile at h
  split at h
  · rename_i ex
    refine ⟨fun m σ2 H2 => ∃ wd2 σ2' S2, SR g.K wd2 σ2' σ2 ∧ HR g.K g.cls wd2 S2 H2 ∧ OkS g.K g.cls W wd2 E (whileN TA B m σ2' S2), ⟨_, wd, σ', S, hs, hh, h⟩, ?_⟩
    rintro m σ2 H2 ⟨wd2, σ2', S2, hs2, hr2, h2⟩
    cases m with
    | zero => exact h2.elim
    | succ n =>
      unfold whileN at h2
      refine ⟨wd2, σ2', S2, hs2, hr2, ?_⟩
      have h3 := stB_read hs2 h2
      revert h3
      cases TA σ2' S2 with
      | exc c fs S3 => exact fun h => h
      | bad => exact fun h => h
      | ok k S3 =>
        intro h3 wd3 H3 l3 hr3
        obtain ⟨wd4, S4, l4, hr4, h4⟩ := h3 wd3 H3 l3 hr3
        cases k with
        | false =>
          rw [if_neg Bool.false_ne_true]
          exact h4 wd4 σ2 H3 (.refl _) (hs2.mono l4) hr4
        | true =>
          rw [if_pos rfl]
          refine ⟨fun σ5 H5 => ∃ wd5 σ5' S5, SR g.K wd5 σ5' σ5 ∧ HR g.K g.cls wd5 S5 H5 ∧ OkS g.K g.cls W wd5 E (whileN TA B n σ5' S5), fun σ5 H5 q => ⟨n, Nat.lt_succ_self _, q⟩, wd4, σ2', S4, hs2.mono l4, hr4, ?_⟩
          simp only [if_true] at h4
          revert h4
          cases B σ2' S4 with
          | nxt σ6 S6 => exact fun h4 wd7 σ7 H7 l7 hs7 hr7 => ⟨wd7, σ6, S6, hs7, hr7, OkS.mono l7 h4⟩
          | cnt σ6 S6 => exact fun h4 wd7 σ7 H7 l7 hs7 hr7 => ⟨wd7, σ6, S6, hs7, hr7, OkS.mono l7 h4⟩
          | brk σ6 S6 => exact fun h4 => h4
          | ret v S6 => exact fun h4 => h4
          | exc c fs σ6 S6 => exact fun h4 => h4
          | bad => exact fun h4 => h4
  · exact h.elim
end
end Ev

set_option Elab.async false
set_option linter.all false
set_option maxRecDepth 100000
set_option maxHeartbeats 1000000
/-! Ev6: defs and their calls, methods, constructors, fields. -/
namespace Ev
open PySem PySem.Spec PyProof.Rows L2
open Classical
section
variable {K : PySem.W.Frag} {cls : String → Addr}
/-! ### a frame's own boxes go -/
def Wd.cutB (wd : Wd) (n : Nat) : Wd := { wd with bx := wd.bx.take n }
theorem RD.cut_ {wd : Wd} {n x v} (h : RD K wd x v) : RD K (wd.cutB n) x v := RD.same (wd := wd) (wd' := wd.cutB n) rfl rfl x v h
theorem RDs.cut_ {wd : Wd} {n x v} (h : RDs K wd x v) : RDs K (wd.cutB n) x v := RDs.same (wd := wd) (wd' := wd.cutB n) rfl rfl x v h
def cutB (n : Nat) (S : Sta) : Sta := { S with B := S.B.take n }
theorem HR.cutB {wd S H} (h : HR K cls wd S H) (n : Nat) : HR K cls (wd.cutB n) (Ev.cutB n S) H := by
  have get : ∀ {i : Nat} {x}, (S.B.take n)[i]? = some x → i < n ∧ S.B[i]? = some x := fun {i x} e => by
    have hi : i < (S.B.take n).length := (List.getElem?_eq_some_iff.mp e).1
    have hn : i < n := by rw [List.length_take] at hi; omega
    exact ⟨hn, by rwa [List.getElem?_take_of_lt hn] at e⟩
  have bget : ∀ {i : Nat} {a : Addr}, i < n → wd.bx[i]? = some a → (wd.bx.take n)[i]? = some a := fun {i a} hi e => by rw [List.getElem?_take_of_lt hi]; exact e
  refine ⟨h.fz, by simp [Ev.cutB, Wd.cutB, h.bn], fun i l e => ?_, fun i l e => ?_, h.bnd.sublist (List.take_sublist _ _), h.on, h.ond, fun i o e => ?_, fun p hp => ?_, h.annd, h.nfz⟩
  · obtain ⟨hi, e⟩ := get e
    obtain ⟨a, vs, e1, e2, e3, r⟩ := h.live i l e
    exact ⟨a, vs, bget hi e1, e2, e3, r.cut_⟩
  · obtain ⟨hi, e⟩ := get e
    obtain ⟨a, vs, e1, e2, r⟩ := h.froz i l e
    exact ⟨a, vs, bget hi e1, e2, r.cut_⟩
  · obtain ⟨a, e1, r⟩ := h.ob i o e
    exact ⟨a, e1, ObAt.same (wd := wd) rfl rfl r⟩
  · obtain ⟨e1, e2, e3⟩ := h.an p hp
    exact ⟨e1, e2, fun z => e3 (List.mem_of_mem_take z)⟩
theorem Le.cutB {wd0 wd : Wd} (l : wd0.Le wd) {n : Nat} (hn : wd0.bx.length = n) : wd0.Le (wd.cutB n) := by
  refine ⟨l.fz, ?_, l.ob, l.an⟩
  obtain ⟨t, e⟩ := l.bx
  show wd0.bx <+: wd.bx.take n
  rw [← e, ← hn, List.take_left']
  · exact List.prefix_refl _
  · rfl
theorem XR.same {wd wd' : Wd} {H c fs cv d} (hf : wd'.fz = wd.fz) (ho : wd'.ob = wd.ob) (h : XR K cls wd H c fs cv d) : XR K cls wd' H c fs cv d := by
  obtain ⟨e, h⟩ := h
  refine ⟨e, ?_⟩
  cases fs with
  | none => exact h
  | some fs =>
    obtain ⟨a, vfs, e1, e2, h⟩ := h
    exact ⟨a, vfs, e1, e2, fun f x q => let ⟨v, q1, q2⟩ := h f x q; ⟨v, q1, RD.same hf ho _ _ q2⟩⟩
/-- how a body's end is the call's -/
noncomputable def fin (n : Nat) (o : SOut) : Out Vl := match o with
  | .nxt _ S => .ok (.d .non) (cutB n S)
  | .ret v S => match v with
    | .d x => .ok (.d x) (cutB n S)
    | .new l => .ok (.new l) (cutB n S)
    | .box i => if i < n then .ok (.box i) (cutB n S) else match S.B[i]? with
      | some (true, l) => .ok (.new l) (cutB n S)
      | some (false, l) => .ok (.d (.lst l)) (cutB n S)
      | none => .bad
  | .exc c fs _ S => .exc c fs (cutB n S)
  | .brk _ _ => .bad
  | .cnt _ _ => .bad
  | .bad => .bad
abbrev FV := List Vl → Sta → Out Vl
noncomputable def mkFn (n m : Nat) (T : SV) : FV := fun args S => if args.length = n then fin S.B.length (T (args.map some ++ List.replicate m none) S) else .bad
def OkC (K : PySem.W.Frag) (cls : String → Addr) (wd : Wd) (Q : VK) (E : XK) : Out Vl → Prop
  | .ok v S1 => ∀ wd1 x H1, wd.Le wd1 → HR K cls wd1 S1 H1 → RV K wd1 H1 v x → Q x H1
  | .exc c fs S1 => ∀ wd1 H1 cv d, wd.Le wd1 → HR K cls wd1 S1 H1 → XR K cls wd1 H1 c fs cv d → E cv d H1
  | .bad => False
/-- the promise of a def, from its run -/
def spF (K : PySem.W.Frag) (cls : String → Addr) (n : Nat) (F : FV) : Sp := fun vs H Q E => vs.length = n ∧ ∃ wd args S, HR K cls wd S H ∧ RWs K wd args vs ∧ OkC K cls wd Q E (F args S)
theorem RWs.length : ∀ {wd} {as : List Vl} {vs : List V}, RWs K wd as vs → as.length = vs.length
  | wd, [], vs, h => by
    have h' : vs = [] := h
    rw [h']; rfl
  | wd, x :: r, vs, h => by
    obtain ⟨v, vr, rfl, _, h2⟩ := h
    simp [RWs.length h2]
theorem RWs.get : ∀ {wd} {as : List Vl} {vs : List V} {i : Nat} {a : Vl}, RWs K wd as vs → as[i]? = some a → ∃ v, vs[i]? = some v ∧ RW K wd a v
  | wd, [], vs, i, a, h, e => by simp at e
  | wd, x :: r, vs, i, a, h, e => by
    obtain ⟨v, vr, rfl, h1, h2⟩ := h
    cases i with
    | zero => simp at e; subst e; exact ⟨v, rfl, h1⟩
    | succ i => simpa using RWs.get (i := i) h2 (by simpa using e)
theorem RWs.append : ∀ {wd} {as bs : List Vl} {vs us : List V}, RWs K wd as vs → RWs K wd bs us → RWs K wd (as ++ bs) (vs ++ us)
  | wd, [], bs, vs, us, h, k => by
    have h' : vs = [] := h
    rw [h']; exact k
  | wd, x :: r, bs, vs, us, h, k => by
    obtain ⟨v, vr, rfl, h1, h2⟩ := h
    exact ⟨v, _, rfl, h1, RWs.append h2 k⟩
theorem RWs.ofD : ∀ {wd} {l : List D} {vs : List V}, RDs K wd l vs → RWs K wd (l.map .d) vs
  | wd, [], vs, h => by
    have h' : vs = [] := by simpa [RDs] using h
    exact h'
  | wd, x :: r, vs, h => by
    simp only [RDs] at h
    obtain ⟨v, vr, rfl, h1, h2⟩ := h
    exact ⟨v, vr, rfl, h1, RWs.ofD h2⟩
theorem sr_start {wd : Wd} {N : List Str} {args : List Vl} {vs : List V} (r : RWs K wd args vs) : SR K wd (args.map some ++ List.replicate (N.length - args.length) none) (L2.start N vs) := fun i v e => by
  by_cases hi : i < args.length
  · rw [List.getElem?_append_left (by simpa using hi), List.getElem?_map] at e
    obtain ⟨a, ea, rfl⟩ : ∃ a, args[i]? = some a ∧ a = v := by
      cases q : args[i]? with
      | none => rw [q] at e; cases e
      | some b => rw [q] at e; cases e; exact ⟨_, rfl, rfl⟩
    obtain ⟨x, ex, rx⟩ := r.get ea
    refine ⟨x, ?_, rx⟩
    unfold L2.start
    rw [List.getElem?_append_left (by rw [List.length_map, ← r.length]; exact hi), List.getElem?_map, ex]; rfl
  · rw [List.getElem?_append_right (by simpa using hi)] at e
    have := List.mem_of_getElem? e
    rw [List.mem_replicate] at this
    exact absurd this.2 (by simp)
end
section
variable {g : G} {x qual : Str} {params : Arguments} {body : List Stmt} {scope : Scope} {dvs : List V} {kws : List (Str × V)} {f : Addr} {fd : FuncData} {N ps : List Str} {T : SV} {k : Nat}
abbrev G.at_ (g : G) (k : Nat) (N : List Str) (sc : Scope) : G := { g with k := k, N := N, sc := sc, own := fun _ => true }
theorem fn_ok (F : FunD g.K x qual params body scope dvs kws f fd) (S : FnScope N ps scope) (hT : JSs (g.at_ k N scope) body T) :
    FnOk g.P g.w g.K g.mg g.base (L2.CX g.P g.w) (k + 1) f fd ps (spF g.K g.cls ps.length (mkFn ps.length (N.length - ps.length) T)) := by
  refine F.ok S (fun vs H Q E h => h.1) (fun cdv A outer s H vs Q E hr h => ?_)
  obtain ⟨hl, wd, args, S0, hh, rw_, ok⟩ := h
  let X := cxOf (L2.CX g.P g.w) g.P g.w g.K g.mg g.base N qual scope f cdv A outer s H E
  have tk : Takes X (fun cv d _ H => E cv d H) := takes_of rfl rfl rfl rfl
  have po : PassesOwn (model X.prog X.w) X.A X.env X.xe := passes_of rfl
  have gd : GoodS (g.at_ k N scope) X := ⟨⟨rfl, rfl, rfl, rfl, rfl, rfl, rfl, S.nd, rfl, hr, fun _ _ => rfl⟩, rfl, rfl, S.kind, po⟩
  refine ⟨LS g.K g.cls (fun cv d _ H => E cv d H) T, hT X gd _ tk, ?_⟩
  have la : args.length = ps.length := by rw [rw_.length, hl]
  refine ⟨wd, args.map some ++ List.replicate (N.length - args.length) none, S0, sr_start rw_, hh, ?_⟩
  unfold mkFn at ok
  rw [if_pos la, ← la] at ok
  revert ok
  have hn : wd.bx.length = S0.B.length := hh.bn.symm
  cases T (args.map some ++ List.replicate (N.length - args.length) none) S0 with
  | nxt σ1 S1 => exact fun ok wd1 σ2 H1 l hs hr => ok _ .non H1 (Le.cutB l hn) (hr.cutB _) (by simp [RV, RD])
  | ret v S1 =>
    intro ok wd1 y H1 l hr rv
    cases v with
    | d z => exact ok _ y H1 (Le.cutB l hn) (hr.cutB _) (RD.cut_ (x := z) rv)
    | new m =>
      obtain ⟨a, vs, rfl, e, n, nb, na, r⟩ := rv
      exact ok _ _ H1 (Le.cutB l hn) (hr.cutB _) ⟨a, vs, rfl, e, n, fun z => nb (List.mem_of_mem_take z), na, r.cut_⟩
    | box i =>
      obtain ⟨a, rfl, ea⟩ := rv
      have ok : OkC g.K g.cls wd Q E (if i < S0.B.length then .ok (.box i) (cutB S0.B.length S1) else match S1.B[i]? with
        | some (true, l) => .ok (.new l) (cutB S0.B.length S1)
        | some (false, l) => .ok (.d (.lst l)) (cutB S0.B.length S1)
        | none => .bad) := ok
      split at ok
      · rename_i hi
        exact ok _ _ H1 (Le.cutB l hn) (hr.cutB _) ⟨a, rfl, by show (wd1.bx.take _)[i]? = _; rw [List.getElem?_take_of_lt hi]; exact ea⟩
      · rename_i hi
        have nb : a ∉ wd1.bx.take S0.B.length := fun z => by
          obtain ⟨j, hj⟩ := List.getElem?_of_mem z
          have hj1 : j < (wd1.bx.take S0.B.length).length := (List.getElem?_eq_some_iff.mp hj).1
          have hj2 : j < S0.B.length := by rw [List.length_take] at hj1; omega
          rw [List.getElem?_take_of_lt hj2] at hj
          have := nodupIx hr.bnd hj ea
          omega
        split at ok
        · rename_i m eb
          obtain ⟨a', vs, e1, e2, e3, r⟩ := hr.live i m eb
          rw [ea] at e1; cases e1
          refine ok _ _ H1 (Le.cutB l hn) (hr.cutB _) ⟨a, vs, rfl, e2, e3, nb, fun z => ?_, r.cut_⟩
          obtain ⟨p, hp, e⟩ := List.mem_map.mp z
          exact (hr.an p hp).2.2 (by rw [e]; exact List.mem_of_getElem? ea)
        · rename_i m eb
          obtain ⟨a', vs, e1, e2, r⟩ := hr.froz i m eb
          rw [ea] at e1; cases e1
          refine ok _ _ H1 (Le.cutB l hn) (hr.cutB _) ?_
          show RD g.K _ (.lst m) _
          simp only [RD]
          exact ⟨a, vs, rfl, e2, r.cut_⟩
        · exact ok.elim
  | brk σ1 S1 => exact fun ok => ok.elim
  | cnt σ1 S1 => exact fun ok => ok.elim
  | exc c fs σ1 S1 => exact fun ok wd1 σ2 H1 cv d l hs hr hx => ok _ H1 cv d (Le.cutB l hn) (hr.cutB _) (XR.same (wd := wd1) rfl rfl hx)
  | bad => exact fun ok => ok.elim
end

/-! ### calls -/
/-- a def that may be called here: dfl are its defaults that are not written -/
structure FnJ (g : G) (f : Addr) (dfl : List D) (F : FV) : Prop where
  ex : ∃ fd ps k ds dvs, FnOk g.P g.w g.K g.mg g.base (L2.CX g.P g.w) k f fd ps (spF g.K g.cls ps.length F) ∧ k ≤ g.k ∧ PySem.W.keepIn g.K (.ref f) = true ∧ L2.Binds g.K fd ps ds ∧ Vals dvs ds ∧ (∀ wd, RDs g.K wd dfl dvs) ∧ ∀ args S, args.length ≠ ps.length → F args S = .bad
section
variable {g : G} {f : Addr} {dfl : List D} {F : FV} {pos apos p : Pos} {e o : Expr} {es : List Expr} {Ts : EVs} {T To : EV} {x : Str}
@[simp] noncomputable def eCallF (F : FV) (dfl : List D) (Ts : EVs) : EV := fun σ S => (Ts σ S).bind fun vs S1 => F (vs ++ dfl.map .d) S1
theorem FnOk.to {X : Cx} {CX : CXT} {k : Nat} {fd : FuncData} {ps : List Str} {sp : Sp} (hX : Good g X) (h : FnOk g.P g.w g.K g.mg g.base CX k f fd ps sp) : FnOk X.prog X.w X.K X.mg X.base CX k f fd ps sp := by
  rw [hX.P, hX.w, hX.K, hX.mg, hX.base]; exact h
theorem okE_C {W : WX} {σ : St} {wd : Wd} {Q : VK} {o : Out Vl} (h : OkE g.K g.cls W σ wd Q o) : OkC g.K g.cls wd Q (WE W σ) o := by
  cases o with
  | ok v S => exact h
  | exc c fs S => exact h
  | bad => exact h
/-- f(a, ..) -/
theorem je_call (h : FnJ g f dfl F) (hg : GlS g x) (hm : g.mg x = some (.ref f)) (ha : JA g (e :: es) Ts) (hdb : (x == ("__debug__" : Str)) = false := by decide)
    (he : ∀ env, starEach (e :: es) env = (false, eval e env) :: starEach es env := by intro _; rfl) (hpl : ∀ env, (backTo pos (starEach es env)).any (·.1) = false := by intro _; rfl) : JE g (.Call (.Name x p) (e :: es) [] pos) (eCallF F dfl Ts) := fun X hX W tk => by
  obtain ⟨fd, ps, k, ds, dvs, hF, hk, kp, hb, hd, hr, har⟩ := h.ex
  have tk' : ∀ σ, PassesAt (L2.CX g.P g.w) X σ (WE W σ) := fun σ => by
    have := passAt tk σ
    rw [hX.P, hX.w] at this; exact this
  refine (pe_callSD (E := WE W) (FnOk.to hX hF) (hX.room.mono hk) (gl_of hX hg) (by rw [hX.mg]; exact hm) (by rw [hX.K]; exact kp) (by rw [hX.K]; exact hb) hd tk' (ha X hX W tk) hdb (he X.env) (hpl X.env)).imp fun σ H Q h => ?_
  obtain ⟨wd, σ', S, hs, hh, h⟩ := h
  refine ⟨wd, σ', S, hs, hh, ?_⟩
  have h1 := OkA_bindE h
  revert h1
  cases Ts σ' S with
  | ok v S1 =>
    intro h1 wd1 xs H1 l hr1 rv
    obtain ⟨v', wd2, S2, l2, hr2, rw2, h2⟩ := h1 wd1 xs H1 l hr1 rv
    have r3 := rw2.append (RWs.ofD (hr wd2))
    refine ⟨?_, wd2, _, S2, hr2, r3, okE_C h2⟩
    rw [← r3.length]
    refine Decidable.byContradiction fun hn => ?_
    rw [har _ _ hn] at h2
    exact h2
  | exc c fs S1 => intro h1; exact h1
  | bad => intro h1; exact h1
end
end Ev

set_option Elab.async false
set_option linter.all false
set_option maxRecDepth 100000
set_option maxHeartbeats 1000000
/-! Ev7: comprehensions. -/
namespace Ev
open PySem PySem.Spec PyProof.Rows L2
open Classical
/-! ### slots forgotten -/
def wipeV (σ : Sl) : List Nat → Sl
  | [] => σ
  | v :: vs => (wipeV σ vs).set v none
theorem wipeV_some {σ : Sl} {i : Nat} {x : Vl} : ∀ {vs : List Nat}, (wipeV σ vs)[i]? = some (some x) → σ[i]? = some (some x) ∧ i ∉ vs
  | [], h => ⟨h, by simp⟩
  | v :: vs, h => by
    unfold wipeV at h
    by_cases hi : v = i
    · subst hi
      by_cases hv : v < (wipeV σ vs).length
      · rw [List.getElem?_set_self hv] at h; cases h
      · rw [List.getElem?_eq_none (by simpa using hv)] at h; cases h
    · rw [List.getElem?_set_ne hi] at h
      obtain ⟨h1, h2⟩ := wipeV_some h
      exact ⟨h1, by simp only [List.mem_cons, not_or]; exact ⟨fun e => hi e.symm, h2⟩⟩
theorem wipe_get (σ : L2.St) : ∀ (vs : List Nat) (i : Nat), (wipe σ vs)[i]? = if i ∈ vs ∧ i < σ.length then some none else σ[i]?
  | [], i => by simp [wipe]
  | v :: vs, i => by
    unfold wipe
    by_cases hi : v = i
    · subst hi
      by_cases hv : v < σ.length
      · rw [List.getElem?_set_self (by rw [wipe_length]; exact hv)]; simp [hv]
      · rw [List.getElem?_eq_none (by simp [wipe_length]; omega), if_neg (by simp [hv]), List.getElem?_eq_none (by omega)]
    · rw [List.getElem?_set_ne hi, wipe_get σ vs i]
      have : (i ∈ v :: vs) ↔ i ∈ vs := by simp [Ne.symm hi]
      simp only [this]
theorem wipe_eq {σ σ2 : L2.St} {vs : List Nat} (hl : σ2.length = σ.length) (h : ∀ i : Nat, i ∉ vs → σ2[i]? = σ[i]?) : wipe σ2 vs = wipe σ vs := by
  refine List.ext_getElem? fun i => ?_
  rw [wipe_get, wipe_get, hl]
  by_cases hi : i ∈ vs
  · by_cases hl2 : i < σ.length
    · rw [if_pos ⟨hi, hl2⟩, if_pos ⟨hi, hl2⟩]
    · rw [if_neg (fun z => hl2 z.2), if_neg (fun z => hl2 z.2), List.getElem?_eq_none (by omega), List.getElem?_eq_none (by omega)]
  · rw [if_neg (fun z => hi z.1), if_neg (fun z => hi z.1), h i hi]
theorem SR.wipe {K wd σ' σ} (h : SR K wd σ' σ) (vs : List Nat) : SR K wd (wipeV σ' vs) (L2.wipe σ vs) := fun i v e => by
  obtain ⟨e1, e2⟩ := wipeV_some e
  obtain ⟨x, ex, r⟩ := h i v e1
  exact ⟨x, by rw [wipe_out e2]; exact ex, r⟩
/-! ### a list in the making -/
def Wd.push (wd : Wd) (a : Addr) (vs : List V) : Wd := { wd with an := (a, vs) :: wd.an }
section
variable {K : PySem.W.Frag} {cls : String → Addr} {wd : Wd} {S : Sta} {H : Hp} {a : Addr} {vs : List V}
theorem RD.an {x v} {l : List (Addr × List V)} (h : RD K wd x v) : RD K { wd with an := l } x v := RD.same (wd := wd) (wd' := { wd with an := l }) rfl rfl x v h
theorem RDs.an {x v} {l : List (Addr × List V)} (h : RDs K wd x v) : RDs K { wd with an := l } x v := RDs.same (wd := wd) (wd' := { wd with an := l }) rfl rfl x v h
theorem HR.anew (h : HR K cls wd S H) {l : List (Addr × List V)} (h1 : ∀ p ∈ l, H p.1 = some (.lst p.2) ∧ wd.fz p.1 = none ∧ p.1 ∉ wd.bx) (h2 : (l.map (·.1)).Nodup) : HR K cls { wd with an := l } S H :=
  ⟨h.fz, h.bn, fun i m e => let ⟨a, vs, e1, e2, e3, r⟩ := h.live i m e; ⟨a, vs, e1, e2, e3, r.an⟩, fun i m e => let ⟨a, vs, e1, e2, r⟩ := h.froz i m e; ⟨a, vs, e1, e2, r.an⟩, h.bnd, h.on, h.ond,
    fun i o e => let ⟨a, e1, r⟩ := h.ob i o e; ⟨a, e1, ObAt.same (wd := wd) rfl rfl r⟩, h1, h2, h.nfz⟩
theorem HR.pushAn (h : HR K cls wd S H) (n : H a = none) : HR K cls (wd.push a []) S (upd H a (.lst [])) := by
  refine HR.anew (wd := wd) (h.lay n) (fun p hp => ?_) ?_
  · rcases List.mem_cons.mp hp with rfl | hp
    · exact ⟨upd_same, h.fz_none n, h.bx_none n⟩
    · obtain ⟨e1, e2, e3⟩ := h.an p hp
      exact ⟨by rw [upd_ne (ne_of_none e1 n)]; exact e1, e2, e3⟩
  · rw [List.map_cons, List.nodup_cons]; exact ⟨h.an_none n, h.annd⟩
theorem HR.popAn (h : HR K cls (wd.push a vs) S H) : HR K cls wd S H ∧ H a = some (.lst vs) ∧ wd.fz a = none ∧ a ∉ wd.bx ∧ a ∉ wd.an.map (·.1) := by
  have h0 := h.an (a, vs) (List.mem_cons_self ..)
  refine ⟨HR.anew (wd := wd.push a vs) (l := wd.an) h (fun p hp => h.an p (List.mem_cons_of_mem _ hp)) ?_, h0.1, h0.2.1, h0.2.2, ?_⟩
  · have := h.annd
    exact (List.nodup_cons.mp (by simpa [Wd.push] using this)).2
  · have := h.annd
    have h2 := (List.nodup_cons.mp (show (a :: wd.an.map (·.1)).Nodup from by simpa [Wd.push] using this)).1
    exact h2
theorem HR.setAn {us : List V} (h : HR K cls (wd.push a vs) S H) : HR K cls (wd.push a us) S (upd H a (.lst us)) := by
  obtain ⟨h1, e1, e2, e3, e4⟩ := h.popAn
  have nb : ∀ (i : Nat) (b : Addr), wd.bx[i]? = some b → b ≠ a := fun i b q z => e3 (z ▸ List.mem_of_getElem? q)
  have base : HR K cls wd S (upd H a (.lst us)) := by
    refine ⟨fun p o q => ?_, h1.bn, fun i m q => ?_, h1.froz, h1.bnd, h1.on, h1.ond, fun i o q => ?_, fun p hp => ?_, h1.annd, h1.nfz⟩
    · rw [upd_ne (fun z => by subst z; rw [e2] at q; cases q)]; exact h1.fz p o q
    · obtain ⟨b, ws, q1, q2, q3, r⟩ := h1.live i m q
      exact ⟨b, ws, q1, by rw [upd_ne (nb i b q1)]; exact q2, q3, r⟩
    · obtain ⟨b, q1, r⟩ := h1.ob i o q
      refine ⟨b, q1, r.at_ne ?_⟩
      intro z; subst z
      cases o with
      | ins c fs => obtain ⟨dx, vfs, q3, _⟩ := r; rw [e1] at q3; cases q3
      | dic kvs => obtain ⟨vk, q3, _⟩ := r; rw [e1] at q3; cases q3
      | dlk kvs => obtain ⟨od, vk, q3, _⟩ := r; rw [e1] at q3; cases q3
    · obtain ⟨q1, q2, q3⟩ := h1.an p hp
      refine ⟨?_, q2, q3⟩
      rw [upd_ne]; exact q1
      intro z; exact e4 (z ▸ List.mem_map_of_mem hp)
  refine HR.anew (wd := wd) base (fun p hp => ?_) ?_
  · rcases List.mem_cons.mp hp with rfl | hp
    · exact ⟨upd_same, e2, e3⟩
    · exact base.an p hp
  · rw [List.map_cons, List.nodup_cons]; exact ⟨e4, h1.annd⟩
/-- a world that keeps the list in the making is one's own with it -/
theorem Le.unpush {wd' : Wd} (l : (wd.push a vs).Le wd') : ∃ w, wd.Le w ∧ wd' = w.push a vs := by
  refine ⟨{ wd' with an := wd.an }, ⟨l.fz, l.bx, l.ob, rfl⟩, ?_⟩
  have := l.an
  unfold Wd.push at this ⊢
  simp only at this
  rw [← this]
end

/-- the tests of a clause -/
def JTs (g : G) (ifs : List Expr) (T : TV) : Prop := ∀ X, Good g X → ∀ W, Takes X W → PTs X ifs (LT g.K g.cls W T)
@[simp] def tTrue : TV := fun _ S => .ok true S
section
variable {g : G} {pos : Pos} {elt tg it c : Expr} {T : EV} {TA : TV} {I : IV} {Gt : GV} {ix : List Nat} {scope : Scope} {own : List (Str × Nat)} {ifs : List Expr}
theorem jts_nil : JTs g [] tTrue := fun X hX W tk => ⟨fun pins s σ H Q I h => (pts_nil (X := X)).run pins s σ H Q I (by
  obtain ⟨wd, σ', S, hs, hh, h⟩ := h
  exact h wd H (.refl _) hh)⟩
theorem jts_one (h : JT g c TA) : JTs g [c] TA := fun X hX W tk => pts_one (h X hX W tk)
abbrev G.blk (g : G) (scope : Scope) : G := { g with sc := relS scope g.sc, own := fun x => scope.names.lookup x == some .cell }
theorem good_blk {X : Cx} (hX : Good g X) (s : Shared) (H : Hp) (C : Addr) (cl : List (Str × Addr)) (fp : List Addr) : Good (g.blk scope) (X.blk s H scope (compEnvC scope cl C X.env) fp) :=
  ⟨hX.P, hX.w, hX.K, hX.mg, hX.base, hX.N, by show relS scope X.env.scope = _; rw [hX.sc], hX.nd, hX.calm, hX.room, fun x h => h⟩
/-- the loop of a comprehension: a step for each item, over the list so far -/
noncomputable def loopL (chk : Sta → Bool) (tg : GV) (step : Sl → List D → Sta → Out (List D)) (σ : Sl) : List D → List D → Sta → Out (List D)
  | [], acc, S => if chk S = true then .ok acc S else .bad
  | x :: r, acc, S => if chk S = true then match tg x σ with
    | none => .bad
    | some σ1 => match step σ1 acc S with
      | .ok acc2 S2 => loopL chk tg step σ r acc2 S2
      | _ => .bad
    else .bad
@[simp] noncomputable def appD (acc : List D) (v : Vl) (S : Sta) : Out (List D) := match toD (frz v) S with
  | some (y, S3) => if acc.length < sizeLine then .ok (acc ++ [y]) S3 else .bad
  | none => .bad
@[simp] noncomputable def eltStep (TA : TV) (T : EV) : Sl → List D → Sta → Out (List D) := fun σ1 acc S => match TA σ1 S with
  | .ok true S1 => match T σ1 S1 with
    | .ok v S2 => appD acc v S2
    | _ => .bad
  | .ok false S1 => .ok acc S1
  | _ => .bad
@[simp] noncomputable def eLc (vs : List Nat) (I : IV) (Gt : GV) (TA : TV) (T : EV) : EV := fun σ S => match I σ S with
  | .ok p S1 => match loopL p.2 Gt (eltStep TA T) (wipeV σ vs) p.1 [] S1 with
    | .ok l S2 => .ok (.new l) S2
    | _ => .bad
  | .exc c fs S1 => .exc c fs S1
  | .bad => .bad
def OkL (K : PySem.W.Frag) (cls : String → Addr) (wd : Wd) (Q : VK) : Out (List D) → Prop
  | .ok l S3 => ∀ wd3 x H3, wd.Le wd3 → HR K cls wd3 S3 H3 → RV K wd3 H3 (.new l) x → Q x H3
  | _ => False
theorem OkL.mono {K cls wd wd' Q} (l : wd.Le wd') : ∀ {o : Out (List D)}, OkL K cls wd Q o → OkL K cls wd' Q o
  | .ok _ _, h => fun w1 x H1 l1 => h w1 x H1 (l.trans l1)
  | .exc _ _ _, h => h
  | .bad, h => h
abbrev W0 : WX := fun _ _ _ _ => False
/-- an element is put behind the list in the making -/
theorem app_read {w : Wd} {D0 : Addr} {vacc : List V} {acc : List D} {S S3 : Sta} {H : Hp} {v : Vl} {y : V} {l2 : List D} (hr : HR g.K g.cls (w.push D0 vacc) S H) (rv : RV g.K (w.push D0 vacc) H v y) (ra : RDs g.K w acc vacc) (e : appD acc v S = .ok l2 S3) :
    H D0 = some (.lst vacc) ∧ vacc.length < sizeLine ∧ ∃ w3, w.Le w3 ∧ HR g.K g.cls (w3.push D0 (vacc ++ [y])) S3 (upd H D0 (.lst (vacc ++ [y]))) ∧ RDs g.K w3 l2 (vacc ++ [y]) := by
  unfold appD at e
  split at e
  · rename_i z S4 ez
    split at e
    · rename_i hz
      cases e
      obtain ⟨w1, l1, h1, r1⟩ := rv.frz hr
      obtain ⟨w2, l2, h2, r2⟩ := RW.toD h1 r1 ez
      obtain ⟨w3, l3, rfl⟩ := Le.unpush (l1.trans l2)
      refine ⟨h2.popAn.2.1, by rw [← ra.length]; exact hz, w3, l3, h2.setAn, ?_⟩
      have r2' : RD g.K w3 z y := RD.same (wd := w3.push D0 vacc) (wd' := w3) rfl rfl z y r2
      exact (RDs.mono _ l3 _ _ ra).append (.one r2')
    · cases e
  · cases e
theorem lc_read {vs : List Nat} {W : WX} {σ : L2.St} {H : Hp} {Q : VK} (hix : ∀ i ∈ ix, i ∈ vs) (h : LE g.K g.cls W (eLc vs I Gt TA T) σ H Q) :
    tLc (LI g.K g.cls W I) (LG g.K g.cls Gt ix) (LT g.K g.cls W0 TA) (LE g.K g.cls W0 T) vs σ H Q := by
  obtain ⟨wd, σ', S, hs, hh, h⟩ := h
  refine ⟨wd, σ', S, hs, hh, ?_⟩
  unfold eLc at h
  revert h
  cases I σ' S with
  | exc c fs S1 => exact fun h => h
  | bad => exact fun h => h
  | ok p S1 =>
    intro h wd1 H1 J l1 hr1 hJ D0 hD
    obtain ⟨items, chk⟩ := p
    have h' : OkL g.K g.cls wd Q (loopL chk Gt (eltStep TA T) (wipeV σ' vs) items [] S1) := by
      revert h
      dsimp only
      cases loopL chk Gt (eltStep TA T) (wipeV σ' vs) items [] S1 with
      | ok l S2 => exact fun h => h
      | exc c fs S2 => exact fun h => h.elim
      | bad => exact fun h => h.elim
    refine ⟨fun i m H2 => ∃ w S2 acc vacc, wd1.Le w ∧ HR g.K g.cls (w.push D0 vacc) S2 H2 ∧ RDs g.K w acc vacc ∧ m = items.length - i ∧ i ≤ items.length ∧ OkL g.K g.cls w Q (loopL chk Gt (eltStep TA T) (wipeV σ' vs) (items.drop i) acc S2),
      ⟨items.length, wd1, S1, [], [], .refl _, hr1.pushAn hD, by simp [RDs], by simp, Nat.zero_le _, OkL.mono l1 h'⟩, ?_⟩
    rintro i m H2 ⟨w, S2, acc, vacc, lw, hr2, ra, rfl, hi, h2⟩
    have lx : LeX wd1 (w.push D0 vacc) := ⟨lw.fz, lw.bx, lw.ob⟩
    by_cases hlt : i < items.length
    · obtain ⟨x, ex⟩ : ∃ x, items[i]? = some x := ⟨_, List.getElem?_eq_getElem hlt⟩
      have ed : items.drop i = x :: items.drop (i + 1) := by
        rw [List.drop_eq_getElem_cons hlt]
        have := List.getElem?_eq_getElem hlt
        rw [ex] at this; cases this; rfl
      rw [ed] at h2
      unfold loopL at h2
      split at h2
      · rename_i hc
        obtain ⟨_, hgo⟩ := hJ _ S2 H2 lx hr2 hc
        obtain ⟨go, hy⟩ := hgo i x ex
        refine .inr ⟨go, fun H3 => ∃ w S2 acc vacc, wd1.Le w ∧ HR g.K g.cls (w.push D0 vacc) S2 H3 ∧ RDs g.K w acc vacc ∧ i + 1 ≤ items.length ∧ OkL g.K g.cls w Q (loopL chk Gt (eltStep TA T) (wipeV σ' vs) (items.drop (i + 1)) acc S2),
          fun H3 ⟨w, S2, acc, vacc, q1, q2, q3, q4, q5⟩ => ⟨items.length - (i + 1), by omega, w, S2, acc, vacc, q1, q2, q3, rfl, q4, q5⟩, fun v H3 y => ?_⟩
        obtain ⟨wd3, l3, hr3, rd⟩ := hy v H3 y
        obtain ⟨w3, l3', rfl⟩ := Le.unpush l3
        split at h2
        · exact h2.elim
        · rename_i σ4 e4
          refine ⟨w3.push D0 vacc, wipeV σ' vs, S2, x, ?_, hr3, rd, σ4, e4, fun σ5 hs5 hl5 hx5 => ⟨?_, ?_⟩⟩
          · refine SR.wipe (fun j z ez => ?_) _
            obtain ⟨q, eq, rq⟩ := (hs.mono (l1.trans lw)).mono l3' j z ez
            exact ⟨q, eq, RW.x rq ⟨fun _ _ q => q, List.prefix_refl _, List.prefix_refl _⟩⟩
          · rw [wipe_eq hl5 (fun j hj => hx5 j fun z => hj (hix j z))]
            refine wipe_eq (by rw [wipe_length]) fun j hj => wipe_out hj
          · refine ⟨w3.push D0 vacc, σ4, S2, hs5, hr3, ?_⟩
            unfold eltStep at h2
            revert h2
            cases TA σ4 S2 with
            | exc c fs S3 => exact fun h => h.elim
            | bad => exact fun h => h.elim
            | ok b S3 =>
              intro h2 wd4 H4 l4 hr4
              obtain ⟨w4, l4', rfl⟩ := Le.unpush l4
              cases b with
              | false =>
                rw [if_neg Bool.false_ne_true]
                exact ⟨w4, S3, acc, vacc, (lw.trans l3').trans l4', hr4, RDs.mono _ (l3'.trans l4') _ _ ra, hlt, OkL.mono (l3'.trans l4') h2⟩
              | true =>
                rw [if_pos rfl]
                refine ⟨w4.push D0 vacc, σ4, S3, hs5.mono l4, hr4, ?_⟩
                revert h2
                dsimp only
                cases T σ4 S3 with
                | exc c fs S5 => exact fun h => h.elim
                | bad => exact fun h => h.elim
                | ok v5 S5 =>
                  intro h2 wd5 y5 H5 l5 hr5 rv5
                  obtain ⟨w5, l5', rfl⟩ := Le.unpush l5
                  dsimp only at h2
                  split at h2
                  · rename_i acc6 S6 e6
                    obtain ⟨q1, q2, w6, l6, q3, q4⟩ := app_read hr5 rv5 (RDs.mono _ ((l3'.trans l4').trans l5') _ _ ra) e6
                    exact ⟨vacc, q1, q2, w6, S6, acc6, _, (((lw.trans l3').trans l4').trans l5').trans l6, q3, q4, hlt, OkL.mono (((l3'.trans l4').trans l5').trans l6) h2⟩
                  · exact h2.elim
      · exact h2.elim
    · have e : i = items.length := by omega
      subst e
      rw [List.drop_length] at h2
      unfold loopL at h2
      split at h2
      · rename_i hc
        obtain ⟨st, _⟩ := hJ _ S2 H2 lx hr2 hc
        obtain ⟨p1, p2, p3, p4, p5⟩ := hr2.popAn
        exact .inl ⟨st, h2 w _ H2 (.refl _) p1 ⟨D0, vacc, rfl, p2, p3, p4, p5, ra⟩⟩
      · exact h2.elim

theorem je_lc (hi : JI g tg it I) (hg : JG (g.blk scope) tg Gt ix) (ht : JTs (g.blk scope) ifs TA) (he : JE (g.blk scope) elt T) (ok : BlkOk g.N g.sc scope own) (hix : ∀ i ∈ ix, i ∈ own.map (·.2) := by decide) (hs : ∀ env x, foldedSetIterable it env x = pure x := by intro _ _; rfl) :
    JE g (.ListComp elt [⟨tg, it, ifs, 0⟩] scope pos) (eLc (own.map (·.2)) I Gt TA T) := fun X hX W tk =>
  (pe_lc hX.calm (by rw [hX.N]; exact hX.nd) (hi X hX W tk) (by rw [hX.N, hX.sc]; exact ok) (fun s H C cl fp => hg _ (good_blk hX s H C cl fp)) (fun s H C cl fp => ht _ (good_blk hX s H C cl fp) W0 takes0) (fun s H C cl fp => he _ (good_blk hX s H C cl fp) W0 takes0) (hs X.env)).imp fun σ H Q h => lc_read hix h
end
end Ev

set_option Elab.async false
set_option linter.all false
set_option maxRecDepth 100000
set_option maxHeartbeats 1000000
/-! Ev8: two clauses; a comprehension that is given to a name; fields; methods; makers. -/
namespace Ev
open PySem PySem.Spec PyProof.Rows L2
open Classical
section
variable {g : G} {pos spos : Pos} {elt tg it c tg1 it1 : Expr} {T : EV} {TA TA1 : TV} {I I1 : IV} {Gt Gt1 : GV} {ix ix1 : List Nat} {scope : Scope} {own : List (Str × Nat)} {ifs ifs1 : List Expr} {vs1 : List Nat}
@[simp] noncomputable def innerStep (TA : TV) (vs1 : List Nat) (I1 : IV) (Gt1 : GV) (TA1 : TV) (T : EV) : Sl → List D → Sta → Out (List D) := fun σ1 acc S => match TA σ1 S with
  | .ok true S1 => match I1 σ1 S1 with
    | .ok p S2 => loopL p.2 Gt1 (eltStep TA1 T) (wipeV σ1 vs1) p.1 acc S2
    | _ => .bad
  | .ok false S1 => .ok acc S1
  | _ => .bad
@[simp] noncomputable def eLc2 (vs : List Nat) (I : IV) (Gt : GV) (TA : TV) (vs1 : List Nat) (I1 : IV) (Gt1 : GV) (TA1 : TV) (T : EV) : EV := fun σ S => match I σ S with
  | .ok p S1 => match loopL p.2 Gt (innerStep TA vs1 I1 Gt1 TA1 T) (wipeV σ vs) p.1 [] S1 with
    | .ok l S2 => .ok (.new l) S2
    | _ => .bad
  | .exc c fs S1 => .exc c fs S1
  | .bad => .bad
theorem drop_at {α : Type} {l : List α} {i : Nat} {x : α} (h : i < l.length) (e : l[i]? = some x) : l.drop i = x :: l.drop (i + 1) := by
  rw [List.drop_eq_getElem_cons h]
  have := List.getElem?_eq_getElem h
  rw [e] at this; cases this; rfl
theorem lc2_read {vs : List Nat} {W : WX} {σ : L2.St} {H : Hp} {Q : VK} (hix : ∀ i ∈ ix, i ∈ vs) (hix1 : ∀ i ∈ ix1, i ∈ vs1) (h : LE g.K g.cls W (eLc2 vs I Gt TA vs1 I1 Gt1 TA1 T) σ H Q) :
    tLc2 (LI g.K g.cls W I) (LG g.K g.cls Gt ix) (LT g.K g.cls W0 TA) (LI g.K g.cls W0 I1) (LG g.K g.cls Gt1 ix1) (LT g.K g.cls W0 TA1) (LE g.K g.cls W0 T) vs vs1 σ H Q := by
  obtain ⟨wd, σ', S, hs, hh, h⟩ := h
  refine ⟨wd, σ', S, hs, hh, ?_⟩
  unfold eLc2 at h
  revert h
  cases I σ' S with
  | exc c fs S1 => exact fun h => h
  | bad => exact fun h => h
  | ok p S1 =>
    intro h wd1 H1 J l1 hr1 hJ D0 hD
    obtain ⟨items, chk⟩ := p
    generalize hst : innerStep TA vs1 I1 Gt1 TA1 T = st at h
    have h' : OkL g.K g.cls wd Q (loopL chk Gt st (wipeV σ' vs) items [] S1) := by
      revert h
      dsimp only
      cases loopL chk Gt st (wipeV σ' vs) items [] S1 with
      | ok l S2 => exact fun h => h
      | exc c fs S2 => exact fun h => h.elim
      | bad => exact fun h => h.elim
    refine ⟨fun i m H2 => ∃ w S2 acc vacc, wd1.Le w ∧ HR g.K g.cls (w.push D0 vacc) S2 H2 ∧ RDs g.K w acc vacc ∧ m = items.length - i ∧ i ≤ items.length ∧ OkL g.K g.cls w Q (loopL chk Gt st (wipeV σ' vs) (items.drop i) acc S2),
      ⟨items.length, wd1, S1, [], [], .refl _, hr1.pushAn hD, by simp [RDs], by simp, Nat.zero_le _, OkL.mono l1 h'⟩, ?_⟩
    rintro i m H2 ⟨w, S2, acc, vacc, lw, hr2, ra, rfl, hi, h2⟩
    have lx : LeX wd1 (w.push D0 vacc) := ⟨lw.fz, lw.bx, lw.ob⟩
    by_cases hlt : i < items.length
    · obtain ⟨x, ex⟩ : ∃ x, items[i]? = some x := ⟨_, List.getElem?_eq_getElem hlt⟩
      rw [drop_at hlt ex] at h2
      unfold loopL at h2
      split at h2
      · rename_i hc
        obtain ⟨_, hgo⟩ := hJ _ S2 H2 lx hr2 hc
        obtain ⟨go, hy⟩ := hgo i x ex
        refine .inr ⟨go, fun H3 => ∃ w S2 acc vacc, wd1.Le w ∧ HR g.K g.cls (w.push D0 vacc) S2 H3 ∧ RDs g.K w acc vacc ∧ i + 1 ≤ items.length ∧ OkL g.K g.cls w Q (loopL chk Gt st (wipeV σ' vs) (items.drop (i + 1)) acc S2),
          fun H3 ⟨w, S2, acc, vacc, q1, q2, q3, q4, q5⟩ => ⟨items.length - (i + 1), by omega, w, S2, acc, vacc, q1, q2, q3, rfl, q4, q5⟩, fun v H3 y => ?_⟩
        obtain ⟨wd3, l3, hr3, rd⟩ := hy v H3 y
        obtain ⟨w3, l3', rfl⟩ := Le.unpush l3
        split at h2
        · exact h2.elim
        · rename_i σ4 e4
          have hsw : SR g.K (w3.push D0 vacc) (wipeV σ' vs) (wipe σ vs) := by
            refine SR.wipe (fun j z ez => ?_) _
            obtain ⟨q, eq, rq⟩ := (hs.mono (l1.trans lw)).mono l3' j z ez
            exact ⟨q, eq, RW.x rq ⟨fun _ _ q => q, List.prefix_refl _, List.prefix_refl _⟩⟩
          refine ⟨w3.push D0 vacc, wipeV σ' vs, S2, x, hsw, hr3, rd, σ4, e4, fun σ5 hs5 hl5 hx5 => ⟨?_, ?_⟩⟩
          · rw [wipe_eq hl5 (fun j hj => hx5 j fun z => hj (hix j z))]
            refine wipe_eq (by rw [wipe_length]) fun j hj => wipe_out hj
          · refine ⟨w3.push D0 vacc, σ4, S2, hs5, hr3, ?_⟩
            have hs4 : st σ4 acc S2 = (match TA σ4 S2 with
              | .ok true S1 => match I1 σ4 S1 with
                | .ok p S2 => loopL p.2 Gt1 (eltStep TA1 T) (wipeV σ4 vs1) p.1 acc S2
                | _ => .bad
              | .ok false S1 => .ok acc S1
              | _ => .bad) := by rw [← hst]; rfl
            rw [hs4] at h2
            clear hs4
            generalize loopL chk Gt st (wipeV σ' vs) (items.drop (i + 1)) = R at h2 ⊢
            revert h2
            cases TA σ4 S2 with
            | exc c fs S3 => exact fun h => h.elim
            | bad => exact fun h => h.elim
            | ok b S3 =>
              intro h2 wd4 H4 l4 hr4
              obtain ⟨w4, l4', rfl⟩ := Le.unpush l4
              cases b with
              | false =>
                rw [if_neg Bool.false_ne_true]
                exact ⟨w4, S3, acc, vacc, (lw.trans l3').trans l4', hr4, RDs.mono _ (l3'.trans l4') _ _ ra, hlt, OkL.mono (l3'.trans l4') h2⟩
              | true =>
                rw [if_pos rfl]
                refine ⟨w4.push D0 vacc, σ4, S3, hs5.mono l4, hr4, ?_⟩
                revert h2
                dsimp only
                cases I1 σ4 S3 with
                | exc c fs S5 => exact fun h => h.elim
                | bad => exact fun h => h.elim
                | ok p5 S5 =>
                  obtain ⟨items1, chk1⟩ := p5
                  intro h2 wd5 H5 J1 l5 hr5 hJ1
                  obtain ⟨w5, l5', rfl⟩ := Le.unpush l5
                  dsimp only at h2
                  refine ⟨fun j k H6 => ∃ w6 S6 acc6 vacc6, w5.Le w6 ∧ HR g.K g.cls (w6.push D0 vacc6) S6 H6 ∧ RDs g.K w6 acc6 vacc6 ∧ k = items1.length - j ∧ j ≤ items1.length ∧
                    OkL g.K g.cls w6 Q (match loopL chk1 Gt1 (eltStep TA1 T) (wipeV σ4 vs1) (items1.drop j) acc6 S6 with
                      | .ok acc2 S2 => R acc2 S2
                      | _ => .bad), ⟨items1.length, w5, S5, acc, vacc, .refl _, hr5, RDs.mono _ ((l3'.trans l4').trans l5') _ _ ra, by simp, Nat.zero_le _, ?_⟩, ?_⟩
                  · exact OkL.mono ((l3'.trans l4').trans l5') h2
                  rintro j k H6 ⟨w6, S6, acc6, vacc6, l6, hr6, ra6, rfl, hj, h6⟩
                  have lx6 : LeX (w5.push D0 vacc) (w6.push D0 vacc6) := ⟨l6.fz, l6.bx, l6.ob⟩
                  by_cases hjt : j < items1.length
                  · obtain ⟨x6, ex6⟩ : ∃ x, items1[j]? = some x := ⟨_, List.getElem?_eq_getElem hjt⟩
                    rw [drop_at hjt ex6] at h6
                    unfold loopL at h6
                    split at h6
                    · rename_i acc7 S7 e7
                      split at e7
                      · rename_i hc6
                        obtain ⟨_, hgo6⟩ := hJ1 _ S6 H6 lx6 hr6 hc6
                        obtain ⟨go6, hy6⟩ := hgo6 j x6 ex6
                        refine .inr ⟨go6, fun H7 => ∃ w6 S6 acc6 vacc6, w5.Le w6 ∧ HR g.K g.cls (w6.push D0 vacc6) S6 H7 ∧ RDs g.K w6 acc6 vacc6 ∧ j + 1 ≤ items1.length ∧
                          OkL g.K g.cls w6 Q (match loopL chk1 Gt1 (eltStep TA1 T) (wipeV σ4 vs1) (items1.drop (j + 1)) acc6 S6 with
                            | .ok acc2 S2 => R acc2 S2
                            | _ => .bad), fun H7 ⟨w6, S6, acc6, vacc6, q1, q2, q3, q4, q5⟩ => ⟨items1.length - (j + 1), by omega, w6, S6, acc6, vacc6, q1, q2, q3, rfl, q4, q5⟩, fun v7 H7 y7 => ?_⟩
                        obtain ⟨wd7, l7, hr7, rd7⟩ := hy6 v7 H7 y7
                        obtain ⟨w7, l7', rfl⟩ := Le.unpush l7
                        split at e7
                        · cases e7
                        · rename_i σ7 et7
                          have hs7 : SR g.K (w7.push D0 vacc6) (wipeV σ4 vs1) (wipe σ5 vs1) := by
                            refine SR.wipe (fun jj z ez => ?_) _
                            obtain ⟨q, eq, rq⟩ := (hs5.mono l4).mono l5 jj z ez
                            exact ⟨q, eq, RW.x rq ⟨fun p o q => l7'.fz _ _ (l6.fz _ _ q), l6.bx.trans l7'.bx, l6.ob.trans l7'.ob⟩⟩
                          refine ⟨w7.push D0 vacc6, wipeV σ4 vs1, S6, x6, hs7, hr7, rd7, σ7, et7, fun σ8 hs8 hl8 hx8 => ⟨?_, ?_⟩⟩
                          · rw [wipe_eq hl8 (fun jj hjj => hx8 jj fun z => hjj (hix1 jj z))]
                            refine wipe_eq (by rw [wipe_length]) fun jj hjj => wipe_out hjj
                          · refine ⟨w7.push D0 vacc6, σ7, S6, hs8, hr7, ?_⟩
                            -- the element's step
                            have key : OkL g.K g.cls w6 Q (match (match eltStep TA1 T σ7 acc6 S6 with
                                | .ok acc2 S2 => loopL chk1 Gt1 (eltStep TA1 T) (wipeV σ4 vs1) (items1.drop (j + 1)) acc2 S2
                                | _ => .bad) with
                              | .ok acc2 S2 => R acc2 S2
                              | _ => .bad) := by
                              have e7' : (match eltStep TA1 T σ7 acc6 S6 with
                                | .ok acc2 S2 => loopL chk1 Gt1 (eltStep TA1 T) (wipeV σ4 vs1) (items1.drop (j + 1)) acc2 S2
                                | _ => .bad) = .ok acc7 S7 := e7
                              rw [e7']; exact h6
                            have hs9 : eltStep TA1 T σ7 acc6 S6 = (match TA1 σ7 S6 with
                                | .ok true S1 => match T σ7 S1 with
                                  | .ok v S2 => appD acc6 v S2
                                  | _ => .bad
                                | .ok false S1 => .ok acc6 S1
                                | _ => .bad) := rfl
                            rw [hs9] at key
                            clear hs9
                            revert key
                            cases TA1 σ7 S6 with
                            | exc c fs S3 => exact fun h => h.elim
                            | bad => exact fun h => h.elim
                            | ok b8 S8 =>
                              intro key wd8 H8 l8 hr8
                              obtain ⟨w8, l8', rfl⟩ := Le.unpush l8
                              cases b8 with
                              | false =>
                                rw [if_neg Bool.false_ne_true]
                                exact ⟨w8, S8, acc6, vacc6, (l6.trans l7').trans l8', hr8, RDs.mono _ (l7'.trans l8') _ _ ra6, hjt, OkL.mono (l7'.trans l8') key⟩
                              | true =>
                                rw [if_pos rfl]
                                refine ⟨w8.push D0 vacc6, σ7, S8, hs8.mono l8, hr8, ?_⟩
                                revert key
                                dsimp only
                                cases T σ7 S8 with
                                | exc c fs S9 => exact fun h => h.elim
                                | bad => exact fun h => h.elim
                                | ok v9 S9 =>
                                  intro key wd9 y9 H9 l9 hr9 rv9
                                  obtain ⟨w9, l9', rfl⟩ := Le.unpush l9
                                  dsimp only at key
                                  cases e10 : appD acc6 v9 S9 with
                                  | exc c fs S10 => rw [e10] at key; exact key.elim
                                  | bad => rw [e10] at key; exact key.elim
                                  | ok acc10 S10 =>
                                    rw [e10] at key
                                    obtain ⟨q1, q2, w10, l10, q3, q4⟩ := app_read hr9 rv9 (RDs.mono _ ((l7'.trans l8').trans l9') _ _ ra6) e10
                                    exact ⟨vacc6, q1, q2, w10, S10, acc10, _, (((l6.trans l7').trans l8').trans l9').trans l10, q3, q4, hjt, OkL.mono (((l7'.trans l8').trans l9').trans l10) key⟩
                      · cases e7
                    · exact h6.elim
                  · have e : j = items1.length := by omega
                    subst e
                    rw [List.drop_length] at h6
                    unfold loopL at h6
                    by_cases hc6 : chk1 S6 = true
                    · rw [if_pos hc6] at h6
                      obtain ⟨st6, _⟩ := hJ1 _ S6 H6 lx6 hr6 hc6
                      exact .inl ⟨st6, w6, S6, acc6, vacc6, (((lw.trans l3').trans l4').trans l5').trans l6, hr6, ra6, hlt, h6⟩
                    · rw [if_neg hc6] at h6
                      exact h6.elim
      · exact h2.elim
    · have e : i = items.length := by omega
      subst e
      rw [List.drop_length] at h2
      unfold loopL at h2
      split at h2
      · rename_i hc
        obtain ⟨st, _⟩ := hJ _ S2 H2 lx hr2 hc
        obtain ⟨p1, p2, p3, p4, p5⟩ := hr2.popAn
        exact .inl ⟨st, h2 w _ H2 (.refl _) p1 ⟨D0, vacc, rfl, p2, p3, p4, p5, ra⟩⟩
      · exact h2.elim
theorem je_lc2 (hi : JI g tg it I) (hg : JG (g.blk scope) tg Gt ix) (ht : JTs (g.blk scope) ifs TA) (hi1 : JI (g.blk scope) tg1 it1 I1) (hg1 : JG (g.blk scope) tg1 Gt1 ix1) (ht1 : JTs (g.blk scope) ifs1 TA1) (he : JE (g.blk scope) elt T) (ok : BlkOk g.N g.sc scope own)
    (hv : ∀ i ∈ vs1, i ∈ own.map (·.2) := by decide) (hix : ∀ i ∈ ix, i ∈ own.map (·.2) := by decide) (hix1 : ∀ i ∈ ix1, i ∈ vs1 := by decide) (hs : ∀ env x, foldedSetIterable it env x = pure x := by intro _ _; rfl) (hs1 : ∀ env x, foldedSetIterable it1 env x = pure x := by intro _ _; rfl) :
    JE g (.ListComp elt [⟨tg, it, ifs, 0⟩, ⟨tg1, it1, ifs1, 0⟩] scope pos) (eLc2 (own.map (·.2)) I Gt TA vs1 I1 Gt1 TA1 T) := fun X hX W tk =>
  (pe_lc2 (vs1 := vs1) hX.calm (by rw [hX.N]; exact hX.nd) (hi X hX W tk) (by rw [hX.N, hX.sc]; exact ok) hv (fun s H C cl fp => hg _ (good_blk hX s H C cl fp)) (fun s H C cl fp => ht _ (good_blk hX s H C cl fp) W0 takes0) (fun s H C cl fp => hi1 _ (good_blk hX s H C cl fp) W0 takes0)
    (fun s H C cl fp => hg1 _ (good_blk hX s H C cl fp)) (fun s H C cl fp => ht1 _ (good_blk hX s H C cl fp) W0 takes0) (fun s H C cl fp => he _ (good_blk hX s H C cl fp) W0 takes0) (hs X.env) hs1).imp fun σ H Q h => lc2_read hix hix1 h
/-! ### y = [..] -/
theorem set_read {W : WX} {E : Ends} {i : Nat} {σ : L2.St} {H : Hp} (hlt : i < σ.length) (h : LS g.K g.cls W (sSet i T) E σ H) : LE g.K g.cls W T σ H fun x H1 => E.nx (σ.set i (some x)) H1 := by
  obtain ⟨wd, σ', S, hs, hh, h⟩ := h
  refine ⟨wd, σ', S, hs, hh, ?_⟩
  have h1 := st_read hs h
  revert h1
  cases T σ' S with
  | ok v S1 =>
    intro h1 wd1 x H1 l hr rv
    obtain ⟨v', wd2, S2, l2, hr2, rw2, h2⟩ := h1 wd1 x H1 l hr rv
    obtain ⟨wd3, l3, hr3, r3⟩ := rw2.frz hr2
    exact h2 wd3 _ H1 l3 ((hs.mono (l2.trans l3)).put i r3 hlt) hr3
  | exc c fs S1 => intro h1; exact h1
  | bad => intro h1; exact h1
theorem setB_read' {W : WX} {E : Ends} {i : Nat} {σ : L2.St} {H : Hp} (hlt : i < σ.length) (h : LS g.K g.cls W (sSetB i T) E σ H) : LE g.K g.cls W T σ H fun x H1 => E.nx (σ.set i (some x)) H1 := by
  obtain ⟨wd, σ', S, hs, hh, h⟩ := h
  refine ⟨wd, σ', S, hs, hh, ?_⟩
  have h1 := st_read hs h
  revert h1
  cases T σ' S with
  | ok v S1 =>
    intro h1 wd1 x H1 l hr rv
    obtain ⟨v', wd2, S2, l2, hr2, rw2, h2⟩ := h1 wd1 x H1 l hr rv
    exact setB_read (hs.mono l2) hr2 rw2 hlt h2
  | exc c fs S1 => intro h1; exact h1
  | bad => intro h1; exact h1
/-- a statement of the form y = [..]: how a list that a comprehension makes comes to a name -/
def SetLc (g : G) (i : Nat) (st : Stmt) (T : EV) : Prop := ∀ X, GoodS g X → ∀ W, Takes X W → ∃ t : TE, PS X st (tAsg t (gName i)) ∧ (∀ σ H Q, LE g.K g.cls W T σ H Q → t σ H Q) ∧ i < X.N.length
theorem js_setL {i : Nat} {st : Stmt} (h : SetLc g i st T) : JS g st (sSet i T) := fun X hX W tk => by
  obtain ⟨t, h1, h2, h3⟩ := h X hX W tk
  exact h1.len fun E σ H hl q => h2 _ _ _ (set_read (by rw [hl]; exact h3) q)
theorem js_setLB {i : Nat} {st : Stmt} (h : SetLc g i st T) : JS g st (sSetB i T) := fun X hX W tk => by
  obtain ⟨t, h1, h2, h3⟩ := h X hX W tk
  exact h1.len fun E σ H hl q => h2 _ _ _ (setB_read' (by rw [hl]; exact h3) q)
theorem set_lc (i : Nat) {y : Str} {py : Pos} (hi : JI g tg it I) (hg : JG (g.blk scope) tg Gt ix) (ht : JTs (g.blk scope) ifs TA) (he : JE (g.blk scope) elt T) (ok : BlkOk g.N g.sc scope own) (hN : g.N[i]? = some y := by rfl) (hy : g.sc.names.lookup y = some .local := by rfl)
    (hl : (py.line == pos.line) = true := by rfl) (ha : (scope.names.any fun (n, k) => n == y && (k == .local || k == .cell)) = false := by decide +kernel)
    (hix : ∀ i ∈ ix, i ∈ own.map (·.2) := by decide) (hs : ∀ env x, foldedSetIterable it env x = pure x := by intro _ _; rfl) : SetLc g i (.Assign [.Name y py] (.ListComp elt [⟨tg, it, ifs, 0⟩] scope pos) spos) (eLc (own.map (·.2)) I Gt TA T) := fun X hX W tk =>
  ⟨_, ps_setLc (i := i) hX.calm (by rw [hX.N]; exact hX.nd) (by rw [hX.N]; exact hN) (by rw [hX.sc]; exact hy) (sw_true (by have := hX.kind_; exact this) (by rw [hX.sc]; exact hy) hl ha) (hi X hX.toGood W tk) (by rw [hX.N, hX.sc]; exact ok)
    (fun s H C cl fp => hg _ (good_blk hX.toGood s H C cl fp)) (fun s H C cl fp => ht _ (good_blk hX.toGood s H C cl fp) W0 takes0) (fun s H C cl fp => he _ (good_blk hX.toGood s H C cl fp) W0 takes0) (hs X.env), fun σ H Q h => lc_read hix h, by rw [hX.N]; exact (List.getElem?_eq_some_iff.mp hN).1⟩
theorem set_lc2 (i : Nat) {y : Str} {py : Pos} (hi : JI g tg it I) (hg : JG (g.blk scope) tg Gt ix) (ht : JTs (g.blk scope) ifs TA) (hi1 : JI (g.blk scope) tg1 it1 I1) (hg1 : JG (g.blk scope) tg1 Gt1 ix1) (ht1 : JTs (g.blk scope) ifs1 TA1) (he : JE (g.blk scope) elt T) (ok : BlkOk g.N g.sc scope own)
    (hN : g.N[i]? = some y := by rfl) (hy : g.sc.names.lookup y = some .local := by rfl)
    (hl : (py.line == pos.line) = true := by rfl) (ha : (scope.names.any fun (n, k) => n == y && (k == .local || k == .cell)) = false := by decide +kernel)
    (hv : ∀ i ∈ vs1, i ∈ own.map (·.2) := by decide) (hix : ∀ i ∈ ix, i ∈ own.map (·.2) := by decide) (hix1 : ∀ i ∈ ix1, i ∈ vs1 := by decide) (hs : ∀ env x, foldedSetIterable it env x = pure x := by intro _ _; rfl) (hs1 : ∀ env x, foldedSetIterable it1 env x = pure x := by intro _ _; rfl) :
    SetLc g i (.Assign [.Name y py] (.ListComp elt [⟨tg, it, ifs, 0⟩, ⟨tg1, it1, ifs1, 0⟩] scope pos) spos) (eLc2 (own.map (·.2)) I Gt TA vs1 I1 Gt1 TA1 T) := fun X hX W tk =>
  ⟨_, ps_setLc2 (vs1 := vs1) (i := i) hX.calm (by rw [hX.N]; exact hX.nd) (by rw [hX.N]; exact hN) (by rw [hX.sc]; exact hy) (sw_true (by have := hX.kind_; exact this) (by rw [hX.sc]; exact hy) hl ha) (hi X hX.toGood W tk) (by rw [hX.N, hX.sc]; exact ok) hv
    (fun s H C cl fp => hg _ (good_blk hX.toGood s H C cl fp)) (fun s H C cl fp => ht _ (good_blk hX.toGood s H C cl fp) W0 takes0) (fun s H C cl fp => hi1 _ (good_blk hX.toGood s H C cl fp) W0 takes0)
    (fun s H C cl fp => hg1 _ (good_blk hX.toGood s H C cl fp)) (fun s H C cl fp => ht1 _ (good_blk hX.toGood s H C cl fp) W0 takes0) (fun s H C cl fp => he _ (good_blk hX.toGood s H C cl fp) W0 takes0) (hs X.env) hs1,
    fun σ H Q h => lc2_read hix hix1 h, by rw [hX.N]; exact (List.getElem?_eq_some_iff.mp hN).1⟩
end
end Ev

set_option Elab.async false
set_option linter.all false
set_option maxRecDepth 100000
set_option maxHeartbeats 1000000
/-! Ev9: fields; methods; makers; keywords; join; the signs of a text; xs[i] = v. -/
namespace Ev
open PySem PySem.Spec PyProof.Rows L2
open Classical
/-! ### fields of instances -/
section
variable {K : PySem.W.Frag} {cls : String → Addr} {wd : Wd} {H : Hp} {S : Sta}
theorem enc_beq (f g : String) : (enc f == enc g) = (f == g) := by
  by_cases h : f = g
  · subst h; rw [beq_self_eq_true, beq_self_eq_true]
  · rw [beq_eq_false_iff_ne.mpr h, beq_eq_false_iff_ne.mpr fun e => h (enc_inj e)]
theorem RFs.look : ∀ {fs : List (String × D)} {vs : List (Str × V)} {f : String}, RFs K wd fs vs → (∀ x, fs.lookup f = some x → ∃ v, vs.lookup (enc f) = some v ∧ RD K wd x v) ∧ (fs.lookup f = none → vs.lookup (enc f) = none)
  | [], vs, f, h => by
    have h' : vs = [] := h
    subst h'
    exact ⟨fun x e => by simp at e, fun _ => rfl⟩
  | (k, y) :: r, vs, f, h => by
    obtain ⟨⟨k', v⟩, vr, rfl, e1, r1, r2⟩ := h
    dsimp only at e1 r1
    subst e1
    have ih := RFs.look (f := f) r2
    simp only [List.lookup_cons, enc_beq]
    cases hb : (f == k) with
    | true => exact ⟨fun x e => ⟨v, rfl, by cases e; exact r1⟩, fun e => by cases e⟩
    | false => exact ih
def putFs (f : String) (x : D) : List (String × D) → List (String × D)
  | [] => [(f, x)]
  | (g, y) :: r => if g = f then (g, x) :: r else (g, y) :: putFs f x r
theorem RFs.put {f : String} {x : D} {v : V} (rx : RD K wd x v) : ∀ {fs : List (String × D)} {vs : List (Str × V)}, RFs K wd fs vs → RFs K wd (putFs f x fs) (putF (enc f) v vs)
  | [], vs, h => by
    have h' : vs = [] := h
    subst h'
    exact ⟨(enc f, v), [], rfl, rfl, rx, rfl⟩
  | (k, y) :: r, vs, h => by
    obtain ⟨⟨k', v'⟩, vr, rfl, e1, r1, r2⟩ := h
    dsimp only at e1 r1
    subst e1
    unfold putFs putF
    by_cases hk : k = f
    · subst hk
      rw [if_pos rfl, if_pos rfl]
      exact ⟨(enc k, v), vr, rfl, rfl, rx, r2⟩
    · rw [if_neg hk, if_neg fun e => hk (enc_inj e)]
      exact ⟨(enc k, v'), _, rfl, rfl, r1, RFs.put rx r2⟩
theorem RFs.len : ∀ {fs : List (String × D)} {vs : List (Str × V)}, RFs K wd fs vs → fs.length = vs.length
  | [], vs, h => by
    have h' : vs = [] := h
    subst h'; rfl
  | (k, y) :: r, vs, h => by
    obtain ⟨q, vr, rfl, e1, r1, r2⟩ := h
    simp [RFs.len r2]
/-- an object of P is another one -/
theorem HR.setOb (h : HR K cls wd S H) {i : Nat} {o o' : Ob} {a : Addr} {u : HO} (e : S.P[i]? = some o) (ea : wd.ob[i]? = some a) (hu : ObAt K cls wd (upd H a u) a o') (nl : ∀ b us, H b = some (.lst us) → b ≠ a) (nf : ∀ p q, wd.fz p = some q → p ≠ a) :
    HR K cls wd { S with P := S.P.set i o' } (upd H a u) := by
  have hi : i < S.P.length := (List.getElem?_eq_some_iff.mp e).1
  refine ⟨fun p q z => by rw [upd_ne (nf p q z)]; exact h.fz p q z, h.bn, fun j l z => ?_, h.froz, h.bnd, by simpa using h.on, h.ond, fun j q z => ?_, fun p hp => ?_, h.annd, h.nfz⟩
  · obtain ⟨b, us, q1, q2, q3, rr⟩ := h.live j l z
    exact ⟨b, us, q1, by rw [upd_ne (nl b us q2)]; exact q2, q3, rr⟩
  · by_cases hj : j = i
    · subst hj
      dsimp only at z
      rw [List.getElem?_set_self hi] at z
      cases z
      exact ⟨a, ea, hu⟩
    · dsimp only at z
      rw [List.getElem?_set_ne (Ne.symm hj)] at z
      obtain ⟨b, q1, q2⟩ := h.ob j q z
      refine ⟨b, q1, q2.at_ne ?_⟩
      intro w
      subst w
      exact hj (nodupIx h.ond q1 ea)
  · obtain ⟨q1, q2, q3⟩ := h.an p hp
    exact ⟨by rw [upd_ne (nl _ _ q1)]; exact q1, q2, q3⟩
end
section
variable {g : G} {pos apos p : Pos} {e o i : Expr} {es : List Expr} {T To Ti : EV} {Ts : EVs} {c f : String} {F : Str}
noncomputable def fldF (c f : String) (v : Vl) (S : Sta) : Out Vl := match v with
  | .d (.obj i) => match S.P[i]? with
    | some (.ins c' fs) => if c' = c then match fs.lookup f with
      | some x => .ok (.d x) S
      | none => .bad else .bad
    | _ => .bad
  | _ => .bad
theorem je_fld (c f : String) (hc : Cls g.K (g.cls c)) (hf : NoAttr g.K (g.cls c) F) (he : JE g e T) (ef : F = enc f := by decide +kernel) (hb : ∀ env, attributeBase e F env (eval e env) = eval e env := by intro _; rfl) : JE g (.Attribute e F pos) (eUn (fldF c f) T) := fun X hX W tk =>
  (pe_fld (he X hX W tk) (hb X.env)).imp fun σ H Q h => un_read (r := fun x H1 Q => ∃ a C dx fs v, x = .ref a ∧ H1 a = some (.ins C dx fs) ∧ Cls X.K C ∧ NoAttr X.K C F ∧ fs.lookup F = some v ∧ Q v H1) (fun W σ wd H S v x Q hh rv h' => by
    unfold fldF at h'
    split at h'
    · rename_i i
      split at h'
      · rename_i c' fs ei
        split at h'
        · rename_i ec
          subst ec
          split at h'
          · rename_i y ey
            simp only [RW, RD] at rv
            obtain ⟨a, rfl, ea⟩ := rv
            obtain ⟨a', ea', dx, vfs, hx, rf⟩ := hh.ob i _ ei
            rw [ea] at ea'; cases ea'
            obtain ⟨w, e1, e2⟩ := (rf.look (f := f)).1 y ey
            subst ef
            exact ⟨a, _, dx, vfs, w, rfl, hx, by rw [hX.K]; exact hc, by rw [hX.K]; exact hf, e1, h' wd _ H (.refl _) hh e2⟩
          · exact h'.elim
        · exact h'.elim
      · exact h'.elim
    · exact h'.elim) h
/-- o.f = e -/
noncomputable def setFld (c f : String) (v : Vl) (x : D) (σ : Sl) (S : Sta) : SOut := match v with
  | .d (.obj i) => match S.P[i]? with
    | some (.ins c' fs) => if c' = c ∧ fs.length < 1000 then .nxt σ { S with P := S.P.set i (.ins c (putFs f x fs)) } else .bad
    | _ => .bad
  | _ => .bad
@[simp] noncomputable def sFldS (c f : String) (To T : EV) : SV := fun σ S => (T σ S).st σ fun v S1 => match toD (frz v) S1 with
  | some (x, S2) => (To σ S2).st σ fun o S3 => setFld c f (frz o) x σ S3
  | none => .bad
theorem js_fld (c f : String) {ap : Pos} (hc : Cls g.K (g.cls c)) (hf : NoAttr g.K (g.cls c) F) (ho : JE g o To) (he : JE g e T) (ef : F = enc f := by decide +kernel) (hs : ∀ env, swapsWith e (some (.Attribute o F ap)) pos.line env = pure false := by intro _; rfl) : JS g (.Assign [.Attribute o F ap] e pos) (sFldS c f To T) := fun X hX W tk =>
  (ps_fld (ho X hX.toGood W tk) (he X hX.toGood W tk) (hs X.env)).imp fun E σ H h => by
  obtain ⟨wd, σ', S, hs, hh, h⟩ := h
  refine ⟨wd, σ', S, hs, hh, ?_⟩
  have h1 := st_read hs h
  revert h1
  cases T σ' S with
  | exc c fs S1 => intro h1; exact h1
  | bad => intro h1; exact h1
  | ok v S1 =>
    intro h1 wd1 y H1 l hr rv
    obtain ⟨v', wd2, S2, l2, hr2, rw2, h2⟩ := h1 wd1 y H1 l hr rv
    obtain ⟨wd3, l3, hr3, r3⟩ := rw2.frz hr2
    split at h2
    · rename_i z S3 ey
      obtain ⟨wd4, l4, hr4, r4⟩ := RW.toD hr3 r3 ey
      have hs4 := ((hs.mono l2).mono l3).mono l4
      refine ⟨wd4, σ', S3, hs4, hr4, ?_⟩
      have h3 := st_read hs4 (OkS.mono (l3.trans l4) h2)
      revert h3
      cases To σ' S3 with
      | exc c fs S5 => intro h3; exact h3
      | bad => intro h3; exact h3
      | ok v5 S5 =>
        intro h3 wd5 y5 H5 l5 hr5 rv5
        obtain ⟨v6, wd6, S6, l6, hr6, rw6, h6⟩ := h3 wd5 y5 H5 l5 hr5 rv5
        obtain ⟨wd7, l7, hr7, r7⟩ := rw6.frz hr6
        have h7 := OkS.mono l7 h6
        unfold setFld at h7
        split at h7
        · rename_i i ev
          split at h7
          · rename_i c' fs ei
            split at h7
            · rename_i ec
              obtain ⟨ec, hlen⟩ := ec
              subst ec
              rw [ev] at r7
              simp only [RW, RD] at r7
              obtain ⟨a, rfl, ea⟩ := r7
              obtain ⟨a', ea', dx, vfs, hx, rf⟩ := hr7.ob i _ ei
              rw [ea] at ea'; cases ea'
              have rz := RD.mono g.K (l6.trans l7) _ _ r4
              subst ef
              refine ⟨a, _, dx, vfs, rfl, hx, by rw [hX.K]; exact hc, by rw [hX.K]; exact hf, by rw [← rf.len]; exact hlen, ?_⟩
              refine h7 wd7 σ _ (.refl _) (hs4.mono (l6.trans l7)) (hr7.setOb ei ea ⟨dx, _, upd_same, rf.put rz⟩ (fun b us q w => ?_) fun p q z w => ?_)
              · subst w; rw [hx] at q; cases q
              · subst w
                have q2 := hr7.fz _ _ z
                rw [hx] at q2
                cases q2
                exact absurd (hr7.nfz _ _ z) (by intro q3; cases q3)
            · exact h7.elim
          · exact h7.elim
        · exact h7.elim
    · exact h2.elim
end
end Ev

set_option Elab.async false
set_option linter.all false
set_option maxRecDepth 100000
set_option maxHeartbeats 1000000
/-! Ev10: methods; makers; keywords; join; the signs of a text; xs[i] = v. -/
namespace Ev
open PySem PySem.Spec PyProof.Rows L2
open Classical
/-! ### calls whose wish of exceptions knows the slots: methods, makers -/
def tMeS (C : Addr) (m : Str) (sp : Sp) (dvs : List V) (E : L2.St → XK) (to : TE) (t : TA) : TE := fun σ H Q => to σ H fun x H1 => ∃ a dx fs, x = .ref a ∧ H1 a = some (.ins C dx fs) ∧ fs.lookup m = none ∧ t σ H1 fun vs H2 => sp (x :: (vs ++ dvs)) H2 Q (E σ)
/-- the tree of o.m(es) -/
def MethTree (o : Expr) (m : Str) (apos pos : Pos) (es : List Expr) (pl : Sem Bool) (env : Env) : Prop := eval (.Call (.Attribute o m apos) es [] pos) env = (do
  let own ← eval o env
  standAt apos.atName
  let (fn, head) ← holding [own] (getMethod own m pl)
  callWith pos fn head (backTo pos (starEach es env)) (backToKw pos (keywordEach [] env)))
/-- C(..): the new object -/
def tMkS (C : Addr) (sp : Sp) (dvs : List V) (E : L2.St → XK) (t : TA) : TE := fun σ H Q => t σ H fun vs H1 => ∀ x dx, H1 x = none → H1 dx = none → dx ≠ x → sp (.ref x :: (vs ++ dvs)) (upd (upd H1 dx (.own x)) x (.ins C dx [])) (fun v H2 => v = .non ∧ Q (.ref x) H2) (E σ)
def tMkK (C : Addr) (n m : Nat) (sp : Sp) (gV : List V → List V → List V) (E : L2.St → XK) (t tk : TA) : TE := fun σ H Q => t σ H fun vs H1 => tk σ H1 fun zs H2 => vs.length = n ∧ zs.length = m ∧
  ∀ x dx, H2 x = none → H2 dx = none → dx ≠ x → sp (gV (.ref x :: vs) zs) (upd (upd H2 dx (.own x)) x (.ins C dx [])) (fun v H3 => v = .non ∧ Q (.ref x) H3) (E σ)
section
variable {X : Cx} {CX : CXT} {k n : Nat} {f C : Addr} {fd : FuncData} {ps : List Str} {sp : Sp} {dvs : List V} {ds : List Value} {E : L2.St → XK} {x m : Str} {p pos apos : Pos} {e o : Expr} {es : List Expr} {to : TE} {t tk : TA} {pl : Sem Bool} {kws : List Keyword} {ks : List Str} {gg : List Value → List Value → List Value} {gV : List V → List V → List V}
theorem pe_meS (ho : PE X o to) (hc : Cls X.K C) (hm : Meth X.K C m f) (F : FnOk X.prog X.w X.K X.mg X.base CX k f fd ps sp) (room : Room k X.A) (bnd : Binds X.K fd ps ds) (hd : Vals dvs ds) (hx : ∀ σ, PassesAt CX X σ (E σ)) (hargs : PA X (e :: es) t)
    (h1 : starEach (e :: es) X.env = (false, eval e X.env) :: starEach es X.env) (h2 : (backTo pos (starEach es X.env)).any (·.1) = false) (ht : MethTree o m apos pos (e :: es) pl X.env) : PE X (.Call (.Attribute o m apos) (e :: es) [] pos) (tMeS C m sp dvs E to t) :=
  ⟨fun pins s σ H Q I hq => PySem.W.methodCall_KW (pl := pl) (thn (ho.run pins s σ H _ I hq) fun own s1 ⟨x, H1, I1, rx, a, dx, fs, ex, ea, l, q1⟩ => by
    subst ex
    obtain rfl : own = Value.ref a := rx
    exact getmeth_ok I1 ea hc hm l (PySem.W.callWith_K (first := [.ref a]) (h₀ := X.base) I1.ok.mod.kin hm.kp (thn (hargs.run pos pins s1 σ H1 _ I1 q1) fun us s2 ⟨vs, H2, I2, r2, q2⟩ => ⟨I2.kIn,
      run_fnSD (us := .ref a :: us) (vs := .ref a :: vs) F room bnd hd (hx σ) I2 (.cons rfl r2) q2⟩) h1 h2)) ht⟩
theorem pe_meS0 (ho : PE X o to) (hc : Cls X.K C) (hm : Meth X.K C m f) (F : FnOk X.prog X.w X.K X.mg X.base CX k f fd ps sp) (room : Room k X.A) (bnd : Binds X.K fd ps ds) (hd : Vals dvs ds) (hx : ∀ σ, PassesAt CX X σ (E σ))
    (ht : MethTree o m apos pos [] pl X.env) : PE X (.Call (.Attribute o m apos) [] [] pos) (tMeS C m sp dvs E to tNil) :=
  ⟨fun pins s σ H Q I hq => PySem.W.methodCall_KW (pl := pl) (thn (ho.run pins s σ H _ I hq) fun own s1 ⟨x, H1, I1, rx, a, dx, fs, ex, ea, l, q1⟩ => by
    subst ex
    obtain rfl : own = Value.ref a := rx
    exact getmeth_ok I1 ea hc hm l (PySem.W.callWith_K0 (first := [.ref a]) I1.kIn hm.kp (run_fnSD (us := [.ref a]) (vs := [.ref a]) F room bnd hd (hx σ) I1 (.cons rfl .nil) q1))) ht⟩
/-- a new object: __init__ runs on it -/
theorem run_mk {pins : List (Addr × Obj)} {σ : L2.St} {H : Hp} {s : Shared} {Q : VK} {args : Args} {us : List Value} {vs : List V} {Ex : XK} (M : Mk X.K C f) (F : FnOk X.prog X.w X.K X.mg X.base CX k f fd ps sp) (room : Room (k + 1) X.A) (hx : PassesAt CX X σ Ex) (I : Inv X pins σ H s)
    (bnd : ∀ s1 : Shared, X.K.In s1.heap → BindsTo s1 fd ⟨.ref (s.heap.objs.size + 1) :: args.pos, args.kw⟩ (ps.zip (.ref (s.heap.objs.size + 1) :: us))) (r : Vals vs us)
    (h : ∀ x dx, H x = none → H dx = none → dx ≠ x → sp (.ref x :: vs) (upd (upd H dx (.own x)) x (.ins C dx [])) (fun v H2 => v = .non ∧ Q (.ref x) H2) Ex) : wpAny (model X.prog X.w) X.A (call (.ref C) args.pos args.kw) (EP X pins σ Q) X.xe s := by
  have q0 := h (s.heap.objs.size + 1) s.heap.objs.size (I.hok.fresh (Nat.le_succ _)) (I.hok.fresh (Nat.le_refl _)) (Nat.ne_of_lt (Nat.lt_succ_self _))
  have I2 : Inv X pins σ _ _ := Inv.made (C := C) I
  have r2 : Vals (V.ref (s.heap.objs.size + 1) :: vs) (Value.ref (s.heap.objs.size + 1) :: us) := .cons rfl r
  have step := F.run _ X.stack _ _ ⟨.ref (s.heap.objs.size + 1) :: args.pos, args.kw⟩ _ _ _ Ex (room.make C args.pos args.kw) (I2.env0.make C args.pos args.kw) (bnd _ I2.kIn) r2 q0
  refine wpAny_call (make_map (f := f) I.kIn M.makes M.init (beq_iff_eq.mp M.fn) (codeAny_mono step fun res s3 h3 => ?_))
  match res, h3 with
  | .error err, h3 => exact hx pins _ _ err s3 I2 h3
  | .ok (.ret u), h3 =>
    obtain ⟨v, H4, I4, rv, rfl, q4⟩ := I2.after h3
    exact ⟨rv, .ref (s.heap.objs.size + 1), H4, I4, rfl, q4⟩
  | .ok .next, h3 => exact h3.elim
  | .ok .brk, h3 => exact h3.elim
  | .ok .cont, h3 => exact h3.elim
theorem pe_mkS (M : Mk X.K C f) (F : FnOk X.prog X.w X.K X.mg X.base CX k f fd ps sp) (room : Room (k + 1) X.A) (hg : Gl X x) (hm : X.mg x = some (.ref C)) (bnd : Binds X.K fd ps ds) (hd : Vals dvs ds) (hx : ∀ σ, PassesAt CX X σ (E σ)) (hargs : PA X (e :: es) t)
    (hdb : (x == ("__debug__" : Str)) = false) (h1 : starEach (e :: es) X.env = (false, eval e X.env) :: starEach es X.env) (h2 : (backTo pos (starEach es X.env)).any (·.1) = false) : PE X (.Call (.Name x p) (e :: es) [] pos) (tMkS C sp dvs E t) :=
  ⟨fun pins s σ H Q I hq => wpAny_Call_Name_kw (ld_glob I hg hm (PySem.W.callWith_K (h₀ := X.base) I.ok.mod.kin M.kp (thn (hargs.run pos pins s σ H _ I hq) fun us s1 ⟨vs, H1, I1, r, q1⟩ => ⟨I1.kIn, by
    have hq1 := q1 (s1.heap.objs.size + 1) s1.heap.objs.size (I1.hok.fresh (Nat.le_succ _)) (I1.hok.fresh (Nat.le_refl _)) (Nat.ne_of_lt (Nat.lt_succ_self _))
    have hl : ((us ++ ds).length + 1) = ps.length := by
      have := F.len _ _ _ _ hq1
      rw [← (r.append hd).length]; simpa using this
    exact run_mk (args := ⟨us, []⟩) M F room (hx σ) I1 (fun s2 k2 => bnd s2 (.ref (s1.heap.objs.size + 1) :: us) k2 (by simpa using hl)) (r.append hd) q1⟩) h1 h2) hdb)⟩
theorem pe_mkS0 (M : Mk X.K C f) (F : FnOk X.prog X.w X.K X.mg X.base CX k f fd ps sp) (room : Room (k + 1) X.A) (hg : Gl X x) (hm : X.mg x = some (.ref C)) (bnd : Binds X.K fd ps ds) (hd : Vals dvs ds) (hx : ∀ σ, PassesAt CX X σ (E σ))
    (hdb : (x == ("__debug__" : Str)) = false) : PE X (.Call (.Name x p) [] [] pos) (tMkS C sp dvs E tNil) :=
  ⟨fun pins s σ H Q I q1 => wpAny_Call_Name_kw (ld_glob I hg hm (PySem.W.callWith_K0 I.kIn M.kp (by
    have hq1 := q1 (s.heap.objs.size + 1) s.heap.objs.size (I.hok.fresh (Nat.le_succ _)) (I.hok.fresh (Nat.le_refl _)) (Nat.ne_of_lt (Nat.lt_succ_self _))
    have hl : (ds.length + 1) = ps.length := by
      have := F.len _ _ _ _ hq1
      rw [← hd.length]; simpa using this
    exact run_mk (args := ⟨[], []⟩) M F room (hx σ) I (fun s2 k2 => bnd s2 [.ref (s.heap.objs.size + 1)] k2 (by simpa using hl)) (show Vals ([] ++ dvs) ds from hd) q1)) hdb)⟩
/-- keywords: gg puts the values in the parameters' order; the new object stays ahead -/
structure KPut (K : PySem.W.Frag) (fd : FuncData) (ps : List Str) (n : Nat) (ks : List Str) (gg : List Value → List Value → List Value) (gV : List V → List V → List V) : Prop where
  to : ∀ (s : Shared) (u : Value) (us ws : List Value), K.In s.heap → us.length = n → ws.length = ks.length → BindsTo s fd ⟨u :: us, ks.zip ws⟩ (ps.zip (u :: gg us ws))
  rel : ∀ {vs : List V} {us : List Value} {zs : List V} {ws : List Value}, Vals vs us → Vals zs ws → Vals (gV vs zs) (gg us ws)
def tMkP (C : Addr) (n m : Nat) (sp : Sp) (gV : List V → List V → List V) (E : L2.St → XK) (t tk : TA) : TE := fun σ H Q => t σ H fun vs H1 => tk σ H1 fun zs H2 => vs.length = n ∧ zs.length = m ∧
  ∀ x dx, H2 x = none → H2 dx = none → dx ≠ x → sp (.ref x :: gV vs zs) (upd (upd H2 dx (.own x)) x (.ins C dx [])) (fun v H3 => v = .non ∧ Q (.ref x) H3) (E σ)
theorem pe_mkP (M : Mk X.K C f) (F : FnOk X.prog X.w X.K X.mg X.base CX k f fd ps sp) (room : Room (k + 1) X.A) (hg : Gl X x) (hm : X.mg x = some (.ref C)) (bnd : KPut X.K fd ps n ks gg gV) (hx : ∀ σ, PassesAt CX X σ (E σ)) (hargs : PA X (e :: es) t) (hkw : PK X kws tk)
    (hall : (backToKw pos (keywordEach kws X.env)).all (·.1.isSome) = true) (hks : (backToKw pos (keywordEach kws X.env)).filterMap (·.1) = ks) (hdb : (x == ("__debug__" : Str)) = false) (h1 : starEach (e :: es) X.env = (false, eval e X.env) :: starEach es X.env)
    (h2 : ((backTo pos (starEach (e :: es) X.env)).any (·.1) || (backToKw pos (keywordEach kws X.env)).any (·.1.isNone)) = false) : PE X (.Call (.Name x p) (e :: es) kws pos) (tMkP C n ks.length sp gV E t tk) :=
  ⟨fun pins s σ H Q I hq => wpAny_Call_Name_kw (ld_glob I hg hm (PySem.W.callWith_KW (h₀ := X.base) I.ok.mod.kin M.kp hall (thn (hargs.run pos pins s σ H _ I hq) fun us s1 ⟨vs, H1, I1, r, q1⟩ => thn (hkw.run pos pins s1 σ H1 _ I1 q1) fun ws s2 ⟨zs, H2, I2, rz, l1, l2, q2⟩ => ⟨I2.kIn, by
    rw [hks]
    exact run_mk (args := ⟨us, ks.zip ws⟩) M F room (hx σ) I2 (fun s3 k3 => bnd.to s3 _ us ws k3 (r.length.symm.trans l1) (rz.length.symm.trans l2)) (bnd.rel r rz) q2⟩) h2 h1) hdb)⟩
theorem pe_mkP0 (M : Mk X.K C f) (F : FnOk X.prog X.w X.K X.mg X.base CX k f fd ps sp) (room : Room (k + 1) X.A) (hg : Gl X x) (hm : X.mg x = some (.ref C)) (bnd : KPut X.K fd ps 0 ks gg gV) (hx : ∀ σ, PassesAt CX X σ (E σ)) (hkw : PK X kws tk)
    (hall : (backToKw pos (keywordEach kws X.env)).all (·.1.isSome) = true) (hks : (backToKw pos (keywordEach kws X.env)).filterMap (·.1) = ks) (hdb : (x == ("__debug__" : Str)) = false)
    (h2 : ((backTo pos (starEach [] X.env)).any (·.1) || (backToKw pos (keywordEach kws X.env)).any (·.1.isNone)) = false) : PE X (.Call (.Name x p) [] kws pos) (tMkP C 0 ks.length sp gV E tNil tk) :=
  ⟨fun pins s σ H Q I hq => wpAny_Call_Name_kw (ld_glob I hg hm (PySem.W.callWith_KW0 (h₀ := X.base) I.ok.mod.kin M.kp hall (thn (hkw.run pos pins s σ H _ I hq) fun ws s2 ⟨zs, H2, I2, rz, l1, l2, q2⟩ => ⟨I2.kIn, by
    rw [hks]
    exact run_mk (args := ⟨[], ks.zip ws⟩) M F room (hx σ) I2 (fun s3 k3 => bnd.to s3 _ [] ws k3 rfl (rz.length.symm.trans l2)) (bnd.rel .nil rz) q2⟩) h2) hdb)⟩
end
/-! ### my readings -/
section
variable {g : G} {C : Addr} {f : Addr} {dfl : List D} {F : FV} {pos apos p kpos : Pos} {e o i : Expr} {es : List Expr} {Ts Tk : EVs} {T To Ti : EV} {x m : Str} {c mn : String} {kws : List Keyword}
noncomputable def isIns (c m : String) (v : Vl) (S : Sta) : Bool := match v with
  | .d (.obj i) => match S.P[i]? with
    | some (.ins c' fs) => decide (c' = c) && (fs.lookup m).isNone
    | _ => false
  | _ => false
@[simp] noncomputable def eMeth (c m : String) (F : FV) (dfl : List D) (To : EV) (Ts : EVs) : EV := fun σ S => (To σ S).bind fun v S1 => if isIns c m (frz v) S1 = true then (Ts σ S1).bind fun vs S2 => F (frz v :: (vs ++ dfl.map .d)) S2 else .bad
theorem isIns_at {wd : Wd} {H : Hp} {S : Sta} {v : Vl} {x : V} (hh : HR g.K g.cls wd S H) (rv : RW g.K wd v x) (h : isIns c mn v S = true) : ∃ a dx fs, x = .ref a ∧ H a = some (.ins (g.cls c) dx fs) ∧ fs.lookup (enc mn) = none := by
  unfold isIns at h
  split at h
  · rename_i i
    split at h
    · rename_i c' fs ei
      rw [Bool.and_eq_true] at h
      obtain ⟨h1, h2⟩ := h
      have ec := of_decide_eq_true h1
      subst ec
      simp only [RW, RD] at rv
      obtain ⟨a, rfl, ea⟩ := rv
      obtain ⟨a', ea', dx, vfs, hx, rf⟩ := hh.ob i _ ei
      rw [ea] at ea'; cases ea'
      exact ⟨a, dx, vfs, rfl, hx, (rf.look (f := mn)).2 (by simpa using h2)⟩
    · cases h
  · cases h
/-- from a plain call to a promise -/
theorem sp_of {wd : Wd} {H : Hp} {S : Sta} {W : WX} {σ : L2.St} {Q : VK} {ps : List Str} {args : List Vl} {vs : List V} {F : FV} (hr : HR g.K g.cls wd S H) (ra : RWs g.K wd args vs) (har : ∀ args S, args.length ≠ ps.length → F args S = .bad) (h : OkE g.K g.cls W σ wd Q (F args S)) :
    spF g.K g.cls ps.length F vs H Q (WE W σ) := by
  refine ⟨?_, wd, args, S, hr, ra, okE_C h⟩
  rw [← ra.length]
  refine Decidable.byContradiction fun hn => ?_
  rw [har _ _ hn] at h
  exact h
theorem je_meth (c mn : String) (h : FnJ g f dfl F) (hc : Cls g.K (g.cls c)) (hm : Meth g.K (g.cls c) m f) (ho : JE g o To) (ha : JA g (e :: es) Ts) (em : m = enc mn := by decide +kernel) {pl : Env → Sem Bool}
    (h1 : ∀ env, starEach (e :: es) env = (false, eval e env) :: starEach es env := by intro _; rfl) (h2 : ∀ env, (backTo pos (starEach es env)).any (·.1) = false := by intro _; rfl) (ht : ∀ env, MethTree o m apos pos (e :: es) (pl env) env := by intro _; exact rfl) :
    JE g (.Call (.Attribute o m apos) (e :: es) [] pos) (eMeth c mn F dfl To Ts) := fun X hX W tk => by
  obtain ⟨fd, ps, k, ds, dvs, hF, hk, kp, hb, hd, hr, har⟩ := h.ex
  have tk' : ∀ σ, PassesAt (L2.CX g.P g.w) X σ (WE W σ) := fun σ => by
    have := passAt tk σ
    rw [hX.P, hX.w] at this; exact this
  refine (pe_meS (C := g.cls c) (E := WE W) (ho X hX W tk) (by rw [hX.K]; exact hc) (by rw [hX.K]; exact hm) (FnOk.to hX hF) (hX.room.mono hk) (by rw [hX.K]; exact hb) hd tk' (ha X hX W tk) (h1 X.env) (h2 X.env) (ht X.env)).imp fun σ H Q h => ?_
  obtain ⟨wd, σ', S, hs, hh, h⟩ := h
  refine ⟨wd, σ', S, hs, hh, ?_⟩
  have h1 := OkE_opd (F := fun v S1 => if isIns c mn v S1 = true then (Ts σ' S1).bind fun vs S2 => F (v :: (vs ++ dfl.map .d)) S2 else .bad) h
  revert h1
  cases To σ' S with
  | exc c fs S1 => intro h1; exact h1
  | bad => intro h1; exact h1
  | ok v S1 =>
    intro h1 wd1 y H1 l hr1 rv
    obtain ⟨v', wd2, S2, l2, hr2, rw2, h2⟩ := h1 wd1 y H1 l hr1 rv
    split at h2
    · rename_i hi
      obtain ⟨a, dx, vfs, rfl, hx, hn⟩ := isIns_at hr2 rw2 hi
      refine ⟨a, dx, vfs, rfl, hx, by rw [em]; exact hn, wd2, σ', S2, hs.mono l2, hr2, ?_⟩
      have h3 := OkA_bindE h2
      revert h3
      cases Ts σ' S2 with
      | exc c fs S1 => intro h1; exact h1
      | bad => intro h1; exact h1
      | ok vs S3 =>
        intro h3 wd3 xs H3 l3 hr3 rv3
        obtain ⟨v4, wd4, S4, l4, hr4, rw4, h4⟩ := h3 wd3 xs H3 l3 hr3 rv3
        refine sp_of hr4 ?_ har h4
        exact ⟨_, _, rfl, rw2.mono l4, rw4.append (RWs.ofD (hr wd4))⟩
    · exact h2.elim
theorem je_meth0 (c mn : String) (h : FnJ g f dfl F) (hc : Cls g.K (g.cls c)) (hm : Meth g.K (g.cls c) m f) (ho : JE g o To) (em : m = enc mn := by decide +kernel) {pl : Env → Sem Bool} (ht : ∀ env, MethTree o m apos pos [] (pl env) env := by intro _; exact rfl) :
    JE g (.Call (.Attribute o m apos) [] [] pos) (eMeth c mn F dfl To aNil) := fun X hX W tk => by
  obtain ⟨fd, ps, k, ds, dvs, hF, hk, kp, hb, hd, hr, har⟩ := h.ex
  have tk' : ∀ σ, PassesAt (L2.CX g.P g.w) X σ (WE W σ) := fun σ => by
    have := passAt tk σ
    rw [hX.P, hX.w] at this; exact this
  refine (pe_meS0 (C := g.cls c) (E := WE W) (ho X hX W tk) (by rw [hX.K]; exact hc) (by rw [hX.K]; exact hm) (FnOk.to hX hF) (hX.room.mono hk) (by rw [hX.K]; exact hb) hd tk' (ht X.env)).imp fun σ H Q h => ?_
  obtain ⟨wd, σ', S, hs, hh, h⟩ := h
  refine ⟨wd, σ', S, hs, hh, ?_⟩
  have h1 := OkE_opd (F := fun v S1 => if isIns c mn v S1 = true then (aNil σ' S1).bind fun vs S2 => F (v :: (vs ++ dfl.map .d)) S2 else .bad) h
  revert h1
  cases To σ' S with
  | exc c fs S1 => intro h1; exact h1
  | bad => intro h1; exact h1
  | ok v S1 =>
    intro h1 wd1 y H1 l hr1 rv
    obtain ⟨v', wd2, S2, l2, hr2, rw2, h2⟩ := h1 wd1 y H1 l hr1 rv
    split at h2
    · rename_i hi
      obtain ⟨a, dx, vfs, rfl, hx, hn⟩ := isIns_at hr2 rw2 hi
      refine ⟨a, dx, vfs, rfl, hx, by rw [em]; exact hn, ?_⟩
      refine sp_of hr2 ?_ har h2
      exact ⟨_, _, rfl, rw2, (show RWs g.K wd2 [] [] from rfl).append (RWs.ofD (hr wd2))⟩
    · exact h2.elim
end
end Ev

set_option Elab.async false
set_option linter.all false
set_option maxRecDepth 100000
set_option maxHeartbeats 1000000
/-! Ev11: makers; keywords; join; the signs of a text; xs[i] = v. -/
namespace Ev
open PySem PySem.Spec PyProof.Rows L2
open Classical
section
variable {K : PySem.W.Frag} {cls : String → Addr}
/-- a new instance without fields -/
theorem HR.pushOb {wd : Wd} {S : Sta} {H : Hp} (h : HR K cls wd S H) (c : String) {x dx : Addr} (nx : H x = none) (nd : H dx = none) (ne : dx ≠ x) :
    wd.Le { wd with ob := wd.ob ++ [x] } ∧ HR K cls { wd with ob := wd.ob ++ [x] } { S with P := S.P ++ [.ins c []] } (upd (upd H dx (.own x)) x (.ins (cls c) dx [])) := by
  have le : wd.Le { wd with ob := wd.ob ++ [x] } := ⟨fun _ _ q => q, List.prefix_refl _, List.prefix_append _ _, rfl⟩
  have h1 : HR K cls wd S (upd H dx (.own x)) := h.lay nd
  have nx1 : (upd H dx (.own x)) x = none := by rw [upd_ne (Ne.symm ne)]; exact nx
  have h2 : HR K cls wd S (upd (upd H dx (.own x)) x (.ins (cls c) dx [])) := h1.lay nx1
  refine ⟨le, h2.fz, h2.bn, fun i m q => ?_, fun i m q => ?_, h2.bnd, by simp [h2.on], ?_, fun i o q => ?_, h2.an, h2.annd, h2.nfz⟩
  · obtain ⟨b, us, e1, e2, e3, rr⟩ := h2.live i m q
    exact ⟨b, us, e1, e2, e3, RDs.mono _ le _ _ rr⟩
  · obtain ⟨b, us, e1, e2, rr⟩ := h2.froz i m q
    exact ⟨b, us, e1, e2, RDs.mono _ le _ _ rr⟩
  · refine List.nodup_append.mpr ⟨h2.ond, by simp, fun y hy z hz w => ?_⟩
    have hz' : z = x := by simpa using hz
    subst hz'; subst w
    exact h.ob_none nx hy
  · by_cases hi : i < S.P.length
    · dsimp only at q
      rw [List.getElem?_append_left hi] at q
      obtain ⟨b, e1, r1⟩ := h2.ob i o q
      exact ⟨b, pre_get le.ob e1, r1.mono le⟩
    · have hi' : i = S.P.length := by
        have := (List.getElem?_eq_some_iff.mp q).1
        simp at this; omega
      subst hi'
      have q' : Ob.ins c [] = o := by simpa using q
      subst q'
      exact ⟨x, by rw [h.on]; simp, dx, [], upd_same, rfl⟩
end
section
variable {g : G} {f C : Addr} {dfl : List D} {F : FV} {pos apos p kpos : Pos} {e o i : Expr} {es : List Expr} {Ts Tk : EVs} {T To Ti : EV} {x m : Str} {c mn : String} {kws : List Keyword} {k0 : Nat}
noncomputable def mkF (c : String) (F : FV) (args : List Vl) (S : Sta) : Out Vl := match F (.d (.obj S.P.length) :: args) { S with P := S.P ++ [.ins c []] } with
  | .ok v S1 => match v with
    | .d .non => .ok (.d (.obj S.P.length)) S1
    | _ => .bad
  | .exc c fs S1 => .exc c fs S1
  | .bad => .bad
@[simp] noncomputable def eMake (c : String) (F : FV) (dfl : List D) (Ts : EVs) : EV := fun σ S => (Ts σ S).bind fun vs S1 => mkF c F (vs ++ dfl.map .d) S1
theorem mk_read {wd : Wd} {H : Hp} {S : Sta} {W : WX} {σ : L2.St} {Q : VK} {ps : List Str} {args : List Vl} {vs : List V} (hr : HR g.K g.cls wd S H) (ra : RWs g.K wd args vs) (har : ∀ args S, args.length ≠ ps.length → F args S = .bad) (h : OkE g.K g.cls W σ wd Q (mkF c F args S)) :
    ∀ x dx, H x = none → H dx = none → dx ≠ x → spF g.K g.cls ps.length F (.ref x :: vs) (upd (upd H dx (.own x)) x (.ins (g.cls c) dx [])) (fun v H2 => v = .non ∧ Q (.ref x) H2) (WE W σ) := by
  intro x dx nx nd ne
  obtain ⟨le, h1⟩ := hr.pushOb c nx nd ne
  have ro : RWs g.K { wd with ob := wd.ob ++ [x] } (.d (.obj S.P.length) :: args) (.ref x :: vs) := ⟨_, _, rfl, by
    simp only [RW, RD]
    exact ⟨x, rfl, by rw [hr.on]; simp⟩, ra.mono le⟩
  refine sp_of (W := W) (σ := σ) h1 ro har ?_
  unfold mkF at h
  revert h
  cases F (.d (.obj S.P.length) :: args) { S with P := S.P ++ [.ins c []] } with
  | exc c fs S1 => exact fun h wd1 H1 cv d l => h wd1 H1 cv d (le.trans l)
  | bad => exact fun h => h
  | ok v S1 =>
    intro h wd1 y H1 l hr1 rv
    dsimp only at h
    split at h
    · have ey : y = .non := by simpa [RV, RD] using rv
      refine ⟨ey, h wd1 (.ref x) H1 (le.trans l) hr1 ?_⟩
      simp only [RV, RD]
      exact ⟨x, rfl, pre_get l.ob (by rw [hr.on]; simp)⟩
    · exact h.elim
theorem je_make (c : String) (h : FnJ { g with k := k0 } f dfl F) (hk0 : k0 + 1 ≤ g.k) (M : Mk g.K (g.cls c) f) (hg : GlS g x) (hm : g.mg x = some (.ref (g.cls c))) (ha : JA g (e :: es) Ts) (hdb : (x == ("__debug__" : Str)) = false := by decide)
    (h1 : ∀ env, starEach (e :: es) env = (false, eval e env) :: starEach es env := by intro _; rfl) (h2 : ∀ env, (backTo pos (starEach es env)).any (·.1) = false := by intro _; rfl) : JE g (.Call (.Name x p) (e :: es) [] pos) (eMake c F dfl Ts) := fun X hX W tk => by
  obtain ⟨fd, ps, k, ds, dvs, hF, hk, kp, hb, hd, hr, har⟩ := h.ex
  have tk' : ∀ σ, PassesAt (L2.CX g.P g.w) X σ (WE W σ) := fun σ => by
    have := passAt tk σ
    rw [hX.P, hX.w] at this; exact this
  have hk' : k + 1 ≤ g.k := Nat.le_trans (Nat.succ_le_succ hk) hk0
  refine (pe_mkS (C := g.cls c) (E := WE W) (by rw [hX.K]; exact M) (FnOk.to hX hF) (hX.room.mono hk') (gl_of hX hg) (by rw [hX.mg]; exact hm) (by rw [hX.K]; exact hb) hd tk' (ha X hX W tk) hdb (h1 X.env) (h2 X.env)).imp fun σ H Q h => ?_
  obtain ⟨wd, σ', S, hs, hh, h⟩ := h
  refine ⟨wd, σ', S, hs, hh, ?_⟩
  have h1 := OkA_bindE h
  revert h1
  cases Ts σ' S with
  | exc c fs S1 => intro h1; exact h1
  | bad => intro h1; exact h1
  | ok vs S1 =>
    intro h1 wd1 xs H1 l hr1 rv
    obtain ⟨v', wd2, S2, l2, hr2, rw2, h2⟩ := h1 wd1 xs H1 l hr1 rv
    exact mk_read hr2 (rw2.append (RWs.ofD (hr wd2))) har h2
theorem je_make0 (c : String) (h : FnJ { g with k := k0 } f dfl F) (hk0 : k0 + 1 ≤ g.k) (M : Mk g.K (g.cls c) f) (hg : GlS g x) (hm : g.mg x = some (.ref (g.cls c))) (hdb : (x == ("__debug__" : Str)) = false := by decide) : JE g (.Call (.Name x p) [] [] pos) (eMake c F dfl aNil) := fun X hX W tk => by
  obtain ⟨fd, ps, k, ds, dvs, hF, hk, kp, hb, hd, hr, har⟩ := h.ex
  have tk' : ∀ σ, PassesAt (L2.CX g.P g.w) X σ (WE W σ) := fun σ => by
    have := passAt tk σ
    rw [hX.P, hX.w] at this; exact this
  have hk' : k + 1 ≤ g.k := Nat.le_trans (Nat.succ_le_succ hk) hk0
  refine (pe_mkS0 (C := g.cls c) (E := WE W) (by rw [hX.K]; exact M) (FnOk.to hX hF) (hX.room.mono hk') (gl_of hX hg) (by rw [hX.mg]; exact hm) (by rw [hX.K]; exact hb) hd tk' hdb).imp fun σ H Q h => ?_
  obtain ⟨wd, σ', S, hs, hh, h⟩ := h
  exact mk_read hh ((show RWs g.K wd [] [] from rfl).append (RWs.ofD (hr wd))) har h
/-! ### keywords -/
def JK (g : G) (kws : List Keyword) (T : EVs) : Prop := ∀ X, Good g X → ∀ W, Takes X W → PK X kws (LA g.K g.cls W T)
theorem _root_.L2.PK.imp {X : Cx} {kws : List Keyword} {t t' : TA} (h : PK X kws t) (i : ∀ σ H Q, t' σ H Q → t σ H Q) : PK X kws t' := ⟨fun p pins s σ H Q I q => h.run p pins s σ H Q I (i σ H Q q)⟩
theorem jk_nil : JK g [] aNil := fun X hX W tk => (pk_nil (X := X)).imp fun σ H Q h => by
  obtain ⟨wd, σ', S, hs, hh, h⟩ := h
  exact h wd [] H (.refl _) hh rfl
end
end Ev

set_option Elab.async false
set_option linter.all false
set_option maxRecDepth 100000
set_option maxHeartbeats 1000000
/-! Ev12: keywords; join; the signs of a text; xs[i] = v. -/
namespace Ev
open PySem PySem.Spec PyProof.Rows L2
open Classical
section
variable {g : G} {f C : Addr} {dfl : List D} {F : FV} {pos apos p kpos : Pos} {e o i : Expr} {es : List Expr} {Ts Tk : EVs} {T To Ti : EV} {x m : Str} {c mn : String} {kws : List Keyword} {k0 : Nat} {nm : Option Str} {ks : List Str}
theorem jk_cons (ha : JE g e T) (hr : JK g kws Ts) : JK g (⟨nm, e, kpos⟩ :: kws) (aCons T Ts) := fun X hX W tk => (pk_cons (nm := nm) (kpos := kpos) (ha X hX W tk) (hr X hX W tk)).imp fun σ H Q h => by
  obtain ⟨wd, σ', S, hs, hh, h⟩ := h
  refine ⟨wd, σ', S, hs, hh, ?_⟩
  have h1 := OkA_opd (F := fun v S1 => (Ts σ' S1).bind fun vs S2 => .ok (v :: vs) S2) h
  revert h1
  cases T σ' S with
  | ok v S1 =>
    intro h1 wd1 x H1 l hr rv
    obtain ⟨v', wd2, S2, l2, hr2, rw2, h2⟩ := h1 wd1 x H1 l hr rv
    refine ⟨wd2, σ', S2, hs.mono l2, hr2, ?_⟩
    have h3 := OkA_bind h2
    revert h3
    cases Ts σ' S2 with
    | ok u S3 =>
      intro h3 wd3 y H3 l3 hr3 rv3
      obtain ⟨u', wd4, S4, l4, hr4, rw4, h4⟩ := h3 wd3 y H3 l3 hr3 rv3
      exact h4 wd4 (x :: y) H3 (.refl _) hr4 ⟨x, y, rfl, rw2.mono l4, rw4⟩
    | exc c fs S3 => intro h3; exact h3
    | bad => intro h3; exact h3
  | exc c fs S1 => intro h1; exact h1
  | bad => intro h1; exact h1
/-- a def that may be called with keywords: n positional values, the keywords ks; gP puts them in the parameters' order -/
structure KFn (g : G) (f : Addr) (n : Nat) (ks : List Str) (gP : List Vl → List Vl → List Vl) (F : FV) : Prop where
  ex : ∃ fd ps k gg gV, FnOk g.P g.w g.K g.mg g.base (L2.CX g.P g.w) k f fd ps (spF g.K g.cls ps.length F) ∧ k ≤ g.k ∧ KPut g.K fd ps n ks gg gV ∧ (∀ wd as bs vs zs, RWs g.K wd as vs → RWs g.K wd bs zs → RWs g.K wd (gP as bs) (gV vs zs)) ∧ ∀ args S, args.length ≠ ps.length → F args S = .bad
@[simp] noncomputable def eMakeK (c : String) (F : FV) (n m : Nat) (gP : List Vl → List Vl → List Vl) (Ts Tk : EVs) : EV := fun σ S => (Ts σ S).bind fun vs S1 => (Tk σ S1).bind fun ws S2 => if vs.length = n ∧ ws.length = m then mkF c F (gP vs ws) S2 else .bad
theorem je_makeK0 (c : String) {gP} (h : KFn { g with k := k0 } f 0 ks gP F) (hk0 : k0 + 1 ≤ g.k) (M : Mk g.K (g.cls c) f) (hg : GlS g x) (hm : g.mg x = some (.ref (g.cls c))) (hkw : JK g kws Tk) (hdb : (x == ("__debug__" : Str)) = false := by decide)
    (hall : ∀ env, (backToKw pos (keywordEach kws env)).all (·.1.isSome) = true := by intro _; rfl) (hks : ∀ env, (backToKw pos (keywordEach kws env)).filterMap (·.1) = ks := by intro _; rfl)
    (h2 : ∀ env, ((backTo pos (starEach [] env)).any (·.1) || (backToKw pos (keywordEach kws env)).any (·.1.isNone)) = false := by intro _; rfl) : JE g (.Call (.Name x p) [] kws pos) (eMakeK c F 0 ks.length gP aNil Tk) := fun X hX W tk => by
  obtain ⟨fd, ps, k, gg, gV, hF, hk, hb, hr, har⟩ := h.ex
  have tk' : ∀ σ, PassesAt (L2.CX g.P g.w) X σ (WE W σ) := fun σ => by
    have := passAt tk σ
    rw [hX.P, hX.w] at this; exact this
  have hk' : k + 1 ≤ g.k := Nat.le_trans (Nat.succ_le_succ hk) hk0
  refine (pe_mkP0 (C := g.cls c) (E := WE W) (by rw [hX.K]; exact M) (FnOk.to hX hF) (hX.room.mono hk') (gl_of hX hg) (by rw [hX.mg]; exact hm) (by rw [hX.K]; exact hb) tk' (hkw X hX W tk) (hall X.env) (hks X.env) hdb (h2 X.env)).imp fun σ H Q h => ?_
  obtain ⟨wd, σ', S, hs, hh, h⟩ := h
  have h1 := OkA_bindE (T := Tk σ' S) (F := fun ws S2 => if ([] : List Vl).length = 0 ∧ ws.length = ks.length then mkF c F (gP [] ws) S2 else .bad) h
  refine ⟨wd, σ', S, hs, hh, ?_⟩
  revert h1
  cases Tk σ' S with
  | exc c fs S1 => intro h1; exact h1
  | bad => intro h1; exact h1
  | ok ws S1 =>
    intro h1 wd1 xs H1 l hr1 rv
    obtain ⟨v', wd2, S2, l2, hr2, rw2, h2⟩ := h1 wd1 xs H1 l hr1 rv
    split at h2
    · rename_i hl
      exact ⟨rfl, rw2.length ▸ hl.2, mk_read hr2 (hr wd2 [] v' [] xs rfl rw2) har h2⟩
    · exact h2.elim
theorem je_makeK (c : String) {gP} {n : Nat} (h : KFn { g with k := k0 } f n ks gP F) (hk0 : k0 + 1 ≤ g.k) (M : Mk g.K (g.cls c) f) (hg : GlS g x) (hm : g.mg x = some (.ref (g.cls c))) (ha : JA g (e :: es) Ts) (hkw : JK g kws Tk) (hdb : (x == ("__debug__" : Str)) = false := by decide)
    (hall : ∀ env, (backToKw pos (keywordEach kws env)).all (·.1.isSome) = true := by intro _; rfl) (hks : ∀ env, (backToKw pos (keywordEach kws env)).filterMap (·.1) = ks := by intro _; rfl) (h1 : ∀ env, starEach (e :: es) env = (false, eval e env) :: starEach es env := by intro _; rfl)
    (h2 : ∀ env, ((backTo pos (starEach (e :: es) env)).any (·.1) || (backToKw pos (keywordEach kws env)).any (·.1.isNone)) = false := by intro _; rfl) : JE g (.Call (.Name x p) (e :: es) kws pos) (eMakeK c F n ks.length gP Ts Tk) := fun X hX W tk => by
  obtain ⟨fd, ps, k, gg, gV, hF, hk, hb, hr, har⟩ := h.ex
  have tk' : ∀ σ, PassesAt (L2.CX g.P g.w) X σ (WE W σ) := fun σ => by
    have := passAt tk σ
    rw [hX.P, hX.w] at this; exact this
  have hk' : k + 1 ≤ g.k := Nat.le_trans (Nat.succ_le_succ hk) hk0
  refine (pe_mkP (C := g.cls c) (E := WE W) (by rw [hX.K]; exact M) (FnOk.to hX hF) (hX.room.mono hk') (gl_of hX hg) (by rw [hX.mg]; exact hm) (by rw [hX.K]; exact hb) tk' (ha X hX W tk) (hkw X hX W tk) (hall X.env) (hks X.env) hdb (h1 X.env) (h2 X.env)).imp fun σ H Q h => ?_
  obtain ⟨wd, σ', S, hs, hh, h⟩ := h
  refine ⟨wd, σ', S, hs, hh, ?_⟩
  have h1 := OkA_bindE h
  revert h1
  cases Ts σ' S with
  | exc c fs S1 => intro h1; exact h1
  | bad => intro h1; exact h1
  | ok vs S1 =>
    intro h1 wd1 xs H1 l hr1 rv
    obtain ⟨v1, wd2, S2, l2, hr2, rw2, h2⟩ := h1 wd1 xs H1 l hr1 rv
    refine ⟨wd2, σ', S2, hs.mono l2, hr2, ?_⟩
    have h3 := OkA_bindE h2
    revert h3
    cases Tk σ' S2 with
    | exc c fs S1 => intro h1; exact h1
    | bad => intro h1; exact h1
    | ok ws S3 =>
      intro h3 wd3 ys H3 l3 hr3 rv3
      obtain ⟨v4, wd4, S4, l4, hr4, rw4, h4⟩ := h3 wd3 ys H3 l3 hr3 rv3
      split at h4
      · rename_i hl
        exact ⟨rw2.length ▸ hl.1, rw4.length ▸ hl.2, mk_read hr4 (hr wd4 _ _ _ _ (rw2.mono l4) rw4) har h4⟩
      · exact h4.elim
/-! ### join -/
theorem glued_ok {a : Str} (ha : PyData.strOk a = true) : ∀ {ys : List Str}, (∀ y ∈ ys, PyData.strOk y = true) → PyData.strOk (Txt.join a ys) = true := by
  intro ys hy
  refine strOk_iff.mpr fun c hc => ?_
  have key : ∀ (l : List Str) (b : Array Nat), (∀ y ∈ l, PyData.strOk y = true) → (∀ c ∈ b.toList, c < 0x110000) → ∀ c ∈ (l.foldl (fun acc p => acc ++ a.cps ++ p.cps) b).toList, c < 0x110000 := by
    intro l
    induction l with
    | nil => exact fun b _ hb => hb
    | cons y l ih =>
      intro b hl hb
      refine ih _ (fun z hz => hl z (List.mem_cons_of_mem _ hz)) fun c hc => ?_
      simp only [Array.toList_append, List.mem_append] at hc
      rcases hc with (hc | hc) | hc
      · exact hb c hc
      · exact strOk_iff.mp ha c hc
      · exact strOk_iff.mp (hl y List.mem_cons_self) c hc
  have hc' : c ∈ ((ys.drop 1).foldl (fun acc p => acc ++ a.cps ++ p.cps) (ys.headD Str.empty).cps).toList := hc
  refine key (ys.drop 1) _ (fun y q => hy y (List.mem_of_mem_drop q)) (fun d hd => ?_) c hc'
  cases ys with
  | nil => simp [Str.empty] at hd
  | cons y r => exact strOk_iff.mp (hy y List.mem_cons_self) d hd
@[simp] noncomputable def eJoin (To T : EV) : EV := fun σ S => (To σ S).bind fun v S1 => match v with
  | .d (.str a) => (T σ S1).bind fun u S2 => joinF (.d (.str a)) (frz u) S2
  | _ => .bad
theorem je_join (ho : JE g o To) (he : JE g e T) (h1 : ∀ env, starEach [e] env = [(false, eval e env)] := by intro _; rfl) (hb : ∀ env, attributeBase o "join" env (eval o env) = eval o env := by intro _; rfl) (hl : (apos.endLine == pos.line) = true := by rfl) : JE g (.Call (.Attribute o "join" apos) [e] [] pos) (eJoin To T) := fun X hX W tk =>
  (pe_join (ho X hX W tk) (he X hX W tk) (h1 X.env) (hb X.env) hl).imp fun σ H Q h => by
  obtain ⟨wd, σ', S, hs, hh, h⟩ := h
  refine ⟨wd, σ', S, hs, hh, ?_⟩
  unfold eJoin at h
  revert h
  cases To σ' S with
  | exc c fs S1 => exact fun h => h
  | bad => exact fun h => h
  | ok v S1 =>
    intro h wd1 x H1 l hr rv
    dsimp only [Out.bind] at h
    split at h
    · rename_i a
      have rx := rd_str (K := g.K) (wd := wd1) (i := a) (x := x) rv
      refine ⟨⟨a, rx.1⟩, wd1, σ', S1, hs.mono l, hr, ?_⟩
      have h3 := OkE_opd (F := fun u S2 => joinF (.d (.str a)) u S2) (OkE.mono l h)
      revert h3
      cases T σ' S1 with
      | exc c fs S1 => intro h1; exact h1
      | bad => intro h1; exact h1
      | ok u S3 =>
        intro h3 wd3 y H3 l3 hr3 rv3
        obtain ⟨u', wd4, S4, l4, hr4, rw4, h4⟩ := h3 wd3 y H3 l3 hr3 rv3
        unfold joinF at h4
        dsimp only at h4
        split at h4
        · rename_i m em
          split at h4
          · rename_i ys ey
            split at h4
            · rename_i hz
              obtain ⟨q, vs, rfl, t, rr⟩ := rdl_at hr4 rw4 em
              obtain ⟨e1, e2⟩ := strs_v rr ey
              subst e1
              exact ⟨a, q, ys, rx.1, rfl, .inl (by rw [hX.K]; exact t), hz, h4 wd4 _ H3 (.refl _) hr4 (rv_str (glued_ok rx.2 e2))⟩
            · exact h4.elim
          · exact h4.elim
        · exact h4.elim
    · exact h.elim
/-! ### the signs of a text -/
def chrs (x : Str) : List D := x.cps.toList.map fun c => D.str ⟨#[c]⟩
def itemsS (v : Vl) (S : Sta) : Out (List D × (Sta → Bool)) := match v with
  | .d (.str x) => .ok (chrs x, fun _ => true) S
  | _ => .bad
theorem ji_str {tg : Expr} (h : JE g e T) : JI g tg e (iOf itemsS T) := fun X hX W tk => (pi_str (h X hX W tk)).imp fun σ H R h => by
  obtain ⟨wd, σ', S, hs, hh, h⟩ := h
  refine ⟨wd, σ', S, hs, hh, ?_⟩
  have h1 := OkI_opd (F := itemsS) h
  revert h1
  cases T σ' S with
  | exc c fs S1 => intro h1; exact h1
  | bad => intro h1; exact h1
  | ok v S1 =>
    intro h1 wd1 x H1 l hr rv
    obtain ⟨v', wd2, S2, l2, hr2, rw2, h2⟩ := h1 wd1 x H1 l hr rv
    unfold itemsS at h2
    split at h2
    · rename_i z
      obtain ⟨rfl, hz⟩ := rd_str rw2
      refine ⟨z, rfl, h2 wd2 H1 _ (.refl _) hr2 fun wd3 S3 H3 l3 hr3 _ => ?_⟩
      refine ⟨?_, fun j y ey => ?_⟩
      · show z.cps.size ≤ (chrs z).length
        simp [chrs]
      have hj : j < z.cps.size := by
        have := (List.getElem?_eq_some_iff.mp ey).1
        simpa [chrs] using this
      refine ⟨hj, fun w H' hy => ?_⟩
      obtain ⟨rfl, c, ec, rfl⟩ := hy
      have ey' : y = .str ⟨#[c]⟩ := by
        have e2 : (chrs z)[j]? = some (.str ⟨#[c]⟩) := by
          simp [chrs, ec]
        rw [e2] at ey; cases ey; rfl
      subst ey'
      refine ⟨wd3, .refl _, hr3, ?_⟩
      simp only [RD, true_and]
      refine strOk_iff.mpr fun d hd => ?_
      have hd' : d = c := by simpa using hd
      subst hd'
      exact strOk_iff.mp hz d (by simpa using Array.mem_of_getElem? ec)
    · exact h2.elim
/-! ### xs[i] = v -/
noncomputable def putAt (o i : Vl) (x : D) (σ : Sl) (S : Sta) : SOut := match o with
  | .box b => match i with
    | .d (.int k) => match S.B[b]? with
      | some (true, l) => match ixN l.length k with
        | some j => .nxt σ { S with B := S.B.set b (true, l.set j x) }
        | none => .bad
      | _ => .bad
    | _ => .bad
  | _ => .bad
@[simp] noncomputable def sSub (To Ti T : EV) : SV := fun σ S => (T σ S).st σ fun v S1 => match toD (frz v) S1 with
  | some (x, S2) => (To σ S2).st σ fun o S3 => (Ti σ S3).st σ fun i S4 => putAt (frz o) (frz i) x σ S4
  | none => .bad
theorem frz_idem (v : Vl) : frz (frz v) = frz v := by cases v <;> rfl
theorem js_sub {sp : Pos} (ho : JE g o To) (hi : JE g i Ti) (he : JE g e T) (hs : ∀ env, swapsWithSole [.Subscript o i sp] e pos.line env = pure false := by intro _; rfl) (hw : ∀ env, swappedStores [.Subscript o i sp] e env = pure none := by intro _; rfl)
    (h1 : ∀ env, (assignEach [.Subscript o i sp] env).map (·.2) = [assign (.Subscript o i sp) env] := by intro _; rfl)
    (ha : ∀ env v, assign (.Subscript o i sp) env v = (do
      let own ← holding [v] (eval o env)
      let at_ ← holding [v, own] (eval i env)
      standAt sp
      holding [v, own, at_] (setItem own at_ v)
      release [v, own, at_] []) := by intro _ _; rfl) : JS g (.Assign [.Subscript o i sp] e pos) (sSub To Ti T) := fun X hX W tk =>
  (ps_asg (he X hX.toGood W tk) (pg_sub (ho X hX.toGood W tk) (hi X hX.toGood W tk) set_list (ha X.env)) (hs X.env) (hw X.env) (h1 X.env)).imp fun E σ H h => by
  obtain ⟨wd, σ', S, hs, hh, h⟩ := h
  refine ⟨wd, σ', S, hs, hh, ?_⟩
  have h1 := st_read hs h
  revert h1
  cases T σ' S with
  | exc c fs S1 => intro h1; exact h1
  | bad => intro h1; exact h1
  | ok v S1 =>
    intro h1 wd1 y H1 l hr rv
    obtain ⟨v', wd2, S2, l2, hr2, rw2, h2⟩ := h1 wd1 y H1 l hr rv
    obtain ⟨wd3, l3, hr3, r3⟩ := rw2.frz hr2
    split at h2
    · rename_i z S3 ey
      obtain ⟨wd4, l4, hr4, r4⟩ := RW.toD hr3 r3 ey
      have hs4 := ((hs.mono l2).mono l3).mono l4
      refine ⟨wd4, σ', S3, hs4, hr4, ?_⟩
      have h3 := st_read hs4 (OkS.mono (l3.trans l4) h2)
      revert h3
      cases To σ' S3 with
      | exc c fs S5 => intro h3; exact h3
      | bad => intro h3; exact h3
      | ok v5 S5 =>
        intro h3 wd5 y5 H5 l5 hr5 rv5
        obtain ⟨v6, wd6, S6, l6, hr6, rw6, h6⟩ := h3 wd5 y5 H5 l5 hr5 rv5
        obtain ⟨wd7, l7, hr7, r7⟩ := rw6.frz hr6
        have hs7 := hs4.mono (l6.trans l7)
        refine ⟨wd7, σ', S6, hs7, hr7, ?_⟩
        have h8 := st_read hs7 (OkS.mono l7 h6)
        revert h8
        cases Ti σ' S6 with
        | exc c fs S5 => intro h3; exact h3
        | bad => intro h3; exact h3
        | ok v8 S8 =>
          intro h8 wd9 y9 H9 l9 hr9 rv9
          obtain ⟨v10, wd10, S10, l10, hr10, rw10, h10⟩ := h8 wd9 y9 H9 l9 hr9 rv9
          obtain ⟨wd11, l11, hr11, r11⟩ := rw10.frz hr10
          have h12 := OkS.mono l11 h10
          have r7' := (r7.mono l10).mono l11
          have r4' := RD.mono g.K (((l6.trans l7).trans l10).trans l11) _ _ r4
          revert h12 r7' r11
          generalize frz v6 = fo
          generalize frz v10 = fi
          intro r11 h12 r7'
          unfold putAt at h12
          split at h12
          · rename_i b
            split at h12
            · rename_i kk
              split at h12
              · rename_i lst el
                split at h12
                · rename_i j ej
                  obtain ⟨a, rfl, ea⟩ := r7'
                  obtain ⟨a', vs, e1, e2, e3, rr⟩ := hr11.live b lst el
                  rw [ea] at e1; cases e1
                  refine ⟨a, vs, kk, j, rfl, rd_int r11, e2, by rw [← rr.length]; exact ej, ?_⟩
                  exact h12 wd11 σ _ (.refl _) (hs7.mono (l10.trans l11)) (hr11.setBox el ea (rr.set j r4'))
                · exact h12.elim
              · exact h12.elim
            · exact h12.elim
          · exact h12.elim
    · exact h2.elim
end
end Ev

set_option Elab.async false
set_option linter.all false
set_option maxRecDepth 100000
/-! Ev13: len(set(xs)), xs a list of texts. -/
namespace Ev
open PySem PySem.Spec PyProof.Rows L2
open Classical
def metS (xs : List Str) (i : Nat) : List Str := (xs.take i).foldl step_dedup []
theorem metS_succ {xs : List Str} {i : Nat} {x : Str} (h : xs[i]? = some x) : metS xs (i + 1) = step_dedup (metS xs i) x := by
  unfold metS
  rw [List.take_add_one, h, List.foldl_append]; rfl
theorem stepS_len (a : List Str) (x : Str) : (step_dedup a x).length = (if a.any (· == x) = true then a.length else a.length + 1) := by
  unfold step_dedup
  by_cases c : a.any (· == x) = true
  · rw [if_pos c, if_pos c]
  · rw [if_neg c, if_neg c]; simp
theorem metS_len (xs : List Str) : ∀ i, i ≤ xs.length → (metS xs i).length ≤ i
  | 0, _ => Nat.le_refl _
  | i + 1, hi => by
    obtain ⟨x, ex⟩ : ∃ x, xs[i]? = some x := ⟨_, List.getElem?_eq_getElem hi⟩
    have ih := metS_len xs i (by omega)
    rw [metS_succ ex, stepS_len]
    split <;> omega
theorem stepS_any (a : List Str) (x k : Str) : ((step_dedup a x).any (· == k)) = (a.any (· == k) || decide (k = x)) := by
  unfold step_dedup
  by_cases c : a.any (· == x) = true
  · rw [if_pos c]
    by_cases e : k = x
    · subst e; simp [c]
    · simp [e]
  · rw [if_neg c, List.any_append]
    by_cases e : k = x
    · subst e; simp
    · have : ([x].any (· == k)) = false := by simpa using fun z : x = k => e z.symm
      rw [this]; simp [e]
section
variable {prog : Program} {w : World} {A : Around}
theorem strs_loop {I : Addr} {fp wr : List Addr} {Gr : Array GenState → Array GenState → Prop} {n : Nat} {Pv : Nat → Value → Prop} {St : Nat → Shared → Prop} {R : Result → Shared → Prop} (W : WalksS prog w A.in1 I fp wr Gr n Pv St) (D : Addr) (out : D ∉ fp) (xs : List Str) (hn : n = xs.length) (small : n + 1 < scanBound)
    (items : ∀ i v, Pv i v → ∃ x t, xs[i]? = some x ∧ v = .str x t) : ∀ (m i : Nat) (s0 : Shared), i + m = n → St i s0 → s0.heap.SetOf (PySem.strKind prog w) D (fun k => (metS xs i).any (· == k)) (metS xs i).length →
      (∀ s1, Moved (D :: wr) Gr s0 s1 → s1.heap.SetOf (PySem.strKind prog w) D (fun k => (metS xs n).any (· == k)) (metS xs n).length → R (.ok (.ret .none)) s1) → codeAny (model prog w) A (.builtin "set.update.loop" ⟨[.ref D, .ref I], []⟩) R s0
  | 0, i, s0, hm, st, so, fin => by
    have ei : i = n := by omega
    subst ei
    refine codeAny_builtin PyProof.Rows.F.entry_set_update_loop ?_; rw [Around.under_plainId PyProof.Rows.F.plain_set_update_loop _]
    refine wpAny_bind (W.done s0 _ _ st fun s1 mv => ?_); change wpAny _ A.in1 (ret Value.none) _ _ s1
    refine wpAny_pure (fin s1 (mv.mono fun b hb => List.mem_cons_of_mem _ hb) ?_)
    obtain ⟨o, es, ep, t, ho, rest⟩ := so; exact ⟨o, es, ep, t, mv.heap D _ (fun z => out (W.sub _ z)) ho, rest⟩
  | m + 1, i, s0, hm, st, so, fin => by
    have hi : i < n := by omega
    refine codeAny_builtin PyProof.Rows.F.entry_set_update_loop ?_; rw [Around.under_plainId PyProof.Rows.F.plain_set_update_loop _]
    refine wpAny_bind (W.item i s0 _ _ hi st fun v s1 pv st1 mv => ?_)
    obtain ⟨x, t, ex, rfl⟩ := items i v pv
    have so1 : s1.heap.SetOf (PySem.strKind prog w) D (fun k => (metS xs i).any (· == k)) (metS xs i).length := by
      obtain ⟨o, es, ep, tb, ho, rest⟩ := so; exact ⟨o, es, ep, tb, mv.heap D _ (fun z => out (W.sub _ z)) ho, rest⟩
    change wpAny _ A.in1 (holding [Value.str x t] (setAdd D (.str x t)) >>= _) _ _ s1
    refine wpAny_bind (wpAny_holding ?_); unfold setAdd; refine wpAny_holding (wpAny_bind ((PySem.strKind prog w).pyHash (k := x) (strKind_is _ _ _ _) ?_))
    refine wpAny_setAddHashed_of (knd := PySem.strKind prog w) (s := { s1 with toks := s1.toks + 1 }) (strKind_is _ _ _ _) rfl so1 (by have := metS_len xs i (by omega); omega) fun h2 keep so2 => ?_
    have so3 : h2.SetOf (PySem.strKind prog w) D (fun k => (metS xs (i + 1)).any (· == k)) (metS xs (i + 1)).length := SetOf_congr so2 (fun k => by rw [metS_succ ex, stepS_any]) (by rw [metS_succ ex, stepS_len])
    refine wpAny_pure ⟨plainId_quiet PyProof.Rows.F.plain_set_update_loop _, strs_loop W D out xs hn small items m (i + 1) _ (by omega) (W.frame _ s1 _ _ st1 (Nat.le_succ _) fun b hb o e => ?_) so3 fun s4 mv4 so4 => fin s4 (Moved.trans W.gtrans ((mv.mono fun b hb => List.mem_cons_of_mem _ hb).then_heap (Nat.le_succ _) fun b o hb e => ?_) mv4) so4⟩
    · rw [keep.2 b (fun z : b = D => out (z ▸ hb))]; exact e
    · rw [keep.2 b (fun z : b = D => hb (z ▸ List.mem_cons_self))]; exact e
variable {E : Value → Shared → Prop} {s : Shared}
/-- the new set, empty -/
abbrev setNew (led : Bool) : Obj := { cls := .type "set", dict := none, data := .set #[] 0 (.fresh 0 0 led) }
set_option maxHeartbeats 3200000 in
theorem call_set_strs {l : Addr} {items : Array Value} {xs : List Str} {Q : Value → Shared → Prop} (calm : A.handled = none) (lst : s.heap.IsList l items) (hsz : items.size = xs.length) (hit : ∀ (i : Nat) (v : Value), items[i]? = some v → ∃ x t, xs[i]? = some x ∧ v = .str x t) (small : items.size + 1 < scanBound)
    (fin : ∀ (h2 : Heap) (tk : Nat), h2.SetOf (PySem.strKind prog w) s.heap.objs.size (fun k => (metS xs items.size).any (· == k)) (metS xs items.size).length → (∀ b o, b < s.heap.objs.size → s.heap.get? b = some o → h2.get? b = some o) → Q (.ref s.heap.objs.size) { s with heap := h2, toks := tk }) :
    wpAny (model prog w) A (call (.type "set") [.ref l]) Q E s := by
  obtain ⟨c, tl, hmro⟩ := PySem.F.called_set.mro
  have made := PySem.F.called_set.made; have sub := PySem.F.called_set.sub
  refine wpAny_call (codeAny_of_tree ?_); change wpAny _ _ (callAny (.type "set") _) _ _ _
  refine wpAny_pure ⟨Code.quiet_builtin _ (by decide +kernel), codeAny_builtin PySem.F.entry_type_call ?_⟩; rw [Around.under_plain (weight_type_call_type "set" [.ref l] []) rfl]
  have notType := PySem.F.called_set.notType; have canCreate := PySem.F.called_set.canCreate; have checked := PySem.F.typeCall_set_1 (.ref l)
  repeat (any_goals (first | assumption | wp_step))
  refine codeAny_mono (code_set_new_1 (.ref l) (E := E) (Q₁ := fun obj s1 => ∃ led, obj = .ref s.heap.objs.size ∧ s1 = { s with heap := s.heap.push (setNew led) }) fun led => ⟨led, rfl, rfl⟩) fun res s1 q1 => ?_
  match res, q1 with
  | .error e, q1 => exact q1
  | .ok .next, q1 => exact q1.elim
  | .ok .brk, q1 => exact q1.elim
  | .ok .cont, q1 => exact q1.elim
  | .ok (.ret obj), q1 =>
    obtain ⟨led, rfl, rfl⟩ := q1
    have isNew : (s.heap.push (setNew led)).get? s.heap.objs.size = some (setNew led) := Heap.get?_push_size _ rfl
    have tyNew : Shared.TypeIs { s with heap := s.heap.push (setNew led) } (.ref s.heap.objs.size) "set" := ⟨_, isNew, rfl⟩
    have look := PySem.F.called_set.init.lookup; have bind_ := PySem.F.called_set.init.bind (.ref s.heap.objs.size)
    repeat (any_goals (first | assumption | wp_step))
    refine codeAny_mono (codeAny_call_builtin (R := wants (fun r s2 => r = .none ∧ ∃ h2 tk, s2 = { s with heap := h2, toks := tk } ∧ h2.SetOf (PySem.strKind prog w) s.heap.objs.size (fun k => (metS xs items.size).any (· == k)) (metS xs items.size).length ∧
        (∀ b o, b < s.heap.objs.size → s.heap.get? b = some o → h2.get? b = some o)) E) PySem.F.called_set.init.plain PySem.F.entry_set_init (check_set_init_1 tyNew ?_)) fun res2 s2 q2 => ?_
    · obtain ⟨⟨lcls, ldict, ldata, lslots⟩, ol, cl, nl, dl⟩ := lst
      dsimp only at cl dl; subst cl; subst dl
      have ol2 : (s.heap.push (setNew led)).get? l = some { cls := .type "list", dict := ldict, data := .seq items nl, slots := lslots } := Heap.get?_push_of_some _ ol
      have notSet := PySem.F.sub_list_set; have notFrozen := PySem.F.sub_list_frozenset
      have notDict : (Value.type "list" == Value.type "dict") = false := by decide
      have lst2 : (s.heap.push (setNew led)).IsList l items := ⟨_, ol2, rfl, nl, rfl⟩
      unfold Builtin.«set.__init__» noKeywords Builtin.Frozenset.updateFrom; generalize itEq : pyIter = IT
      wp_walk
      subst itEq
      refine wpAny_pyIter_list lst2 (wpAny_bind (wpAny_runValue ?_))
      have below : l < s.heap.objs.size := Heap.lt_size ol
      have calm3 : A.in1.in1.in1.handled = none := by simp [calm]
      have itNe : l ≠ (s.heap.push (setNew led)).objs.size := by rw [Heap.size_push]; exact Nat.ne_of_lt (Nat.lt_succ_of_lt below)
      have apart : s.heap.objs.size ∉ [(s.heap.push (setNew led)).objs.size, l] := by rw [Heap.size_push]; simp only [List.mem_cons, List.not_mem_nil, or_false, not_or]; exact ⟨Nat.ne_of_lt (Nat.lt_succ_self _), Nat.ne_of_gt below⟩
      refine strs_loop ((Walks.list calm3 _ l itNe items).toS) s.heap.objs.size apart xs hsz small hit items.size 0 _ (Nat.zero_add _) ⟨⟨_, Heap.get?_push_size _ rfl, rfl, rfl⟩, (lst2.push _)⟩ ?_ fun s3 mv so => ?_
      · exact SetOf_congr ((setObjOf_fresh (knd := PySem.strKind prog w) led).setOf (Heap.get?_push_of_some _ isNew) (by unfold scanBound; omega)) (fun _ => rfl) rfl
      · obtain ⟨h3, g3, d3, t3, os3⟩ := s3
        obtain rfl : g3 = s.gens := mv.gens
        obtain rfl : d3 = s.drawn := mv.drawn
        obtain rfl : os3 = s.os := mv.os
        change wpAny _ _ _ _ _ _; refine wpAny_pure ?_; change wpAny _ _ (ret Value.none) _ _ _
        refine wpAny_pure ⟨rfl, h3, t3, rfl, so, fun b o hb e => mv.heap b o ?_ (Heap.get?_push_of_some _ (Heap.get?_push_of_some _ e))⟩
        simp only [List.mem_cons, List.not_mem_nil, or_false, not_or]; exact ⟨Nat.ne_of_lt hb, by rw [Heap.size_push]; exact Nat.ne_of_lt (Nat.lt_succ_of_lt hb)⟩
    · match res2, q2 with
      | .error e, q2 => exact q2
      | .ok .next, q2 => exact q2.elim
      | .ok .brk, q2 => exact q2.elim
      | .ok .cont, q2 => exact q2.elim
      | .ok (.ret r), q2 =>
        obtain ⟨rfl, h4, t4, rfl, so, kp⟩ := q2
        repeat (any_goals (first | assumption | wp_step))
        exact fin h4 t4 so kp
end
end Ev

set_option Elab.async false
set_option linter.all false
set_option maxRecDepth 100000
set_option maxHeartbeats 1000000
/-! Ev14: the reading of len(set(xs)). -/
namespace Ev
open PySem PySem.Spec PyProof.Rows L2
open Classical
def tLenSt (K : PySem.W.Frag) (ta : TE) : TE := fun σ H Q => ta σ H fun x H1 => ∃ l, ∃ xs : List Str, x = .ref l ∧ SqL K H1 l (xs.map V.str) ∧ xs.length + 1 < scanBound ∧ Q (.int ((metS xs xs.length).length : Nat)) H1
section
variable {X : Cx} {a : Expr} {ta : TE} {p p2 q pos : Pos}
theorem pe_lenSt (hc : X.calm = true) (g1 : Gl X "len") (m1 : X.mg "len" = none) (g2 : Gl X "set") (m2 : X.mg "set" = none) (ha : PE X a ta) (na : starEach [a] X.env = (false, eval a X.env) :: starEach [] X.env) :
    PE X (.Call (.Name "len" p) [.Call (.Name "set" p2) [a] [] q] [] pos) (tLenSt X.K ta) := by
  refine ⟨fun pins s σ H Q I h => Call_ (ld_blt I g1 m1 boot_len (PyProof.Rows.callWith_builtin1 (PyProof.Rows.args_cons ?_ rfl) rfl rfl))⟩
  refine Call_ (ld_blt I g2 m2 boot_set (PyProof.Rows.callWith_type1 (PyProof.Rows.args_cons (thn (ha.run pins s σ H _ I h) fun v s1 ⟨x, H1, I1, r1, l, xs, ex, sq, small, fin⟩ => PyProof.Rows.args_nil ?_) na) na rfl))
  subst ex
  obtain rfl : v = Value.ref l := r1
  obtain ⟨its, r, pl, hz⟩ := I1.list sq
  have len1 : its.toArray.size = xs.length := by rw [List.size_toArray, ← r.length, List.length_map]
  refine call_set_strs (I1.ok.hd hc) pl.isList len1 (fun i v hv => ?_) (by rw [len1]; exact small) fun h2 tk so keep => ?_
  · have hv' : its[i]? = some v := by simpa using hv
    have hi : i < xs.length := by
      have := (List.getElem?_eq_some_iff.mp hv').1
      rw [← r.length, List.length_map] at this; exact this
    obtain ⟨w, hw, t, e⟩ := r.get (i := i) (x := .str xs[i]) (by simp [hi])
    rw [hv'] at hw; cases hw
    exact ⟨xs[i], t, List.getElem?_eq_getElem hi, e⟩
  · refine PyProof.Rows.args_nil ?_
    rw [len1] at so
    obtain ⟨o, es, ep, t, ho, hex, hd, _, _, _, hf, hn⟩ := so
    have I2 : Inv X pins σ H1 { s1 with heap := h2, toks := tk } := I1.kept fun b o e => keep b o (Heap.lt_size e) e
    have le := metS_len xs xs.length (Nat.le_refl _)
    exact call_len_set ho hex hd hf (by rw [hn]; unfold scanBound at small; omega) ⟨.int ((metS xs xs.length).length : Nat), H1, I2.tok _, ⟨_, by rw [hn]⟩, fin⟩
end
section
variable {g : G} {T : EV} {e : Expr} {p p2 q pos : Pos}
noncomputable def lenSetF (v : Vl) (S : Sta) : Out Vl := match rdlOf v S with
  | some l => match strsOf l with
    | some ys => if ys.length + 1 < scanBound then .ok (.d (.int ((metS ys ys.length).length : Nat))) S else .bad
    | none => .bad
  | none => .bad
theorem je_lenSet (g1 : GlS g "len") (m1 : g.mg "len" = none) (g2 : GlS g "set") (m2 : g.mg "set" = none) (he : JE g e T) (hs : ∀ env, starEach [e] env = (false, eval e env) :: starEach [] env := by intro _; rfl) :
    JE g (.Call (.Name "len" p) [.Call (.Name "set" p2) [e] [] q] [] pos) (eUn lenSetF T) := fun X hX W tk =>
  (pe_lenSt hX.calm (gl_of hX g1) (by rw [hX.mg]; exact m1) (gl_of hX g2) (by rw [hX.mg]; exact m2) (he X hX W tk) (hs X.env)).imp fun σ H Q h => un_read (r := fun x H1 Q => ∃ l, ∃ xs : List Str, x = .ref l ∧ SqL X.K H1 l (xs.map V.str) ∧ xs.length + 1 < scanBound ∧ Q (.int ((metS xs xs.length).length : Nat)) H1) (fun W σ wd H S v x Q hh rv h' => by
    unfold lenSetF at h'
    split at h'
    · rename_i l el
      split at h'
      · rename_i ys ey
        split at h'
        · rename_i small
          obtain ⟨a, vs, rfl, t, rr⟩ := rdl_at hh rv el
          obtain ⟨e1, _⟩ := strs_v rr ey
          subst e1
          exact ⟨a, ys, rfl, by rw [hX.K]; exact t, small, h' wd _ H (.refl _) hh rv_int⟩
        · exact h'.elim
      · exact h'.elim
    · exact h'.elim) h
end
end Ev

set_option Elab.async false
set_option linter.all false
set_option maxRecDepth 100000
set_option maxHeartbeats 1000000
/-! Ev15: loops over what there is; arguments that get a box; the facts of the text's top; defs by their place. -/
namespace Ev
open PySem PySem.Spec PyProof.Rows L2
open Classical
section
variable {g : G} {pos : Pos} {e : Expr} {es : List Expr} {T : EV} {Ts : EVs} {x : Str}
noncomputable def itemsA (v : Vl) (S : Sta) : Out (List D × (Sta → Bool)) := match v with
  | .d (.tup l) => itemsT (.d (.tup l)) S
  | .d (.str x) => itemsS (.d (.str x)) S
  | v => itemsL v S
@[simp] theorem itemsA_tup (l : List D) (S : Sta) : itemsA (.d (.tup l)) S = .ok (l, fun _ => true) S := rfl
@[simp] theorem itemsA_str (x : Str) (S : Sta) : itemsA (.d (.str x)) S = .ok (chrs x, fun _ => true) S := rfl
theorem ji_any {tg : Expr} (h : JE g e T) : JI g tg e (iOf itemsA T) := fun X hX W tk => ⟨fun pins s σ H R I q => by
  obtain ⟨wd, σ', S, hs, hh, ok⟩ := q
  have other : ∀ f : Vl → Sta → Out (List D × (Sta → Bool)), (∀ v S1, T σ' S = .ok v S1 → itemsA (frz v) S1 = f (frz v) S1) → iOf itemsA T σ' S = iOf f T σ' S := by
    intro f hf
    show (T σ' S).bind _ = (T σ' S).bind _
    cases hT : T σ' S with
    | ok v S1 => exact hf v S1 hT
    | exc c fs S1 => rfl
    | bad => rfl
  by_cases h1 : ∃ v S1 l, T σ' S = .ok v S1 ∧ frz v = .d (.tup l)
  · obtain ⟨v, S1, l, e1, e2⟩ := h1
    rw [other itemsT (fun v2 S2 e3 => by rw [e1] at e3; cases e3; rw [e2]; rfl)] at ok
    exact (ji_tup h X hX W tk).run pins s σ H R I ⟨wd, σ', S, hs, hh, ok⟩
  · by_cases h2 : ∃ v S1 l, T σ' S = .ok v S1 ∧ frz v = .d (.str l)
    · obtain ⟨v, S1, l, e1, e2⟩ := h2
      rw [other itemsS (fun v2 S2 e3 => by rw [e1] at e3; cases e3; rw [e2]; rfl)] at ok
      exact (ji_str h X hX W tk).run pins s σ H R I ⟨wd, σ', S, hs, hh, ok⟩
    · rw [other itemsL (fun v2 S2 e3 => by
        unfold itemsA
        split
        · rename_i l e4; exact absurd ⟨v2, S2, l, e3, e4⟩ h1
        · rename_i l e4; exact absurd ⟨v2, S2, l, e3, e4⟩ h2
        · rfl)] at ok
      exact (ji_list h X hX W tk).run pins s σ H R I ⟨wd, σ', S, hs, hh, ok⟩⟩
/-- an argument that the callee may change: a new list gets a box -/
@[simp] noncomputable def aConsB (T : EV) (Ts : EVs) : EVs := fun σ S => (T σ S).bind fun v S1 => match v with
  | .new l => (Ts σ { S1 with B := S1.B ++ [(true, l)] }).bind fun vs S2 => .ok (.box S1.B.length :: vs) S2
  | v => (Ts σ S1).bind fun vs S2 => .ok (v :: vs) S2
theorem ja_consB (ha : JE g e T) (hr : JA g es Ts) (hs : ∀ env, starEach (e :: es) env = (false, eval e env) :: starEach es env := by intro _; rfl) : JA g (e :: es) (aConsB T Ts) := fun X hX W tk =>
  (pa_cons (ha X hX W tk) (hr X hX W tk) (hs X.env)).imp fun σ H Q h => by
    obtain ⟨wd, σ', S, hs, hh, h⟩ := h
    refine ⟨wd, σ', S, hs, hh, ?_⟩
    unfold aConsB at h
    have go : ∀ (wd2 : Wd) (u : Vl) (y : V) (S2 : Sta) (H2 : Hp), wd.Le wd2 → HR g.K g.cls wd2 S2 H2 → RW g.K wd2 u y → OkA g.K g.cls W σ wd2 Q ((Ts σ' S2).bind fun vs S3 => .ok (u :: vs) S3) → LA g.K g.cls W Ts σ H2 fun ys H3 => Q (y :: ys) H3 := by
      intro wd2 u y S2 H2 l2 hr2 rw2 h2
      refine ⟨wd2, σ', S2, hs.mono l2, hr2, ?_⟩
      have h3 := OkA_bind h2
      revert h3
      cases Ts σ' S2 with
      | ok us S3 =>
        intro h3 wd3 z H3 l3 hr3 rv3
        obtain ⟨u', wd4, S4, l4, hr4, rw4, h4⟩ := h3 wd3 z H3 l3 hr3 rv3
        exact h4 wd4 (y :: z) H3 (.refl _) hr4 ⟨y, z, rfl, rw2.mono l4, rw4⟩
      | exc c fs S3 => intro h3; exact h3
      | bad => intro h3; exact h3
    revert h
    cases T σ' S with
    | exc c fs S1 => exact fun h => h
    | bad => exact fun h => h
    | ok v S1 =>
      intro h wd1 y H1 l hr1 rv
      dsimp only [Out.bind] at h
      cases v with
      | new m =>
        obtain ⟨a, vs, rfl, e1, n, nb, na, r⟩ := rv
        obtain ⟨le, hr2⟩ := hr1.pushBox e1 n nb na r
        exact go _ (.box S1.B.length) _ _ _ (l.trans le) hr2 ⟨a, rfl, by rw [hr1.bn]; simp⟩ (OkA.mono (l.trans le) h)
      | d z => exact go wd1 (.d z) y S1 H1 l hr1 rv (OkA.mono l h)
      | box j => exact go wd1 (.box j) y S1 H1 l hr1 rv (OkA.mono l h)
theorem je_gintE {i : Int} (hm : ∃ t, g.mg x = some (.int i t)) (hg : g.sc.names.lookup x = some .globalImplicit := by rfl) (hd : (x == ("__debug__" : Str)) = false := by decide) : JE g (.Name x pos) (eC (.int i)) := by
  obtain ⟨t, h⟩ := hm
  exact je_gint hg h hd
theorem je_gstrE {z : Str} (hm : ∃ t, g.mg x = some (.str z t)) (hg : g.sc.names.lookup x = some .globalImplicit := by rfl) (hz : PyData.strOk z = true := by decide +kernel) (hd : (x == ("__debug__" : Str)) = false := by decide) : JE g (.Name x pos) (eC (.str z)) := by
  obtain ⟨t, h⟩ := hm
  exact je_gstr hg h hz hd
end
/-- y = [..] where y is a cell: nothing is swapped -/
theorem sw_cell {g : G} {elt : Expr} {gs : List Comprehension} {scope : Scope} {pos py : Pos} {y : Str} {l : Nat} (hy : g.sc.names.lookup y = some .cell) : ∀ env : Env, env.scope = g.sc → swapsWith (.ListComp elt gs scope pos) (some (.Name y py)) l env = pure false := by
  intro env he
  have ky : env.kindOf y = some .cell := by show env.scope.names.lookup y = _; rw [he]; exact hy
  unfold swapsWith
  simp only [ky]
  have : (some NameKind.cell == some NameKind.local) = false := by decide
  rw [this]
  simp
/-! ### the facts of the text's top -/
/-- a class of errors with fields, as the head sees it -/
def oexB (K : PySem.W.Frag) (C : Addr) : Bool := (match K.lookup C with
  | some ⟨.type t, _, .cls cd, sl⟩ => (match cd.mro, sl.toList with
    | .ref C' :: bm, [_, _, _, _, some (.builtin n), _] => decide (t = "type") && (decide (C' = C) && (decide (n = "ValueError.__new__") && (!cd.hasDel && (cd.hasDict && PySem.HandSPX.refsVE bm))))
    | _, _ => false)
  | _ => false) && (decide (PySem.W.findIn K (.ref C) "__setattr__" = some (some (.builtin "object.__setattr__"))) && (decide (PySem.W.subIn K (.ref C) (.type "BaseException") = some true) && (decide (PySem.W.typeIn K (.ref C) = some (.type "type")) && PySem.W.keepIn K (.ref C))))
theorem oexB_ok {K : PySem.W.Frag} {C : Addr} (h : oexB K C = true) : OexC K C := by
  unfold oexB at h
  simp only [Bool.and_eq_true, decide_eq_true_eq] at h
  obtain ⟨h1, h2, h3, h4, h5⟩ := h
  refine ⟨?_, h2, h3, h4, h5⟩
  split at h1
  · rename_i t dd cd sl ho
    split at h1
    · rename_i C' bm k0 k1 k2 k3 n k5 hm hs
      simp only [Bool.and_eq_true, decide_eq_true_eq, Bool.not_eq_true'] at h1
      obtain ⟨rfl, rfl, rfl, hdel, hdict, ht⟩ := h1
      obtain ⟨nm, bs, mro, ns, qn, hd, sn, sub, ab, col, del⟩ := cd
      dsimp only at hm hdel hdict
      subst hm hdel hdict
      have hsl : sl = #[k0, k1, k2, k3, some (.builtin "ValueError.__new__"), k5] := by
        obtain ⟨l⟩ := sl
        simp only at hs
        rw [hs]
      subst hsl
      exact ⟨nm, qn, ns, bs, bm, sn, sub, ab, col, dd, k0, k1, k2, k3, k5, ho, ht⟩
    · cases h1
  · cases h1
def xB (K : PySem.W.Frag) (x : Str) : Bool := oexB K (He.ga K x) && xfB K (He.ga K x)
/-! ### the head's hook, with these facts -/
abbrev AlX : Type := He.AlD × Bool
/-- exception classes, and other questions to the text's top -/
structure XSpec where
  xs : List Str
  ps : List (PySem.W.Frag → Bool)
def XSpec.ok (x : XSpec) (K : PySem.W.Frag) : Bool := x.xs.all (xB K) && x.ps.all fun p => p K
def obsXG (n : Nat) (fa : List He.Fa) (fn : List He.DefD) (xs : XSpec) (g : Addr → Option Obj) : AlX := (He.obsDG n fa fn g, xs.ok (He.frG g (He.asD g n)))
def hookX (n : Nat) (fa : List He.Fa) (fn : List He.DefD) (xs : XSpec) : PySem.W.Hook where
  α := AlX
  obs := fun s => obsXG n fa fn xs s.heap.get?
  val := fun _ => (He.valD fn, true)
  says := fun _ h => ∃ K : PySem.W.Frag, K.In h ∧ (He.SaysD fa fn K ∧ xs.ok K = true)
  of := fun _ _ e => ⟨_, He.frG_in, congrArg (fun z : AlX => z.1) e, congrArg (fun z : AlX => z.2) e⟩
  keeps := fun _ _ _ ⟨K, hK, c⟩ k => ⟨K, PySem.W.Frag.In.keeps hK k, c⟩
theorem obsXG_eq {n : Nat} {fa : List He.Fa} {fn : List He.DefD} {xs : XSpec} {g : Addr → Option Obj} {s : Shared} (h : ∀ a, g a = s.heap.get? a) : obsXG n fa fn xs g = (hookX n fa fn xs).obs s := by
  have e : g = s.heap.get? := funext h
  subst e; rfl
structure EnvE (fa : List He.Fa) (fn : List He.DefD) (xs : XSpec) (g : G) : Prop where
  c : He.SaysD fa fn g.K
  inn : ∃ h, g.K.In h ∧ h.Ns mainGlobals g.mg
  cls : g.cls = fun s => He.ga g.K (enc s)
  hx : xs.ok g.K = true
section
variable {fa : List He.Fa} {fn : List He.DefD} {xs : XSpec} {g : G} {x m f : Str} {c : String}
theorem EnvE.at_ (E : EnvE fa fn xs g) (k : Nat) (N : List Str) (sc : Scope) : EnvE fa fn xs (g.at_ k N sc) := ⟨E.c, E.inn, E.cls, E.hx⟩
theorem EnvE.any (E : EnvE fa fn xs g) {g' : G} (h1 : g'.K = g.K := by rfl) (h2 : g'.mg = g.mg := by rfl) (h3 : g'.cls = g.cls := by rfl) : EnvE fa fn xs g' := ⟨by rw [h1]; exact E.c, by rw [h1, h2]; exact E.inn, by rw [h1, h3]; exact E.cls, by rw [h1]; exact E.hx⟩
theorem EnvE.glo (E : EnvE fa fn xs g) (i : Nat) (h : fa[i]? = some (.glo x) := by rfl) : g.mg x = some (.ref (He.ga g.K x)) := let ⟨_, X, G⟩ := E.inn; He.glo_ok X G (E.c.fact i h)
theorem EnvE.free (E : EnvE fa fn xs g) (i : Nat) (h : fa[i]? = some (.free x) := by rfl) : g.mg x = none := let ⟨_, X, G⟩ := E.inn; He.free_ok X G (E.c.fact i h)
theorem EnvE.int_ (E : EnvE fa fn xs g) (i : Nat) {n : Int} (h : fa[i]? = some (.int x n) := by rfl) : ∃ t, g.mg x = some (.int n t) := let ⟨_, X, G⟩ := E.inn; He.int_ok X G (E.c.fact i h)
theorem EnvE.str_ (E : EnvE fa fn xs g) (i : Nat) {z : Str} (h : fa[i]? = some (.str x z) := by rfl) : ∃ t, g.mg x = some (.str z t) := let ⟨_, X, G⟩ := E.inn; He.str_ok X G (E.c.fact i h)
theorem EnvE.cad (E : EnvE fa fn xs g) (c : String) : g.cls c = He.ga g.K (enc c) := congrFun E.cls c
theorem EnvE.gcl (E : EnvE fa fn xs g) (i : Nat) (c : String) (h : fa[i]? = some (.glo (enc c)) := by rfl) (e : x = enc c := by rfl) : g.mg x = some (.ref (g.cls c)) := by rw [E.cad, e]; exact E.glo i h
theorem EnvE.cls_ (E : EnvE fa fn xs g) (i : Nat) (c : String) (h : fa[i]? = some (.cls (enc c)) := by rfl) : Cls g.K (g.cls c) := by rw [E.cad]; exact He.cls_ok (E.c.fact i h)
theorem EnvE.noat (E : EnvE fa fn xs g) (i : Nat) (c : String) (h : fa[i]? = some (.noat (enc c) f) := by rfl) : NoAttr g.K (g.cls c) f := by rw [E.cad]; exact He.noat_ok (E.c.fact i h)
theorem EnvE.meth (E : EnvE fa fn xs g) (i : Nat) (c : String) (h : fa[i]? = some (.meth (enc c) m) := by rfl) : Meth g.K (g.cls c) m (He.fAd g.K (enc c, some m)) := by rw [E.cad]; exact He.meth_ok (E.c.fact i h)
theorem EnvE.mkr (E : EnvE fa fn xs g) (i : Nat) (c : String) (h : fa[i]? = some (.mkr (enc c)) := by rfl) : Mk g.K (g.cls c) (He.fAd g.K (enc c, some "__init__")) := by rw [E.cad]; exact He.mkr_ok (E.c.fact i h)
theorem EnvE.prd (E : EnvE fa fn xs g) (i : Nat) {p : PySem.W.Frag → Bool} (h : xs.ps[i]? = some p := by rfl) : p g.K = true := by
  have := E.hx
  unfold XSpec.ok at this
  rw [Bool.and_eq_true] at this
  exact List.all_eq_true.mp this.2 p (List.mem_of_getElem? h)
/-- a def by its place: its body's run is its promise -/
theorem fn_at {d : He.DefD} {N ps : List Str} {k0 : Nat} {T : SV} (E : EnvE fa fn xs g) (i : Nat) (hd : fn[i]? = some d) (h0 : d.dfl = []) (hk0 : d.kwd = []) (S : FnScope N ps d.scope) (hT : JSs (g.at_ k0 N d.scope) d.body T)
    (bind : ∀ (kV doc pm : Value) (an : Option Addr) (cdv ct : Value) (us : List Value), us.length = ps.length → bindArgs (PySem.W.fnOf d.name d.qual d.params d.body d.scope .none kV doc pm an cdv ct) ⟨us, []⟩ = pure (ps.zip us)) (hk : k0 + 1 ≤ g.k) :
    FnJ g (He.fAd g.K d.at_) [] (mkFn ps.length (N.length - ps.length) T) := by
  obtain ⟨fd, F⟩ := E.c.def_ i hd
  have e1 : d.dvs g.K = [] := by unfold He.DefD.dvs; rw [h0]; rfl
  have e2 : d.kws g.K = [] := by unfold He.DefD.kws; rw [hk0]; rfl
  rw [e1, e2] at F
  refine ⟨fd, ps, k0 + 1, [], [], fn_ok F S hT, hk, F.kp, F.bindsN bind, .nil, fun _ => by simp [RDs], fun args S h => ?_⟩
  unfold mkFn
  rw [if_neg h]
/-- a maker that is called with keywords, in the parameters' order -/
theorem kfn_at {d : He.DefD} {N ps : List Str} {k0 n : Nat} {ks : List Str} {T : SV} (E : EnvE fa fn xs g) (i : Nat) (hd : fn[i]? = some d) (h0 : d.dfl = []) (hk0 : d.kwd = []) (S : FnScope N ps d.scope) (hT : JSs (g.at_ k0 N d.scope) d.body T)
    (bind : ∀ (kV doc pm : Value) (an : Option Addr) (cdv ct u : Value) (us ws : List Value), us.length = n → ws.length = ks.length → bindArgs (PySem.W.fnOf d.name d.qual d.params d.body d.scope .none kV doc pm an cdv ct) ⟨u :: us, ks.zip ws⟩ = pure (ps.zip (u :: (us ++ ws)))) (hk : k0 + 1 ≤ g.k) :
    KFn g (He.fAd g.K d.at_) n ks (fun a b => a ++ b) (mkFn ps.length (N.length - ps.length) T) := by
  obtain ⟨fd, F⟩ := E.c.def_ i hd
  have e1 : d.dvs g.K = [] := by unfold He.DefD.dvs; rw [h0]; rfl
  have e2 : d.kws g.K = [] := by unfold He.DefD.kws; rw [hk0]; rfl
  rw [e1, e2] at F
  refine ⟨fd, ps, k0 + 1, fun a b => a ++ b, fun a b => a ++ b, fn_ok F S hT, hk, ⟨?_, fun r1 r2 => r1.append r2⟩, fun wd as bs vs zs r1 r2 => r1.append r2, fun args S h => ?_⟩
  · obtain ⟨oc, od, dV, kV, doc, pm, an, cdv, ct, osl, rfl, lk, hcd, hD, hK⟩ := F.ex
    rcases hD with ⟨_, rfl⟩ | ⟨e, _⟩
    · exact fun s u us ws _ l1 l2 => .of_eq (bind kV doc pm an cdv ct u us ws l1 l2)
    · exact absurd rfl e
  · unfold mkFn
    rw [if_neg h]
end
end Ev

set_option Elab.async false
set_option linter.all false
set_option maxRecDepth 100000
set_option maxHeartbeats 1000000
/-! Ev16: the law's end. -/
namespace Ev
open PySem PySem.Spec PyProof.Rows L2
open Classical
/-- some exception, whatever program and world it is of -/
def CXn : CXT := fun outer H s E e s' => ∃ P w, L2.CX P w outer H s E e s'
theorem fnok_cx {P : Program} {w : World} {K : PySem.W.Frag} {mg : Str → Option Value} {base : Heap} {k : Nat} {f : Addr} {fd : FuncData} {ps : List Str} {sp : Sp} (F : FnOk P w K mg base (L2.CX P w) k f fd ps sp) : FnOk P w K mg base CXn k f fd ps sp :=
  ⟨F.len, fun A outer s H args us vs Q E hr e0 hb rv h => codeAny_mono (F.run A outer s H args us vs Q E hr e0 hb rv h) fun r s' q => match r, q with
    | .ok (.ret _), q => q
    | .error _, q => ⟨P, w, q⟩
    | .ok .next, q => q
    | .ok .brk, q => q
    | .ok .cont, q => q⟩
theorem cxn_none (H : Hp) (s : Shared) (e : Value) (s' : Shared) (h : CXn [] H s (fun _ _ _ => False) e s') : False := by
  obtain ⟨P, w, a, B, H', cls, d, _, _, _, _, _, _, _, z⟩ := h
  exact z
def scrD (ns : List Int) : Vl := .d (.scr (ns.map D.int))
theorem ints_rd {K : PySem.W.Frag} {wd : Wd} : ∀ ns : List Int, RDs K wd (ns.map D.int) (ns.map V.int)
  | [] => by simp [RDs]
  | n :: r => by
    simp only [List.map_cons, RDs]
    exact ⟨_, _, rfl, by simp [RD], ints_rd r⟩
/-- the law's promise from its run -/
theorem sp_start {K : PySem.W.Frag} {cls : String → Addr} {F : FV} {H : Hp} {a : Addr} {ns : List Int} (hO : Only H) (hS : SqL K H a (ns.map V.int)) (h : ∃ S1, F [scrD ns] ⟨[], []⟩ = .ok (.d (.bl true)) S1) :
    spF K cls 1 F [.ref a] H (fun v _ => v = .bl true) fun _ _ _ => False := by
  obtain ⟨S1, e⟩ := h
  refine ⟨rfl, ⟨H, [], [], []⟩, [scrD ns], ⟨[], []⟩, ?_, ?_, ?_⟩
  · refine ⟨fun _ _ q => q, rfl, fun i l q => by simp at q, fun i l q => by simp at q, List.nodup_nil, rfl, List.nodup_nil, fun i o q => by simp at q, fun p hp => by simp at hp, List.nodup_nil, fun b o q => ?_⟩
    rcases hO b with z | ⟨o', xs, z⟩
    · have q' : H b = some o := q
      rw [z] at q'; cases q'
    · have q' : H b = some o := q
      rw [z] at q'; cases q'; rfl
  · refine ⟨.ref a, [], rfl, ?_, rfl⟩
    show RD K _ (.scr (ns.map D.int)) (.ref a)
    simp only [RD]
    refine ⟨a, ns.map V.int, rfl, ?_, ints_rd ns⟩
    rcases hS with (hS | ⟨o, hS⟩) | hS
    · rcases hO a with z | ⟨o', xs, z⟩ <;> rw [z] at hS <;> cases hS
    · exact .inl ⟨o, hS⟩
    · exact .inr hS
  · rw [e]
    intro wd1 x H1 _ _ rv
    simpa [RV, RD] using rv
end Ev

set_option Elab.async false
set_option linter.all false
set_option maxRecDepth 100000
set_option maxHeartbeats 1000000
/-! Ev17: how a run over plain data is reckoned. -/
namespace Ev
open PySem PySem.Spec PyProof.Rows L2
open Classical
@[simp] theorem frz_d (x : D) : frz (.d x) = .d x := rfl
@[simp] theorem frz_new (l : List D) : frz (.new l) = .d (.lst l) := rfl
@[simp] theorem frz_box (i : Nat) : frz (.box i) = .box i := rfl
@[simp] theorem Out.st_ok (v : Vl) (S : Sta) (σ : Sl) (f : Vl → Sta → SOut) : (Out.ok v S).st σ f = f v S := rfl
@[simp] theorem Out.st_exc (c fs) (S : Sta) (σ : Sl) (f : Vl → Sta → SOut) : (Out.exc c fs S : Out Vl).st σ f = .exc c fs σ S := rfl
@[simp] theorem Out.stB_ok (v : Bool) (S : Sta) (σ : Sl) (f : Bool → Sta → SOut) : (Out.ok v S).stB σ f = f v S := rfl
@[simp] theorem andThen_nxt (σ : Sl) (S : Sta) (f : SV) : (SOut.nxt σ S).andThen f = f σ S := rfl
@[simp] theorem andThen_ret (v : Vl) (S : Sta) (f : SV) : (SOut.ret v S).andThen f = .ret v S := rfl
@[simp] theorem andThen_exc (c fs) (σ : Sl) (S : Sta) (f : SV) : (SOut.exc c fs σ S).andThen f = .exc c fs σ S := rfl
@[simp] theorem toD_new (l : List D) (S : Sta) : toD (.new l) S = some (.lst l, S) := rfl
theorem toD_box {i : Nat} {b : Bool} {l : List D} {S : Sta} (h : S.B[i]? = some (b, l)) : toD (.box i) S = some (.lst l, { S with B := S.B.set i (false, l) }) := by
  show (match S.B[i]? with | some (_, l) => some (D.lst l, { S with B := S.B.set i (false, l) }) | none => none) = _
  rw [h]
/-! numbers -/
theorem le_sizeLine {n : Nat} (h : n ≤ 10000000) : n ≤ sizeLine := by unfold sizeLine; omega
@[simp] theorem szl_1 : 1 ≤ sizeLine := le_sizeLine (by omega)
@[simp] theorem szl_2 : 2 ≤ sizeLine := le_sizeLine (by omega)
@[simp] theorem szl_3 : 3 ≤ sizeLine := le_sizeLine (by omega)
@[simp] theorem szl_4 : 4 ≤ sizeLine := le_sizeLine (by omega)
@[simp] theorem szl_5 : 5 ≤ sizeLine := le_sizeLine (by omega)
@[simp] theorem szl_6 : 6 ≤ sizeLine := le_sizeLine (by omega)
@[simp] theorem szl_7 : 7 ≤ sizeLine := le_sizeLine (by omega)
@[simp] theorem szl_8 : 8 ≤ sizeLine := le_sizeLine (by omega)
@[simp] theorem szl_9 : 9 ≤ sizeLine := le_sizeLine (by omega)
@[simp] theorem szl_10 : 10 ≤ sizeLine := le_sizeLine (by omega)

section
variable (i j : Int) (S : Sta) (x y : Str) (a b : D) (l m : List D)
@[simp] theorem addF_int : addF (.d (.int i)) (.d (.int j)) S = .ok (.d (.int (i + j))) S := rfl
@[simp] theorem addF_str : addF (.d (.str x)) (.d (.str y)) S = if x.length + y.length ≤ sizeLine then .ok (.d (.str (x ++ y))) S else .bad := rfl
@[simp] theorem subF_int : subF (.d (.int i)) (.d (.int j)) S = .ok (.d (.int (i - j))) S := rfl
@[simp] theorem mulF_int : mulF (.d (.int i)) (.d (.int j)) S = if CMulW i j then .ok (.d (.int (i * j))) S else .bad := rfl
@[simp] theorem modF_int : modF (.d (.int i)) (.d (.int j)) S = if 0 < j then .ok (.d (.int (i % j))) S else .bad := rfl
@[simp] theorem divF_int : divF (.d (.int i)) (.d (.int j)) S = if CDivW i j then .ok (.d (.int (i / j))) S else .bad := rfl
@[simp] theorem powF_int : powF (.d (.int i)) (.d (.int j)) S = if CPow i j then .ok (.d (.int (i ^ j.toNat))) S else .bad := rfl
@[simp] theorem negF_int : negF (.d (.int i)) S = .ok (.d (.int (-i))) S := rfl
@[simp] theorem ltF_int : ltF (.d (.int i)) (.d (.int j)) S = .ok (.d (.bl (decide (i < j)))) S := rfl
@[simp] theorem leF_int : leF (.d (.int i)) (.d (.int j)) S = .ok (.d (.bl (decide (i ≤ j)))) S := rfl
@[simp] theorem gtF_int : gtF (.d (.int i)) (.d (.int j)) S = .ok (.d (.bl (decide (j < i)))) S := rfl
@[simp] theorem geF_int : geF (.d (.int i)) (.d (.int j)) S = .ok (.d (.bl (decide (j ≤ i)))) S := rfl
@[simp] theorem intF_int : intF [.d (.int i)] S = .ok (.d (.int i)) S := rfl
/-! == -/
theorem eqF_d : eqF (.d a) (.d b) S = if okD 60 a = true ∧ okD 60 b = true then .ok (.d (.bl (eqD a b))) S else .bad := rfl
theorem neF_d : neF (.d a) (.d b) S = if okD 60 a = true ∧ okD 60 b = true then .ok (.d (.bl (!eqD a b))) S else .bad := rfl
@[simp] theorem eqD_int : eqD (.int i) (.int j) = decide (i = j) := by
  show (i == j) = _
  by_cases h : i = j <;> simp [h]
@[simp] theorem eqD_str : eqD (.str x) (.str y) = decide (x = y) := by
  show (x == y) = _
  by_cases h : x = y
  · subst h; simp
  · rw [beq_eq_false_iff_ne.mpr h]; simp [h]
@[simp] theorem eqD_bl (p q : Bool) : eqD (.bl p) (.bl q) = decide (p = q) := by
  show (p == q) = _
  cases p <;> cases q <;> rfl
@[simp] theorem eqF_int : eqF (.d (.int i)) (.d (.int j)) S = .ok (.d (.bl (decide (i = j)))) S := by rw [eqF_d, if_pos ⟨rfl, rfl⟩, eqD_int]
@[simp] theorem neF_int : neF (.d (.int i)) (.d (.int j)) S = .ok (.d (.bl (!decide (i = j)))) S := by rw [neF_d, if_pos ⟨rfl, rfl⟩, eqD_int]
@[simp] theorem eqF_str : eqF (.d (.str x)) (.d (.str y)) S = .ok (.d (.bl (decide (x = y)))) S := by rw [eqF_d, if_pos ⟨rfl, rfl⟩, eqD_str]
@[simp] theorem neF_str : neF (.d (.str x)) (.d (.str y)) S = .ok (.d (.bl (!decide (x = y)))) S := by rw [neF_d, if_pos ⟨rfl, rfl⟩, eqD_str]
@[simp] theorem eqF_bl (p q : Bool) : eqF (.d (.bl p)) (.d (.bl q)) S = .ok (.d (.bl (decide (p = q)))) S := by rw [eqF_d, if_pos ⟨rfl, rfl⟩, eqD_bl]
@[simp] theorem neF_bl (p q : Bool) : neF (.d (.bl p)) (.d (.bl q)) S = .ok (.d (.bl (!decide (p = q)))) S := by rw [neF_d, if_pos ⟨rfl, rfl⟩, eqD_bl]
end
mutual
theorem eqD_refl : ∀ (n : Nat) (a : D), okD n a = true → eqD a a = true
  | _, .non, _ => rfl
  | _, .bl b, _ => by simp
  | _, .int i, _ => by simp
  | _, .str x, _ => by simp
  | 0, .tup l, h => by simp [okD] at h
  | n + 1, .tup l, h => eqDs_refl n l (by simpa [okD] using h)
  | 0, .lst l, h => by simp [okD] at h
  | n + 1, .lst l, h => eqDs_refl n l (by simpa [okD] using h)
  | 0, .scr l, h => by simp [okD] at h
  | n + 1, .scr l, h => eqDs_refl n l (by simpa [okD] using h)
  | _, .obj _, h => by simp [okD] at h
  | _, .ty _, h => by simp [okD] at h
  | _, .cl _, h => by simp [okD] at h
theorem eqDs_refl : ∀ (n : Nat) (l : List D), okDs n l = true → PyData.eqvAll (toPys l) (toPys l) = true
  | _, [], _ => rfl
  | n, a :: r, h => by
    simp only [okDs, Bool.and_eq_true] at h
    show (PyData.eqv (toPy a) (toPy a) && PyData.eqvAll (toPys r) (toPys r)) = true
    rw [show PyData.eqv (toPy a) (toPy a) = eqD a a from rfl, eqD_refl n a h.1, eqDs_refl n r h.2]; rfl
end
/-! what lists hold -/
section
variable (l m : List D) (S : Sta) (i : Int) (x : Str)
theorem rdlOf_box {k : Nat} {b : Bool} {l : List D} {S : Sta} (h : S.B[k]? = some (b, l)) : rdlOf (.box k) S = some l := by show (match S.B[k]? with | some (_, l) => some l | none => none) = _; rw [h]
theorem lstOf_box {k : Nat} {b : Bool} {l : List D} {S : Sta} (h : S.B[k]? = some (b, l)) : lstOf (.box k) S = some l := by show (match S.B[k]? with | some (_, l) => some l | none => none) = _; rw [h]
theorem datOf_box {k : Nat} {b : Bool} {l : List D} {S : Sta} (h : S.B[k]? = some (b, l)) : datOf (.box k) S = some (.lst l) := by show (match lstOf (.box k) S with | some l => some (D.lst l) | none => none) = _; rw [lstOf_box h]
@[simp] theorem itemsA_lst : itemsA (.d (.lst l)) S = .ok (l, fun S1 => decide (rdlOf (.d (.lst l)) S1 = some l)) S := rfl
@[simp] theorem itemsL_lst : itemsL (.d (.lst l)) S = .ok (l, fun S1 => decide (rdlOf (.d (.lst l)) S1 = some l)) S := rfl
theorem itemsA_box {k : Nat} {b : Bool} {l : List D} {S : Sta} (h : S.B[k]? = some (b, l)) : itemsA (.box k) S = .ok (l, fun S1 => decide (rdlOf (.box k) S1 = some l)) S := by
  show itemsL (.box k) S = _
  unfold itemsL
  rw [rdlOf_box h]
@[simp] theorem lenF_str : lenF [.d (.str x)] S = if x.length ≤ sizeLine then .ok (.d (.int x.length)) S else .bad := rfl
@[simp] theorem lenF_tup : lenF [.d (.tup l)] S = .ok (.d (.int l.length)) S := rfl
@[simp] theorem lenF_lst : lenF [.d (.lst l)] S = .ok (.d (.int l.length)) S := rfl
@[simp] theorem lenF_scr : lenF [.d (.scr l)] S = .ok (.d (.int l.length)) S := rfl
theorem lenF_box {k : Nat} {b : Bool} {l : List D} {S : Sta} (h : S.B[k]? = some (b, l)) : lenF [.box k] S = .ok (.d (.int l.length)) S := by
  show (match rdlOf (.box k) S with | some l => (Out.ok (Vl.d (.int l.length)) S : Out Vl) | none => Out.bad) = _
  rw [rdlOf_box h]
@[simp] theorem tupleF_tup : tupleF [.d (.tup l)] S = .ok (.d (.tup l)) S := rfl
@[simp] theorem tupleF_lst : tupleF [.d (.lst l)] S = .ok (.d (.tup l)) S := rfl
theorem tupleF_box {k : Nat} {b : Bool} {l : List D} {S : Sta} (h : S.B[k]? = some (b, l)) : tupleF [.box k] S = .ok (.d (.tup l)) S := by
  show (match rdlOf (.box k) S with | some l => (Out.ok (Vl.d (.tup l)) S : Out Vl) | none => Out.bad) = _
  rw [rdlOf_box h]
@[simp] theorem allF_lst : allF [.d (.lst l)] S = match blsOf l with
  | some bs => .ok (.d (.bl (bs.all id))) S
  | none => .bad := rfl
theorem allF_box {k : Nat} {b : Bool} {l : List D} {S : Sta} (h : S.B[k]? = some (b, l)) : allF [.box k] S = match blsOf l with
  | some bs => .ok (.d (.bl (bs.all id))) S
  | none => .bad := by
  have e : allF [.box k] S = allF [.d (.lst l)] S := by
    unfold allF
    simp only [rdlOf_box h, rdlOf_lst]
  rw [e]; rfl
@[simp] theorem ixF_tup : ixF (.d (.tup l)) (.d (.int i)) S = match atI l i with
  | some x => .ok (.d x) S
  | none => .bad := rfl
@[simp] theorem ixF_lst : ixF (.d (.lst l)) (.d (.int i)) S = match atI l i with
  | some x => .ok (.d x) S
  | none => .bad := rfl
@[simp] theorem ixF_scr : ixF (.d (.scr l)) (.d (.int i)) S = match atI l i with
  | some x => .ok (.d x) S
  | none => .bad := rfl
@[simp] theorem ixF_str : ixF (.d (.str x)) (.d (.int i)) S = if x.length ≤ sizeLine then match atI x.cps.toList i with
      | some c => .ok (.d (.str ⟨#[c]⟩)) S
      | none => .bad else .bad := rfl
theorem ixF_box {k : Nat} {b : Bool} {l : List D} {S : Sta} (h : S.B[k]? = some (b, l)) : ixF (.box k) (.d (.int i)) S = match atI l i with
  | some x => .ok (.d x) S
  | none => .bad := by
  have e : ixF (.box k) (.d (.int i)) S = ixF (.d (.lst l)) (.d (.int i)) S := by
    unfold ixF
    simp only [rdlOf_box h, rdlOf_lst]
  rw [e]; rfl
end
theorem atI_nat {α : Type} (l : List α) (k : Nat) : atI l (k : Int) = l[k]? := by
  unfold atI ixN
  rw [if_pos (by omega)]
  by_cases h : k < l.length
  · rw [if_pos (by omega)]; simp
  · rw [if_neg (by omega), List.getElem?_eq_none (by omega)]; rfl
@[simp] theorem atI_zero {α : Type} (l : List α) : atI l 0 = l[0]? := atI_nat l 0
@[simp] theorem atI_one {α : Type} (l : List α) : atI l 1 = l[1]? := atI_nat l 1
@[simp] theorem atI_two {α : Type} (l : List α) : atI l 2 = l[2]? := atI_nat l 2
@[simp] theorem atI_three {α : Type} (l : List α) : atI l 3 = l[3]? := atI_nat l 3
@[simp] theorem atI_four {α : Type} (l : List α) : atI l 4 = l[4]? := atI_nat l 4
theorem atI_of {α : Type} (l : List α) (i : Int) (h0 : 0 ≤ i) (h1 : i < l.length) : ∃ x, atI l i = some x ∧ x ∈ l := by
  obtain ⟨k, rfl⟩ := Int.eq_ofNat_of_zero_le h0
  have hk : k < l.length := by omega
  exact ⟨l[k], by rw [atI_nat, List.getElem?_eq_getElem hk], List.getElem_mem hk⟩
theorem atI_last {α : Type} (l : List α) (x : α) : atI (l ++ [x]) (-1) = some x := by
  unfold atI ixN
  rw [if_neg (by omega), if_pos (by simp only [List.length_append, List.length_singleton]; omega)]
  have : (-1 + ((l ++ [x]).length : Int)).toNat = l.length := by simp only [List.length_append, List.length_singleton]; omega
  rw [this]
  simp
/-! loops -/
@[simp] theorem forL_nil (chk tg body) (σ : Sl) (S : Sta) : forL chk tg body [] σ S = if chk S = true then .nxt σ S else .bad := rfl
theorem forL_cons (chk tg body) (x : D) (r : List D) (σ : Sl) (S : Sta) : forL chk tg body (x :: r) σ S = if chk S = true then match tg x σ with
    | none => .bad
    | some σ1 => match body σ1 S with
      | .nxt σ2 S2 => forL chk tg body r σ2 S2
      | .cnt σ2 S2 => forL chk tg body r σ2 S2
      | .brk σ2 S2 => .nxt σ2 S2
      | o => o
    else .bad := rfl
@[simp] theorem loopL_nil (chk tg step) (σ : Sl) (acc : List D) (S : Sta) : loopL chk tg step σ [] acc S = if chk S = true then .ok acc S else .bad := rfl
theorem loopL_cons (chk tg step) (σ : Sl) (x : D) (r acc : List D) (S : Sta) : loopL chk tg step σ (x :: r) acc S = if chk S = true then match tg x σ with
    | none => .bad
    | some σ1 => match step σ1 acc S with
      | .ok acc2 S2 => loopL chk tg step σ r acc2 S2
      | _ => .bad
    else .bad := rfl
/-- a loop whose state is told by how many items are done -/
theorem forL_inv {chk : Sta → Bool} {tg : GV} {body : SV} (Inv : List D → Sl → Sta → Prop) (hc : ∀ r σ S, Inv r σ S → chk S = true)
    (hs : ∀ x r σ S, Inv (x :: r) σ S → ∃ σ1, tg x σ = some σ1 ∧ ∃ σ2 S2, (body σ1 S = .nxt σ2 S2 ∨ body σ1 S = .cnt σ2 S2) ∧ Inv r σ2 S2) : ∀ (items : List D) (σ : Sl) (S : Sta), Inv items σ S → ∃ σ' S', forL chk tg body items σ S = .nxt σ' S' ∧ Inv [] σ' S'
  | [], σ, S, h => ⟨σ, S, by rw [forL_nil, if_pos (hc _ _ _ h)], h⟩
  | x :: r, σ, S, h => by
    obtain ⟨σ1, e1, σ2, S2, e2, h2⟩ := hs x r σ S h
    obtain ⟨σ', S', e3, h3⟩ := forL_inv Inv hc hs r σ2 S2 h2
    refine ⟨σ', S', ?_, h3⟩
    rw [forL_cons, if_pos (hc _ _ _ h), e1]
    dsimp only
    rcases e2 with e2 | e2 <;> rw [e2] <;> exact e3
/-- a comprehension's loop -/
theorem loopL_inv {chk : Sta → Bool} {tg : GV} {step} {σ : Sl} (Inv : List D → List D → Sta → Prop) (hc : ∀ r acc S, Inv r acc S → chk S = true)
    (hs : ∀ x r acc S, Inv (x :: r) acc S → ∃ σ1, tg x σ = some σ1 ∧ ∃ acc2 S2, step σ1 acc S = .ok acc2 S2 ∧ Inv r acc2 S2) : ∀ (items acc : List D) (S : Sta), Inv items acc S → ∃ acc' S', loopL chk tg step σ items acc S = .ok acc' S' ∧ Inv [] acc' S'
  | [], acc, S, h => ⟨acc, S, by rw [loopL_nil, if_pos (hc _ _ _ h)], h⟩
  | x :: r, acc, S, h => by
    obtain ⟨σ1, e1, acc2, S2, e2, h2⟩ := hs x r acc S h
    obtain ⟨a', S', e3, h3⟩ := loopL_inv Inv hc hs r acc2 S2 h2
    refine ⟨a', S', ?_, h3⟩
    rw [loopL_cons, if_pos (hc _ _ _ h), e1]
    dsimp only
    rw [e2]; exact e3
/-- .. that leaves the state alone: each item adds f of it -/
theorem loopL_map {chk : Sta → Bool} {tg : GV} {step} {σ : Sl} {S : Sta} (f : D → List D) (hc : chk S = true) : ∀ (items acc : List D), (∀ x ∈ items, ∃ σ1, tg x σ = some σ1 ∧ ∀ acc, acc.length ≤ (acc ++ f x).length → acc.length + (f x).length ≤ sizeLine → step σ1 acc S = .ok (acc ++ f x) S) →
    (acc ++ items.flatMap f).length ≤ sizeLine → loopL chk tg step σ items acc S = .ok (acc ++ items.flatMap f) S
  | [], acc, _, _ => by rw [loopL_nil, if_pos hc]; simp
  | x :: r, acc, h, hl => by
    obtain ⟨σ1, e1, e2⟩ := h x List.mem_cons_self
    have hl' : acc.length + (f x).length ≤ sizeLine := by
      simp only [List.flatMap_cons, List.length_append] at hl; omega
    rw [loopL_cons, if_pos hc, e1]
    dsimp only
    rw [e2 acc (by simp) hl']
    dsimp only
    rw [loopL_map f hc r (acc ++ f x) (fun y hy => h y (List.mem_cons_of_mem _ hy)) (by simpa using hl)]
    simp
/-- what range(j), range(i, j) give -/
def rng (j : Int) : List D := (List.range j.toNat).map fun k => D.int ((k : Nat) : Int)
def rng2 (i j : Int) : List D := (List.range (j - i).toNat).map fun k => D.int (i + ((k : Nat) : Int))
@[simp] theorem rng_length (j : Int) : (rng j).length = j.toNat := by simp [rng]
@[simp] theorem rng2_length (i j : Int) : (rng2 i j).length = (j - i).toNat := by simp [rng2]
theorem itemsR1_eq (j : Int) (S : Sta) (h1 : -(2 ^ 62) ≤ j) (h2 : j < 2 ^ 62) : itemsR1 [.d (.int j)] S = .ok (rng j, fun _ => true) S := by
  unfold itemsR1
  dsimp only
  rw [if_pos ⟨h1, h2⟩]
  have : ((List.range j.toNat).map fun k => D.int (0 + ((k : Nat) : Int))) = rng j := by
    unfold rng
    congr 1; funext k; rw [Int.zero_add]
  rw [this]
theorem itemsR2_eq (i j : Int) (S : Sta) (h1 : -(2 ^ 62) ≤ i) (h2 : i < 2 ^ 62) (h3 : -(2 ^ 62) ≤ j) (h4 : j < 2 ^ 62) : itemsR2 [.d (.int i), .d (.int j)] S = .ok (rng2 i j, fun _ => true) S := by
  unfold itemsR2
  dsimp only
  rw [if_pos ⟨⟨h1, h2⟩, h3, h4⟩]; rfl
/-! a def's end -/
theorem mkFn_eq {n m : Nat} {T : SV} {args : List Vl} {S : Sta} (h : args.length = n) : mkFn n m T args S = fin S.B.length (T (args.map some ++ List.replicate m none) S) := if_pos h
theorem sFor_eq {I : IV} {tg : GV} {body : SV} {σ : Sl} {S S1 : Sta} {its : List D} {chk : Sta → Bool} (h : I σ S = .ok (its, chk) S1) : sFor I tg body σ S = forL chk tg body its σ S1 := by
  unfold sFor
  rw [h]
theorem eLc_ok {vs : List Nat} {I : IV} {Gt : GV} {TA : TV} {T : EV} {σ : Sl} {S S1 S2 : Sta} {its l : List D} {chk : Sta → Bool} (h1 : I σ S = .ok (its, chk) S1) (h2 : loopL chk Gt (eltStep TA T) (wipeV σ vs) its [] S1 = .ok l S2) : eLc vs I Gt TA T σ S = .ok (.new l) S2 := by
  unfold eLc
  rw [h1]
  dsimp only
  rw [h2]
/-- a statement that goes on -/
theorem seq_nxt {A C : SV} {σ σ1 : Sl} {S S1 : Sta} (e : A σ S = .nxt σ1 S1) : sSeq A C σ S = C σ1 S1 := by simp only [sSeq, e, andThen_nxt]
theorem eLst_nil : eLst aNil = fun (σ : Sl) S => Out.ok (.new []) S := by
  funext σ S
  simp [eLst]

@[simp] theorem fin_d (n : Nat) (x : D) (S : Sta) : fin n (.ret (.d x) S) = .ok (.d x) (cutB n S) := rfl
@[simp] theorem fin_new (n : Nat) (l : List D) (S : Sta) : fin n (.ret (.new l) S) = .ok (.new l) (cutB n S) := rfl
@[simp] theorem fin_nxt (n : Nat) (σ : Sl) (S : Sta) : fin n (.nxt σ S) = .ok (.d .non) (cutB n S) := rfl
theorem fin_box {n i : Nat} {l : List D} {S : Sta} (h : ¬ i < n) (e : S.B[i]? = some (true, l)) : fin n (.ret (.box i) S) = .ok (.new l) (cutB n S) := by
  show (if i < n then _ else _) = _
  rw [if_neg h]; rw [e]
@[simp] theorem cutB_self (P : List Ob) (B : List (Bool × List D)) : cutB B.length ⟨P, B⟩ = ⟨P, B⟩ := by simp [cutB]
@[simp] theorem cutB_set (P : List Ob) (B : List (Bool × List D)) (i : Nat) (x) : cutB B.length ⟨P, B.set i x⟩ = ⟨P, B.set i x⟩ := by simp [cutB, List.take_of_length_le]
@[simp] theorem cutB_app (P : List Ob) (B C : List (Bool × List D)) : cutB B.length ⟨P, B ++ C⟩ = ⟨P, B⟩ := by simp [cutB]
@[simp] theorem cutB_setApp (P : List Ob) (B C : List (Bool × List D)) (i : Nat) (x) : cutB B.length ⟨P, B.set i x ++ C⟩ = ⟨P, B.set i x⟩ := by
  have : B.length = (B.set i x).length := by simp
  rw [this, cutB_app]
end Ev

set_option Elab.async false
set_option linter.all false
set_option maxRecDepth 100000
set_option maxHeartbeats 1000000
/-! Ev18: exceptions of own classes with fields: how they are made and raised. -/
namespace Ev
open PySem PySem.Spec PyProof.Rows L2
open Classical
/-- what a body of field stores leaves of the heap -/
structure FinX (a C dx : Addr) (fs : List (Str × V)) (H Hn : Hp) : Prop where
  at_ : Hn a = some (exo a C (some dx))
  dict : Hn dx = some (exd dx fs)
  other : ∀ b, b ≠ a → b ≠ dx → Hn b = H b
/-- self.f = p; .. -/
inductive XBody (N : List Str) (sc : Scope) : List Stmt → List (Str × Nat) → Prop
  | nil : XBody N sc [] []
  | cons {self x f : Str} {p1 p2 p3 p4 : Pos} {rest : List Stmt} {l : List (Str × Nat)} (i : Nat) (h0 : N[0]? = some self) (v0 : Vis sc self) (hi : N[i]? = some x) (vi : Vis sc x) (d0 : (self == ("__debug__" : Str)) = false) (c0 : (self == ("__classdict__" : Str)) = false) (d1 : (x == ("__debug__" : Str)) = false) (c1 : (x == ("__classdict__" : Str)) = false)
      (r : XBody N sc rest l) : XBody N sc (.Assign [.Attribute (.Name self p1) f p2] (.Name x p3) p4 :: rest) ((f, i) :: l)
/-- the reading of such a body, once a field is there -/
def tX2 (K : PySem.W.Frag) (l : List (Str × Nat)) : TS := fun D σ H => ∃ (a C dx : Addr) (w : Nat → V) (fs : List (Str × V)), σ[0]? = some (some (.ref a)) ∧ OexC K C ∧ (∀ q ∈ l, PySem.W.findIn K (.ref C) q.1 = some none ∧ σ[q.2]? = some (some (w q.2))) ∧ dx ≠ a ∧ H a = some (exo a C (some dx)) ∧ H dx = some (exd dx fs) ∧ fs.length + l.length ≤ 900 ∧
  ∀ Hn, FinX a C dx ((l.map fun q => (q.1, w q.2)).reverse ++ fs) H Hn → D.nx σ Hn
theorem xb_two {X : Cx} {N : List Str} {sc : Scope} : ∀ {body : List Stmt} {l : List (Str × Nat)}, XBody N sc body l → X.N = N → X.env.scope = sc → PSs X body (tX2 X.K l)
  | _, _, .nil, hN, hs => (pss_nil (X := X)).imp fun D σ H h => by
    obtain ⟨a, C, dx, w, fs, e0, T, hl, ne, h1, h2, _, fin⟩ := h
    exact fin H ⟨h1, h2, fun _ _ _ => rfl⟩
  | _, _, .cons i h0 v0 hi vi d0 c0 d1 c1 r, hN, hs => (pss_cons (ps_ost (pe_var (by rw [hN]; exact h0) (by rw [hs]; exact v0) d0 c0) (pe_var (by rw [hN]; exact hi) (by rw [hs]; exact vi) d1 c1)) (xb_two r hN hs)).imp fun D σ H h => by
    obtain ⟨a, C, dx, w, fs, e0, T, hl, ne, h1, h2, hz, fin⟩ := h
    obtain ⟨q1, q2⟩ := hl _ List.mem_cons_self
    refine ⟨_, q2, _, e0, a, C, rfl, T, q1, .inr ⟨dx, fs, h1, h2, by simp only [List.length_cons] at hz; omega, ?_⟩⟩
    refine ⟨a, C, dx, w, _, e0, T, fun q hq => hl q (List.mem_cons_of_mem _ hq), ne, by rw [upd_ne (Ne.symm ne)]; exact h1, upd_same, by simp only [List.length_cons] at hz ⊢; omega, fun Hn hf => fin Hn ⟨hf.at_, ?_, fun b hb hb2 => ?_⟩⟩
    · rw [hf.dict]; simp
    · rw [hf.other b hb hb2, upd_ne hb2]
/-- .. from the start -/
def tX1 (K : PySem.W.Frag) (l : List (Str × Nat)) : TS := fun D σ H => ∃ (a C : Addr) (w : Nat → V), σ[0]? = some (some (.ref a)) ∧ OexC K C ∧ (∀ q ∈ l, PySem.W.findIn K (.ref C) q.1 = some none ∧ σ[q.2]? = some (some (w q.2))) ∧ H a = some (exo a C none) ∧ l.length ≤ 800 ∧
  ∀ dx Hn, H dx = none → dx ≠ a → FinX a C dx ((l.map fun q => (q.1, w q.2)).reverse) H Hn → D.nx σ Hn
theorem xb_one {X : Cx} {N : List Str} {sc : Scope} {body : List Stmt} {q0 : Str × Nat} {l : List (Str × Nat)} (h : XBody N sc body (q0 :: l)) (hN : X.N = N) (hs : X.env.scope = sc) : PSs X body (tX1 X.K (q0 :: l)) := by
  cases h with
  | cons i h0 v0 hi vi d0 c0 d1 c1 r =>
    refine (pss_cons (ps_ost (pe_var (by rw [hN]; exact h0) (by rw [hs]; exact v0) d0 c0) (pe_var (by rw [hN]; exact hi) (by rw [hs]; exact vi) d1 c1)) (xb_two r hN hs)).imp fun D σ H h => ?_
    obtain ⟨a, C, w, e0, T, hl, h1, hz, fin⟩ := h
    obtain ⟨q1, q2⟩ := hl _ List.mem_cons_self
    refine ⟨_, q2, _, e0, a, C, rfl, T, q1, .inl ⟨h1, fun dx hd ne => ?_⟩⟩
    refine ⟨a, C, dx, w, _, e0, T, fun q hq => hl q (List.mem_cons_of_mem _ hq), ne, upd_same, by rw [upd_ne ne]; exact upd_same, by simp only [List.length_cons, List.length_nil] at hz ⊢; omega, fun Hn hf => fin dx Hn hd ne ⟨hf.at_, ?_, fun b hb hb2 => ?_⟩⟩
    · rw [hf.dict]; simp
    · rw [hf.other b hb hb2, upd_ne hb, upd_ne hb2]
/-- the promise of such an __init__ -/
def spX (C : Addr) (names : List Str) : Sp := fun vs H Q _ => ∃ (a : Addr) (ws : List V), vs = .ref a :: ws ∧ ws.length = names.length ∧ H a = some (exo a C none) ∧ ∀ dx Hn, H dx = none → dx ≠ a → FinX a C dx ((names.zip ws).reverse) H Hn → Q .non Hn
/-- fields in the parameters' order -/
def ixs (names : List Str) : List (Str × Nat) := names.zip (List.range' 1 names.length)
theorem ixs_map {names : List Str} {ws : List V} (hl : ws.length = names.length) : ((ixs names).map fun q => (q.1, (ws[q.2 - 1]?).getD .non)) = names.zip ws := by
  refine List.ext_getElem? fun i => ?_
  unfold ixs
  rw [List.getElem?_map]
  by_cases hi : i < names.length
  · have e1 : (names.zip (List.range' 1 names.length))[i]? = some (names[i], 1 + i) := by
      rw [List.getElem?_eq_getElem (by simp [hi])]
      simp
    have e2 : (names.zip ws)[i]? = some (names[i], ws[i]'(by omega)) := by
      rw [List.getElem?_eq_getElem (by simp [hi]; omega)]
      simp
    rw [e1, e2]
    simp only [Option.map_some]
    have : 1 + i - 1 = i := by omega
    rw [this, List.getElem?_eq_getElem (by omega)]
    rfl
  · rw [List.getElem?_eq_none (by simp; omega), List.getElem?_eq_none (by simp; omega)]
    rfl
theorem fn_x {P : Program} {w : World} {K : PySem.W.Frag} {mg : Str → Option Value} {base : Heap} {CX : CXT} {x qual : Str} {params : Arguments} {body : List Stmt} {scope : Scope} {f : Addr} {fd : FuncData} {N ps : List Str} {C : Addr} {names : List Str} (F : FunD K x qual params body scope [] [] f fd) (S : FnScope N ps scope)
    (hb : XBody N scope body (ixs names)) (T : OexC K C) (hno : ∀ n ∈ names, PySem.W.findIn K (.ref C) n = some none) (hps : ps.length = names.length + 1) (h1 : 1 ≤ names.length) (h2 : names.length ≤ 100) : FnOk P w K mg base CX 1 f fd ps (spX C names) := by
  refine F.ok S (fun vs H Q E h => ?_) (fun cdv A outer s H vs Q E hr h => ?_)
  · obtain ⟨a, ws, rfl, hl, _⟩ := h
    rw [hps, List.length_cons, hl]
  · obtain ⟨a, ws, rfl, hl, ha, fin⟩ := h
    obtain ⟨q0, l, el⟩ : ∃ q0 l, ixs names = q0 :: l := by
      cases e : ixs names with
      | nil =>
        have : (ixs names).length = names.length := by simp [ixs]
        rw [e] at this
        simp at this; omega
      | cons q l => exact ⟨q, l, rfl⟩
    rw [el] at hb
    refine ⟨_, xb_one hb rfl rfl, a, C, fun i => (ws[i - 1]?).getD .non, ?_, T, fun q hq => ?_, ha, ?_, fun dx Hn hd ne hf => fin dx Hn hd ne ?_⟩
    · simp [L2.start]
    · rw [← el] at hq
      unfold ixs at hq
      obtain ⟨i, hi⟩ := List.getElem?_of_mem hq
      have hlt : i < names.length := by
        have := (List.getElem?_eq_some_iff.mp hi).1
        simp at this; omega
      have e1 : (names.zip (List.range' 1 names.length))[i]? = some (names[i], 1 + i) := by
        rw [List.getElem?_eq_getElem (by simp [hlt])]
        simp
      rw [e1] at hi
      cases hi
      refine ⟨hno _ (List.getElem_mem hlt), ?_⟩
      unfold L2.start
      rw [List.getElem?_append_left (by simp; omega)]
      show (List.map some (V.ref a :: ws))[1 + i]? = some (some ((ws[1 + i - 1]?).getD .non))
      have e3 : 1 + i - 1 = i := by omega
      have hw : i < ws.length := by omega
      have e4 : 1 + i = i + 1 := by omega
      rw [e3, e4, List.map_cons, List.getElem?_cons_succ, List.getElem?_map, List.getElem?_eq_getElem hw]
      rfl
    · rw [← el]
      simp [ixs]; omega
    · rw [← el, ixs_map hl] at hf
      exact hf
/-! ### raise C(..) -/
/-- an exception's maker that may be called here -/
def XFn (g : G) (C fI : Addr) (names : List Str) : Prop := ∃ fd ps k, FnOk g.P g.w g.K g.mg g.base (L2.CX g.P g.w) k fI fd ps (spX C names) ∧ k + 1 ≤ g.k ∧ Binds g.K fd ps []
section
variable {g : G} {fI : Addr} {x : Str} {p pos pos' : Pos} {e : Expr} {es : List Expr} {Ts : EVs}
@[simp] noncomputable def sRaise (c : String) (names : List String) (Ts : EVs) : SV := fun σ S => match Ts σ S with
  | .ok vs S1 => match toDs vs S1 with
    | some (ds, S2) => if ds.length = names.length then .exc c (some (names.zip ds)) σ S2 else .bad
    | none => .bad
  | .exc c fs S1 => .exc c fs σ S1
  | .bad => .bad
theorem zip_look {K : PySem.W.Frag} {wd : Wd} : ∀ {names : List String} {ds : List D} {vs : List V} {f : String} {x : D}, RDs K wd ds vs → (names.zip ds).lookup f = some x → ∃ v, ((names.map enc).zip vs).lookup (enc f) = some v ∧ RD K wd x v
  | [], _, _, f, x, r, h => by simp at h
  | n :: names, [], _, f, x, r, h => by simp at h
  | n :: names, d :: ds, vs, f, x, r, h => by
    simp only [RDs] at r
    obtain ⟨v, vr, rfl, r1, r2⟩ := r
    simp only [List.zip_cons_cons, List.lookup_cons, List.map_cons, enc_beq] at h ⊢
    cases hb : (f == n) with
    | true => rw [hb] at h; cases h; exact ⟨v, rfl, r1⟩
    | false => rw [hb] at h; exact zip_look r2 h
theorem look_rev {α : Type} [BEq α] [LawfulBEq α] {β : Type} (f : α) : ∀ l : List (α × β), (l.map (·.1)).Nodup → l.reverse.lookup f = l.lookup f := by
  intro l nd
  have key : ∀ (a b : List (α × β)), (a ++ b).lookup f = (a.lookup f).or (b.lookup f) := by
    intro a b
    induction a with
    | nil => rfl
    | cons q r ih =>
      obtain ⟨q1, q2⟩ := q
      simp only [List.cons_append, List.lookup_cons]
      cases f == q1 with
      | true => rfl
      | false => exact ih
  induction l with
  | nil => rfl
  | cons q r ih =>
    obtain ⟨q1, q2⟩ := q
    obtain ⟨n1, n2⟩ := List.nodup_cons.mp (show (q1 :: r.map (·.1)).Nodup from nd)
    rw [List.reverse_cons, key, ih n2]
    simp only [List.lookup_cons, List.lookup_nil]
    cases hb : (f == q1) with
    | false => simp
    | true =>
      have e : f = q1 := by simpa using hb
      have : r.lookup f = none := by
        rw [List.lookup_eq_none_iff]
        intro z hz
        simp only [bne_iff_ne, ne_eq]
        intro e2
        refine n1 ?_
        rw [← e, e2]
        exact List.mem_map_of_mem hz
      rw [this]; rfl
theorem js_raise (c : String) (names : List String) (T : OexC g.K (g.cls c)) (iC : PySem.W.findIn g.K (.ref (g.cls c)) "__init__" = some (some (.ref fI))) (tI : PySem.W.typeIn g.K (.ref fI) = some (.type "function")) (F : XFn g (g.cls c) fI (names.map enc)) (hg : GlS g x) (hm : g.mg x = some (.ref (g.cls c))) (ha : JA g (e :: es) Ts) (nd : names.Nodup := by decide)
    (hdb : (x == ("__debug__" : Str)) = false := by decide) (h1 : ∀ env, starEach (e :: es) env = (false, eval e env) :: starEach es env := by intro _; rfl) (h2 : ∀ env, (backTo pos (starEach es env)).any (·.1) = false := by intro _; rfl) (few : names.length ≤ 900 := by decide) : JS g (.Raise (some (.Call (.Name x p) (e :: es) [] pos)) none pos') (sRaise c names Ts) := fun X hX W tk => by
  obtain ⟨fd, ps, k, hF, hk, hb⟩ := F
  have hx : Passes (L2.CX g.P g.w) X (fun _ _ _ => False) := fun _ _ _ _ _ _ _ c => by
    obtain ⟨_, _, _, _, _, _, _, _, _, _, _, _, z⟩ := c
    exact z.elim
  refine (ps_raise hX.calm tk (pmk_oex (C := g.cls c) (by rw [hX.K]; exact T) (by rw [hX.K]; exact iC) (by rw [hX.K]; exact tI) (FnOk.to hX.toGood hF) (hX.room.mono hk) (by rw [hX.K]; exact hb) .nil hx (gl_of hX.toGood hg) (by rw [hX.mg]; exact hm) (ha X hX.toGood W tk) hdb (h1 X.env) (h2 X.env))).imp fun E σ H h => ?_
  obtain ⟨wd, σ', S, hs, hh, h⟩ := h
  refine ⟨wd, σ', S, hs, hh, ?_⟩
  unfold sRaise at h
  revert h
  cases Ts σ' S with
  | exc c fs S1 => exact fun h wd1 H1 cv d l hr hx => h wd1 σ H1 cv d l (hs.mono l) hr hx
  | bad => exact fun h => h
  | ok vs S1 =>
    intro h wd1 xs H1 l hr1 rv
    dsimp only at h
    split at h
    · rename_i ds S2 ed
      split at h
      · rename_i hl
        obtain ⟨wd2, l2, hr2, rd⟩ := RWs.toDs (wd := wd1) hr1 rv ed
        have lx : xs.length = names.length := by rw [← rd.length]; exact hl
        refine ⟨by rw [lx]; omega, fun a na => ⟨a, xs, by simp, by rw [lx]; simp, upd_same, fun dx Hn hd ne hf => ⟨rfl, dx, _, hf.at_, hf.dict, ?_, ?_⟩⟩⟩
        · rw [upd_ne ne] at hd; exact hd
        · rw [upd_ne ne] at hd
          have eH : upd (del Hn a) dx (.xd (((names.map enc).zip xs).reverse)) = upd H1 dx (.xd (((names.map enc).zip xs).reverse)) := by
            funext b
            by_cases b1 : b = dx
            · subst b1; rw [upd_same, upd_same]
            · rw [upd_ne b1, upd_ne b1]
              by_cases b2 : b = a
              · subst b2; rw [del_same, na]
              · rw [del_ne b2, hf.other b b2 b1, upd_ne b2]
          rw [eH]
          refine h wd2 σ _ _ _ (l.trans l2) (hs.mono (l.trans l2)) (hr2.lay hd) ⟨rfl, dx, _, rfl, upd_same, fun f y q => ?_⟩
          rw [look_rev]
          · exact zip_look rd q
          · rw [List.map_fst_zip (by rw [List.length_map, lx]; exact Nat.le_refl _)]
            exact nd.map enc (fun a b z w => z (enc_inj w))
      · exact h.elim
    · exact h.elim
end
end Ev

set_option Elab.async false
set_option linter.all false
set_option maxRecDepth 100000
set_option maxHeartbeats 1000000
/-! Ev19: try, except C as e; what the clause does. -/
namespace Ev
open PySem PySem.Spec PyProof.Rows L2
open Classical
abbrev XFs := Option (List (String × D))
theorem _root_.L2.PE.len {X : Cx} {e : Expr} {t t' : TE} (h : PE X e t) (i : ∀ σ H Q, σ.length = X.N.length → t' σ H Q → t σ H Q) : PE X e t' := ⟨fun pins s σ H Q I q => h.run pins s σ H Q I (i σ H Q I.len q)⟩
/-- a value that a clause reads: no heap changes -/
abbrev PV := String → XFs → Sl → Option D
abbrev PVs := String → XFs → Sl → Option (List D)
/-- the state of a clause: slot i holds the exception at a -/
structure InX (g : G) (i : Nat) (a : Addr) (cls : Value) (d : Option Addr) (wd : Wd) (σ' : Sl) (S : Sta) (c : String) (fs : XFs) (σ : L2.St) (H : Hp) : Prop where
  sr : SR g.K wd σ' σ
  at_ : i < σ.length → σ[i]? = some (some (.ref a))
  hr : HR g.K g.cls wd S H
  xr : XR g.K g.cls wd H c fs cls d
def JP (g : G) (i : Nat) (e : Expr) (T : PV) : Prop := ∀ X, GoodS g X → ∀ (a : Addr) (oe : Obj) (cls : Value) (d : Option Addr) (pn : List (Addr × Obj)), Zc cls d oe → (∃ vs, oe.data = .fields vs) →
  PE (X.suite a ((a, oe) :: pn)) e fun σ H Q => ∃ wd σ' S c fs x, InX g i a cls d wd σ' S c fs σ H ∧ T c fs σ' = some x ∧ ∀ v, RD g.K wd x v → Q v H
def JPs (g : G) (i : Nat) (es : List Expr) (T : PVs) : Prop := ∀ X, GoodS g X → ∀ (a : Addr) (oe : Obj) (cls : Value) (d : Option Addr) (pn : List (Addr × Obj)), Zc cls d oe → (∃ vs, oe.data = .fields vs) →
  PA (X.suite a ((a, oe) :: pn)) es fun σ H Q => ∃ wd σ' S c fs x, InX g i a cls d wd σ' S c fs σ H ∧ T c fs σ' = some x ∧ ∀ v, RDs g.K wd x v → Q v H
/-- a clause's suite -/
abbrev XV := String → XFs → SV
def JH (g : G) (i : Nat) (suite : List Stmt) (T : XV) : Prop := ∀ X, GoodS g X → ∀ (a : Addr) (oe : Obj) (cls : Value) (d : Option Addr) (pn : List (Addr × Obj)), Zc cls d oe → (∃ vs, oe.data = .fields vs) →
  PSs (X.suite a ((a, oe) :: pn)) suite fun D σ H => ∃ wd σ' S c fs, InX g i a cls d wd σ' S c fs σ H ∧ OkS g.K g.cls (fun _ _ _ _ => False) wd D (T c fs σ' S)
section
variable {g : G} {i : Nat} {e : Expr} {es : List Expr} {T : PV} {Ts : PVs} {pos p : Pos}
@[simp] def pC (x : D) : PV := fun _ _ _ => some x
theorem jp_c {x : D} {v : V} (hp : ∀ X : Cx, PE X e (tC v)) (r : ∀ wd, RD g.K wd x v) : JP g i e (pC x) := fun X hX a oe cls d pn hz hf => (hp _).imp fun σ H Q h => by
  obtain ⟨wd, σ', S, c, fs, y, q, ey, h⟩ := h
  cases ey
  exact h v (r wd)
theorem jp_int {n j} : JP g i (.Constant (.int n) j pos) (pC (.int n)) := jp_c (fun _ => pe_int) fun _ => by simp [RD]
theorem jp_bl {b j} : JP g i (.Constant (.bool b) j pos) (pC (.bl b)) := jp_c (fun _ => pe_bl) fun _ => by simp [RD]
theorem jp_non {j} : JP g i (.Constant .none j pos) (pC .non) := jp_c (fun _ => pe_non) fun _ => by simp [RD]
theorem jp_str {x j} (h : PyData.strOk x = true := by decide +kernel) : JP g i (.Constant (.str x) j pos) (pC (.str x)) := jp_c (fun _ => pe_str) fun _ => by simp [RD, h]
@[simp] def pVar (k : Nat) : PV := fun _ _ σ => match σ[k]? with
  | some (some (.d x)) => some x
  | _ => none
theorem jp_var (k : Nat) {x : Str} (hN : g.N[k]? = some x := by rfl) (hv : Vis g.sc x := by first | exact Or.inl rfl | exact Or.inr (Or.inl rfl) | exact Or.inr (Or.inr rfl)) (hd : (x == ("__debug__" : Str)) = false := by decide) (hcd : (x == ("__classdict__" : Str)) = false := by decide) : JP g i (.Name x pos) (pVar k) := fun X hX a oe cls d pn hz hf =>
  (pe_var (X := X.suite a ((a, oe) :: pn)) (i := k) (by show X.N[k]? = _; rw [hX.N]; exact hN) (by show Vis X.env.scope x; rw [hX.sc]; exact hv) hd hcd).imp fun σ H Q h => by
  obtain ⟨wd, σ', S, c, fs, y, q, ey, h⟩ := h
  unfold pVar at ey
  split at ey
  · rename_i z ez
    cases ey
    obtain ⟨v, ev, r⟩ := q.sr k _ ez
    exact ⟨v, ev, h v r⟩
  · cases ey
/-- e.f -/
@[simp] def pXf (cn f : String) : PV := fun c fs _ => if c = cn then fs.bind (·.lookup f) else none
theorem jp_xf (cn f : String) {x F : Str} {np : Pos} (T : XfC g.K (g.cls cn)) (hno : PySem.W.findIn g.K (.ref (g.cls cn)) F = some none) (ef : F = enc f := by decide +kernel) (hN : g.N[i]? = some x := by rfl) (hv : Vis g.sc x := by first | exact Or.inl rfl | exact Or.inr (Or.inl rfl) | exact Or.inr (Or.inr rfl)) (hd : (x == ("__debug__" : Str)) = false := by decide) (hcd : (x == ("__classdict__" : Str)) = false := by decide)
    (hb : ∀ env, attributeBase (.Name x np) F env (eval (.Name x np) env) = eval (.Name x np) env := by intro _; rfl) : JP g i (.Attribute (.Name x np) F pos) (pXf cn f) := fun X hX a oe cls d pn hz hf =>
  (pe_xf (X := X) (C := g.cls cn) (by rw [hX.K]; exact T) (by rw [hX.K]; exact hno) hz hf (pe_var (X := X.suite a ((a, oe) :: pn)) (i := i) (by show X.N[i]? = _; rw [hX.N]; exact hN) (by show Vis X.env.scope x; rw [hX.sc]; exact hv) hd hcd) (hb X.env)).len fun σ H Q hlen h => by
  obtain ⟨wd, σ', S, c, fs, y, q, ey, h⟩ := h
  have hi : i < σ.length := by
    rw [hlen]
    show i < X.N.length
    rw [hX.N]; exact (List.getElem?_eq_some_iff.mp hN).1
  unfold pXf at ey
  split at ey
  · rename_i ec
    subst ec
    obtain ⟨e1, e2⟩ := q.xr
    cases fs with
    | none => cases ey
    | some fs =>
      obtain ⟨dd, vfs, rfl, e3, e4⟩ := e2
      obtain ⟨v, e5, e6⟩ := e4 f y ey
      subst ef
      exact ⟨.ref a, q.at_ hi, rfl, e1, dd, vfs, v, rfl, e3, e5, h v e6⟩
  · cases ey
@[simp] def pNil : PVs := fun _ _ _ => some []
@[simp] def pCons (T : PV) (Ts : PVs) : PVs := fun c fs σ => match T c fs σ, Ts c fs σ with
  | some x, some r => some (x :: r)
  | _, _ => none
theorem jps_nil : JPs g i [] pNil := fun X hX a oe cls d pn hz hf => (pa_nil (X := X.suite a ((a, oe) :: pn))).imp fun σ H Q h => by
  obtain ⟨wd, σ', S, c, fs, y, q, ey, h⟩ := h
  cases ey
  exact h [] (by simp [RDs])
theorem jps_cons (h1 : JP g i e T) (h2 : JPs g i es Ts) (hs : ∀ env, starEach (e :: es) env = (false, eval e env) :: starEach es env := by intro _; rfl) : JPs g i (e :: es) (pCons T Ts) := fun X hX a oe cls d pn hz hf => (pa_cons (h1 X hX a oe cls d pn hz hf) (h2 X hX a oe cls d pn hz hf) (hs X.env)).imp fun σ H Q h => by
  obtain ⟨wd, σ', S, c, fs, y, q, ey, h⟩ := h
  unfold pCons at ey
  split at ey
  · rename_i z r ez er
    cases ey
    exact ⟨wd, σ', S, c, fs, z, q, ez, fun v rv => ⟨wd, σ', S, c, fs, r, q, er, fun vs rs => h _ (by simp only [RDs]; exact ⟨v, vs, rfl, rv, rs⟩)⟩⟩
  · cases ey
/-! ### suites -/
/-- k = e -/
@[simp] noncomputable def hSet (k : Nat) (T : PV) : XV := fun c fs σ S => match T c fs σ with
  | some x => .nxt (σ.set k (some (.d x))) S
  | none => .bad
theorem jh_set (k : Nat) {x : Str} (h : JP g i e T) (hN : g.N[k]? = some x := by rfl) (hl : Loc g.sc x := by first | exact Or.inl rfl | exact Or.inr rfl) (hs : ∀ env, env.scope = g.sc → swapsWith e (some (.Name x p)) pos.line env = pure false := by intro _ _; rfl)
    (hf : g.sc.names.lookup x = some .local := by rfl) : JH g i [.Assign [.Name x p] e pos] (hSet k T) := fun X hX a oe cls d pn hz hfd =>
  pss_one ((ps_set (X := X.suite a ((a, oe) :: pn)) (i := k) (by show X.N.Nodup; rw [hX.N]; exact hX.nd) (by show X.N[k]? = _; rw [hX.N]; exact hN) (by show Loc X.env.scope x; rw [hX.sc]; exact hl) (h X hX a oe cls d pn hz hfd) (hs X.env hX.sc) (.inr (by show X.env.scope.names.lookup x = _; rw [hX.sc]; exact hf))).len fun E σ H hlen q => by
  obtain ⟨wd, σ', S, c, fs, qx, ok⟩ := q
  unfold hSet at ok
  split at ok
  · rename_i y ey
    refine ⟨wd, σ', S, c, fs, y, qx, ey, fun v rv => ok wd _ H (.refl _) (qx.sr.put k (v := .d y) rv ?_) qx.hr⟩
    rw [hlen]
    show k < X.N.length
    rw [hX.N]; exact (List.getElem?_eq_some_iff.mp hN).1
  · exact ok.elim)
/-- k = [..] -/
@[simp] noncomputable def hSetL (k : Nat) (T : PVs) : XV := fun c fs σ S => match T c fs σ with
  | some x => if x.length ≤ sizeLine then .nxt (σ.set k (some (.d (.lst x)))) S else .bad
  | none => .bad
theorem jh_setL (k : Nat) {x : Str} {lp : Pos} (h : JPs g i es Ts) (hN : g.N[k]? = some x := by rfl) (hl : Loc g.sc x := by first | exact Or.inl rfl | exact Or.inr rfl) (hs : ∀ env, env.scope = g.sc → swapsWith (.List es lp) (some (.Name x p)) pos.line env = pure false := by intro _ _; rfl)
    (hf : g.sc.names.lookup x = some .local := by rfl) : JH g i [.Assign [.Name x p] (.List es lp) pos] (hSetL k Ts) := fun X hX a oe cls d pn hz hfd =>
  pss_one ((ps_set (X := X.suite a ((a, oe) :: pn)) (i := k) (by show X.N.Nodup; rw [hX.N]; exact hX.nd) (by show X.N[k]? = _; rw [hX.N]; exact hN) (by show Loc X.env.scope x; rw [hX.sc]; exact hl) (pe_lst (h X hX a oe cls d pn hz hfd)) (hs X.env hX.sc) (.inr (by show X.env.scope.names.lookup x = _; rw [hX.sc]; exact hf))).len fun E σ H hlen q => by
  obtain ⟨wd, σ', S, c, fs, qx, ok⟩ := q
  unfold hSetL at ok
  split at ok
  · rename_i y ey
    split at ok
    · rename_i hz2
      refine ⟨wd, σ', S, c, fs, y, qx, ey, fun vs rv => ⟨by rw [← rv.length]; exact hz2, fun q hq => ?_⟩⟩
      obtain ⟨h1, r1⟩ := qx.hr.newLst hq rv
      obtain ⟨wd2, l2, h2, r2⟩ := RV.frz h1 r1
      refine ok wd2 _ _ l2 ((qx.sr.mono l2).put k (v := .d (.lst y)) r2 ?_) h2
      rw [hlen]
      show k < X.N.length
      rw [hX.N]; exact (List.getElem?_eq_some_iff.mp hN).1
    · exact ok.elim
  · exact ok.elim)
@[simp] noncomputable def hRet (T : PV) : XV := fun c fs σ S => match T c fs σ with
  | some x => .ret (.d x) S
  | none => .bad
theorem jh_ret (h : JP g i e T) : JH g i [.Return (some e) pos] (hRet T) := fun X hX a oe cls d pn hz hfd =>
  pss_one ((ps_ret (X := X.suite a ((a, oe) :: pn)) (h X hX a oe cls d pn hz hfd)).imp fun E σ H q => by
  obtain ⟨wd, σ', S, c, fs, qx, ok⟩ := q
  unfold hRet at ok
  split at ok
  · rename_i y ey
    exact ⟨wd, σ', S, c, fs, y, qx, ey, fun v rv => ok wd v H (.refl _) qx.hr rv⟩
  · exact ok.elim)
/-! ### try -/
@[simp] noncomputable def sTry (B : SV) (test : String → Option Bool) (i : Nat) (T : XV) : SV := fun σ S => match B σ S with
  | .exc c fs σ1 S1 => match test c with
    | some true => match T c fs (σ1.set i none) S1 with
      | .nxt σ2 S2 => .nxt (σ2.set i none) S2
      | .brk σ2 S2 => .brk (σ2.set i none) S2
      | .cnt σ2 S2 => .cnt (σ2.set i none) S2
      | .ret v S2 => .ret v S2
      | .exc _ _ _ _ => .bad
      | .bad => .bad
    | some false => .exc c fs σ1 S1
    | none => .bad
  | o => o
theorem SR.clear {K wd σ' σ} (h : SR K wd σ' σ) (i : Nat) (z : Option V) : SR K wd (σ'.set i none) (σ.set i z) := fun j w e => by
  by_cases hj : j = i
  · subst hj
    have hlt : j < σ'.length := by
      have := (List.getElem?_eq_some_iff.mp e).1
      simpa using this
    rw [List.getElem?_set_self hlt] at e
    cases e
  · rw [List.getElem?_set_ne (Ne.symm hj)] at e
    obtain ⟨y, e1, r1⟩ := h j w e
    exact ⟨y, by rw [List.getElem?_set_ne (Ne.symm hj)]; exact e1, r1⟩
theorem js_try (i : Nat) (cn : String) {cx n : Str} {np pos' : Pos} {body suite : List Stmt} {b0 : Stmt} {B : SV} {T : XV} {test : String → Option Bool} (hb : JSs g body B) (hh : JH g i (b0 :: suite) T) (ht : ∀ c b, test c = some b → PySem.W.exmOne g.K (.ref (g.cls c)) (.ref (g.cls cn)) = some b)
    (hg : GlS g cx) (hm : g.mg cx = some (.ref (g.cls cn))) (hN : g.N[i]? = some n := by rfl) (hln : g.sc.names.lookup n = some .local := by rfl) (hd : (cx == ("__debug__" : Str)) = false := by decide) :
    JS g (.Try body [.ExceptHandler (some (.Name cx np)) (some n) (b0 :: suite) pos'] [] [] pos) (sTry B test i T) := fun X hX W tk => by
  have hNX : X.N[i]? = some n := by rw [hX.N]; exact hN
  have hkX : X.env.kindOf n = some .local := by show X.env.scope.names.lookup n = _; rw [hX.sc]; exact hln
  have main := ps_try_as (X := X) (i := i) (tb := fun W => LS g.K g.cls W B) (ts := fun a cls d => fun D σ H => ∃ wd σ' S c fs, InX g i a cls d wd σ' S c fs σ H ∧ OkS g.K g.cls (fun _ _ _ _ => False) wd D (T c fs σ' S)) (Wout := W) (pos := pos) (pos' := pos') hX.stk hX.frm (by rw [hX.N]; exact hX.nd) hNX hkX
    (x := cx) (np := np) (c := .ref (g.cls cn)) ⟨gl_of hX.toGood hg, hd, .inl (by rw [hX.mg]; exact hm)⟩ tk (fun W2 pn xe tk2 po => hb (X.tr pn xe) ⟨⟨hX.P, hX.w, hX.K, hX.mg, hX.base, hX.N, hX.sc, hX.nd, hX.calm, hX.room, hX.fn⟩, hX.stk, hX.frm, hX.kind_, po⟩ W2 tk2) (fun a oe cls d pn hz hf => hh X hX a oe cls d pn hz hf)
  refine PS.len main fun E σ H hlen h => ?_
  obtain ⟨wd, σ', S, hs, hr, ok⟩ := h
  refine ⟨wd, σ', S, hs, hr, ?_⟩
  unfold sTry at ok
  revert ok
  cases B σ' S with
  | nxt σ1 S1 => exact fun ok => ok
  | ret v S1 => exact fun ok => ok
  | brk σ1 S1 => exact fun ok => ok
  | cnt σ1 S1 => exact fun ok => ok
  | bad => exact fun ok => ok
  | exc c fs σ1 S1 =>
    intro ok wd1 σ2 H1 cv d l1 hs1 hr1 hx1
    dsimp only at ok
    split at ok
    · rename_i et
      refine ⟨true, ?_, fun _ a na => ?_, fun z => by cases z⟩
      · rw [hX.K, hx1.1]; exact ht c true et
      · refine ⟨wd1, σ1.set i none, S1, c, fs, ⟨hs1.clear i _, fun hi => by rw [List.getElem?_set_self (by simpa using hi)], hr1, hx1⟩, ?_⟩
        have ok1 := OkS.mono l1 ok
        revert ok1
        cases T c fs (σ1.set i none) S1 with
        | nxt σ3 S3 => exact fun ok wd4 σ4 H4 l4 hs4 hr4 => ok wd4 _ H4 l4 (hs4.clear i none) hr4
        | brk σ3 S3 => exact fun ok wd4 σ4 H4 l4 hs4 hr4 => ok wd4 _ H4 l4 (hs4.clear i none) hr4
        | cnt σ3 S3 => exact fun ok wd4 σ4 H4 l4 hs4 hr4 => ok wd4 _ H4 l4 (hs4.clear i none) hr4
        | ret v S3 => exact fun ok => ok
        | bad => exact fun ok => ok.elim
        | exc c2 fs2 σ3 S3 => exact fun ok => ok.elim
    · rename_i et
      refine ⟨false, ?_, (fun z => by cases z), fun _ => ok wd1 σ2 H1 cv d l1 hs1 hr1 hx1⟩
      rw [hX.K, hx1.1]; exact ht c false et
    · exact ok.elim
end
end Ev

set_option Elab.async false
set_option linter.all false
set_option maxRecDepth 100000
set_option maxHeartbeats 1000000
/-! Ev20: facts of exception classes from the head. -/
namespace Ev
open PySem PySem.Spec PyProof.Rows L2
open Classical
/-! ### from the facts -/
section
variable {fa : List He.Fa} {fn : List He.DefD} {g : G} {x m f : Str} {c : String} {xs : XSpec}
theorem EnvE.xcl (E : EnvE fa fn xs g) (c : String) (h : enc c ∈ xs.xs) : OexC g.K (g.cls c) ∧ XfC g.K (g.cls c) := by
  rw [E.cad]
  have ok := E.hx
  unfold XSpec.ok at ok
  rw [Bool.and_eq_true] at ok
  have := List.all_eq_true.mp ok.1 _ h
  unfold xB at this
  rw [Bool.and_eq_true] at this
  exact ⟨oexB_ok this.1, xfB_ok this.2⟩
theorem EnvE.exm (E : EnvE fa fn xs g) (i : Nat) (c d : String) {b : Bool} (h : fa[i]? = some (.exm (enc c) (enc d) b) := by rfl) : PySem.W.exmOne g.K (.ref (g.cls c)) (.ref (g.cls d)) = some b := by
  rw [E.cad, E.cad]
  have := E.c.fact i h
  exact of_decide_eq_true this
/-- a maker of errors by its place -/
theorem xfn_at {d : He.DefD} {N ps : List Str} {names : List Str} (E : EnvE fa fn xs g) (c : String) (i : Nat) (hd : fn[i]? = some d) (h0 : d.dfl = []) (hk0 : d.kwd = []) (S : FnScope N ps d.scope) (hb : XBody N d.scope d.body (ixs names)) (T : OexC g.K (g.cls c)) (hno : ∀ n ∈ names, PySem.W.findIn g.K (.ref (g.cls c)) n = some none)
    (bind : ∀ (kV doc pm : Value) (an : Option Addr) (cdv ct : Value) (us : List Value), us.length = ps.length → bindArgs (PySem.W.fnOf d.name d.qual d.params d.body d.scope .none kV doc pm an cdv ct) ⟨us, []⟩ = pure (ps.zip us)) (hk : 2 ≤ g.k) (hps : ps.length = names.length + 1 := by rfl) (h1 : 1 ≤ names.length := by decide) (h2 : names.length ≤ 100 := by decide) :
    XFn g (g.cls c) (He.fAd g.K d.at_) names := by
  obtain ⟨fd, F⟩ := E.c.def_ i hd
  have e1 : d.dvs g.K = [] := by unfold He.DefD.dvs; rw [h0]; rfl
  have e2 : d.kws g.K = [] := by unfold He.DefD.kws; rw [hk0]; rfl
  rw [e1, e2] at F
  exact ⟨fd, ps, 1, fn_x F S hb T hno hps h1 h2, hk, F.bindsN bind⟩
end
end Ev

set_option Elab.async false
set_option linter.all false
set_option maxRecDepth 100000
set_option maxHeartbeats 1000000
/-! Ev21: {}; word.upper(). -/
namespace Ev
open PySem PySem.Spec PyProof.Rows L2
open Classical
section
variable {K : PySem.W.Frag} {cls : String → Addr}
/-- a new dict -/
theorem HR.pushDic {wd : Wd} {S : Sta} {H : Hp} (h : HR K cls wd S H) {x : Addr} (nx : H x = none) : wd.Le { wd with ob := wd.ob ++ [x] } ∧ HR K cls { wd with ob := wd.ob ++ [x] } { S with P := S.P ++ [.dic []] } (upd H x (.dK [])) := by
  have le : wd.Le { wd with ob := wd.ob ++ [x] } := ⟨fun _ _ q => q, List.prefix_refl _, List.prefix_append _ _, rfl⟩
  have h2 : HR K cls wd S (upd H x (.dK [])) := h.lay nx
  refine ⟨le, h2.fz, h2.bn, fun i m q => ?_, fun i m q => ?_, h2.bnd, by simp [h2.on], ?_, fun i o q => ?_, h2.an, h2.annd, h2.nfz⟩
  · obtain ⟨b, us, e1, e2, e3, rr⟩ := h2.live i m q
    exact ⟨b, us, e1, e2, e3, RDs.mono _ le _ _ rr⟩
  · obtain ⟨b, us, e1, e2, rr⟩ := h2.froz i m q
    exact ⟨b, us, e1, e2, RDs.mono _ le _ _ rr⟩
  · refine List.nodup_append.mpr ⟨h2.ond, by simp, fun y hy z hz w => ?_⟩
    have hz' : z = x := by simpa using hz
    subst hz'; subst w
    exact h.ob_none nx hy
  · by_cases hi : i < S.P.length
    · dsimp only at q
      rw [List.getElem?_append_left hi] at q
      obtain ⟨b, e1, r1⟩ := h2.ob i o q
      exact ⟨b, pre_get le.ob e1, r1.mono le⟩
    · have hi' : i = S.P.length := by
        have := (List.getElem?_eq_some_iff.mp q).1
        simp at this; omega
      subst hi'
      have q' : Ob.dic [] = o := by simpa using q
      subst q'
      exact ⟨x, by rw [h.on]; simp, [], upd_same, rfl⟩
end
section
variable {g : G} {pos : Pos} {o : Expr} {To : EV}
@[simp] def eDic0 : EV := fun _ S => .ok (.d (.obj S.P.length)) { S with P := S.P ++ [.dic []] }
theorem je_dic0 : JE g (.Dict [] [] pos) eDic0 := fun X hX W tk => (pe_dnewK (X := X)).imp fun σ H Q h => by
  obtain ⟨wd, σ', S, hs, hh, h⟩ := h
  intro p hp
  obtain ⟨le, h2⟩ := hh.pushDic hp
  refine h _ (.ref p) _ le h2 ?_
  simp only [RV, RD]
  exact ⟨p, rfl, by rw [hh.on]; simp⟩
noncomputable def upperF (v : Vl) (S : Sta) : Out Vl := match v with
  | .d (.str a) => if a.length ≤ 5592405 ∧ PyData.strOk (Txt.upper a) = true then .ok (.d (.str (Txt.upper a))) S else .bad
  | _ => .bad
@[simp] noncomputable def eUp (To : EV) : EV := fun σ S => (To σ S).bind fun v S1 => upperF v S1
theorem je_upper {apos : Pos} (ho : JE g o To) (hb : ∀ env, attributeBase o "upper" env (eval o env) = eval o env := by intro _; rfl) (hl : (apos.endLine == pos.line) = true := by rfl) : JE g (.Call (.Attribute o "upper" apos) [] [] pos) (eUp To) := fun X hX W tk =>
  (pe_upper (ho X hX W tk) (hb X.env) hl).imp fun σ H Q h => by
  obtain ⟨wd, σ', S, hs, hh, h⟩ := h
  refine ⟨wd, σ', S, hs, hh, ?_⟩
  unfold eUp at h
  revert h
  cases To σ' S with
  | exc c fs S1 => exact fun h => h
  | bad => exact fun h => h
  | ok v S1 =>
    intro h wd1 x H1 l hr rv
    dsimp only [Out.bind] at h
    unfold upperF at h
    split at h
    · rename_i a
      split at h
      · rename_i hz
        have rx := rd_str (K := g.K) (wd := wd1) (i := a) (x := x) rv
        exact ⟨⟨a, rx.1⟩, a, rx.1, rfl, hz.1, h wd1 _ H1 l hr (rv_str hz.2)⟩
      · exact h.elim
    · exact h.elim
end
end Ev

set_option Elab.async false
set_option linter.all false
set_option maxRecDepth 100000
set_option maxHeartbeats 1000000
/-! Ev22: max, min, abs, sum, sorted, str, int, split, partition, a list turned round. -/
namespace Ev
open PySem PySem.Spec PyProof.Rows L2
open Classical
def intsOf : List D → Option (List Int)
  | [] => some []
  | .int b :: r => (intsOf r).map (b :: ·)
  | _ => none
theorem ints_v {K wd} : ∀ {l : List D} {vs : List V} {bs : List Int}, RDs K wd l vs → intsOf l = some bs → vs = bs.map V.int
  | [], vs, bs, h, e => by
    cases e
    have h' : vs = [] := by simpa [RDs] using h
    rw [h']; rfl
  | x :: r, vs, bs, h, e => by
    simp only [RDs] at h
    obtain ⟨v, vr, rfl, h1, h2⟩ := h
    cases x with
    | int i =>
      simp only [intsOf, Option.map_eq_some_iff] at e
      obtain ⟨cs, e1, rfl⟩ := e
      have h1' : v = .int i := by simpa [RD] using h1
      rw [ints_v h2 e1, h1']; rfl
    | _ => cases e
@[simp] theorem intsOf_map (bs : List Int) : intsOf (bs.map D.int) = some bs := by
  induction bs with
  | nil => rfl
  | cons b r ih => rw [List.map_cons]; simp only [intsOf]; rw [ih]; rfl
theorem rdss_ints {K wd} : ∀ ns : List Int, RDs K wd (ns.map D.int) (ns.map V.int)
  | [] => by simp [RDs]
  | n :: r => by
    simp only [List.map_cons, RDs]
    exact ⟨.int n, _, rfl, by simp [RD], rdss_ints r⟩
theorem rdss_strs {K wd} : ∀ ns : List Str, (∀ n ∈ ns, PyData.strOk n = true) → RDs K wd (ns.map D.str) (ns.map V.str)
  | [], _ => by simp [RDs]
  | n :: r, h => by
    simp only [List.map_cons, RDs]
    exact ⟨.str n, _, rfl, by simp [RD, h n List.mem_cons_self], rdss_strs r fun m hm => h m (List.mem_cons_of_mem _ hm)⟩
def isortI (ns : List Int) : List Int := ns.mergeSort fun a b => decide (a ≤ b)
theorem isortI_perm (ns : List Int) : (isortI ns).Perm ns := List.mergeSort_perm _ _
theorem isortI_le (ns : List Int) : (isortI ns).Pairwise (· ≤ ·) := by
  have h := List.pairwise_mergeSort (le := fun a b : Int => decide (a ≤ b)) (fun a b c h k => by simp at *; omega) (fun a b => by simp; omega) ns
  refine h.imp ?_
  intro a b k
  simpa using k
theorem isortI_eq {ns ms : List Int} (p : ms.Perm ns) (h : ms.Pairwise (· ≤ ·)) : ms = isortI ns :=
  List.Perm.eq_of_pairwise (fun _ _ _ _ a b => Int.le_antisymm a b) h (isortI_le ns) (p.trans (isortI_perm ns).symm)
section
variable {g : G} {pos apos p : Pos} {e o : Expr} {es : List Expr} {T To : EV} {Ts : EVs}
noncomputable def maxF (vs : List Vl) (S : Sta) : Out Vl := match vs with
  | [.d (.int i), .d (.int j)] => .ok (.d (.int (if j > i then j else i))) S
  | [v] => match (rdlOf v S).bind intsOf with
    | some ns => match ns.max? with
      | some m => .ok (.d (.int m)) S
      | none => .bad
    | none => .bad
  | _ => .bad
noncomputable def minF (vs : List Vl) (S : Sta) : Out Vl := match vs with
  | [.d (.int i), .d (.int j)] => .ok (.d (.int (if j < i then j else i))) S
  | [v] => match (rdlOf v S).bind intsOf with
    | some ns => match ns.min? with
      | some m => .ok (.d (.int m)) S
      | none => .bad
    | none => .bad
  | _ => .bad
theorem ints_at {K cls wd H S v x ns} (hh : HR K cls wd S H) (r : RW K wd v x) (e : (rdlOf v S).bind intsOf = some ns) : ∃ a, x = .ref a ∧ SqL K H a (ns.map V.int) := by
  rw [Option.bind_eq_some_iff] at e
  obtain ⟨l, e1, e2⟩ := e
  obtain ⟨a, vs, rfl, t, rr⟩ := rdl_at hh r e1
  rw [ints_v rr e2] at t
  exact ⟨a, rfl, t⟩
theorem call_maxD : CallD g (fun xs H Q => (∃ i j, xs = [.int i, .int j] ∧ Q (.int (if j > i then j else i)) H) ∨ rMax g.K xs H Q) maxF := by
  intro W σ wd H S vs xs Q hh r h
  unfold maxF at h
  split at h
  · obtain ⟨x, y, rfl, r1, r2⟩ := rws2 r
    exact .inl ⟨_, _, by rw [rd_int r1, rd_int r2], h wd _ H (.refl _) hh rv_int⟩
  · obtain ⟨x, rfl, rv⟩ := rws1 r
    split at h
    · rename_i ns en
      obtain ⟨a, rfl, t⟩ := ints_at hh rv en
      split at h
      · rename_i m em
        have hm := List.max?_eq_some_iff.mp em
        refine .inr ⟨a, ns, rfl, t, List.length_pos_of_mem hm.1, fun k h1 h2 => ?_⟩
        have : k = m := Int.le_antisymm (hm.2 _ h1) (h2 _ hm.1)
        rw [this]; exact h wd _ H (.refl _) hh rv_int
      · exact h.elim
    · exact h.elim
  · exact h.elim
theorem call_minD : CallD g (fun xs H Q => (∃ i j, xs = [.int i, .int j] ∧ Q (.int (if j < i then j else i)) H) ∨ rMin g.K xs H Q) minF := by
  intro W σ wd H S vs xs Q hh r h
  unfold minF at h
  split at h
  · obtain ⟨x, y, rfl, r1, r2⟩ := rws2 r
    exact .inl ⟨_, _, by rw [rd_int r1, rd_int r2], h wd _ H (.refl _) hh rv_int⟩
  · obtain ⟨x, rfl, rv⟩ := rws1 r
    split at h
    · rename_i ns en
      obtain ⟨a, rfl, t⟩ := ints_at hh rv en
      split at h
      · rename_i m em
        have hm := List.min?_eq_some_iff.mp em
        refine .inr ⟨a, ns, rfl, t, List.length_pos_of_mem hm.1, fun k h1 h2 => ?_⟩
        have : k = m := Int.le_antisymm (h2 _ hm.1) (hm.2 _ h1)
        rw [this]; exact h wd _ H (.refl _) hh rv_int
      · exact h.elim
    · exact h.elim
  · exact h.elim
theorem je_max (hg : GlS g "max") (hm : g.mg "max" = none) (ha : JA g (e :: es) Ts) (he : ∀ env, starEach (e :: es) env = (false, eval e env) :: starEach es env := by intro _; rfl) (hp : ∀ env, (backTo pos (starEach es env)).any (·.1) = false := by intro _; rfl) : JE g (.Call (.Name "max" p) (e :: es) [] pos) (eCall maxF Ts) :=
  je_callB (fun X hX => hX.K ▸ (call_max2 hX.calm).or (cr_max hX.calm)) call_maxD hg hm PyProof.Rows.boot_max ha (he := he) (hp := hp)
theorem je_min (hg : GlS g "min") (hm : g.mg "min" = none) (ha : JA g (e :: es) Ts) (he : ∀ env, starEach (e :: es) env = (false, eval e env) :: starEach es env := by intro _; rfl) (hp : ∀ env, (backTo pos (starEach es env)).any (·.1) = false := by intro _; rfl) : JE g (.Call (.Name "min" p) (e :: es) [] pos) (eCall minF Ts) :=
  je_callB (fun X hX => hX.K ▸ (call_min2 hX.calm).or (cr_min hX.calm)) call_minD hg hm PyProof.Rows.boot_min ha (he := he) (hp := hp)
def absF (vs : List Vl) (S : Sta) : Out Vl := match vs with
  | [.d (.int i)] => .ok (.d (.int (if i < 0 then -i else i))) S
  | _ => .bad
theorem call_absD : CallD g (fun xs H Q => ∃ i, xs = [.int i] ∧ Q (.int (if i < 0 then -i else i)) H) absF := by
  intro W σ wd H S vs xs Q hh r h
  unfold absF at h
  split at h
  · obtain ⟨x, rfl, r1⟩ := rws1 r
    exact ⟨_, by rw [rd_int r1], h wd _ H (.refl _) hh rv_int⟩
  · exact h.elim
theorem je_abs (hg : GlS g "abs") (hm : g.mg "abs" = none) (ha : JA g [e] Ts) (he : ∀ env, starEach [e] env = (false, eval e env) :: starEach [] env := by intro _; rfl) : JE g (.Call (.Name "abs" p) [e] [] pos) (eCall absF Ts) :=
  je_callB (fun X hX => call_abs) call_absD hg hm PyProof.Rows.boot_abs ha (he := he)
noncomputable def sumF (vs : List Vl) (S : Sta) : Out Vl := match vs with
  | [v] => match (rdlOf v S).bind intsOf with
    | some ns => .ok (.d (.int ns.sum)) S
    | none => .bad
  | _ => .bad
theorem call_sumD : CallD g (rSum g.K) sumF := by
  intro W σ wd H S vs xs Q hh r h
  unfold sumF at h
  split at h
  · obtain ⟨x, rfl, rv⟩ := rws1 r
    split at h
    · rename_i ns en
      obtain ⟨a, rfl, t⟩ := ints_at hh rv en
      exact ⟨a, ns, rfl, t, h wd _ H (.refl _) hh rv_int⟩
    · exact h.elim
  · exact h.elim
theorem je_sum (hg : GlS g "sum") (hm : g.mg "sum" = none) (ha : JA g [e] Ts) (he : ∀ env, starEach [e] env = (false, eval e env) :: starEach [] env := by intro _; rfl) : JE g (.Call (.Name "sum" p) [e] [] pos) (eCall sumF Ts) :=
  je_callB (fun X hX => hX.K ▸ cr_sum hX.calm) call_sumD hg hm PyProof.Rows.boot_sum ha (he := he)
/-- str of a whole number or a text -/
noncomputable def strF (vs : List Vl) (S : Sta) : Out Vl := match vs with
  | [.d (.int i)] => if i.natAbs.log2 < 1920 ∧ PyData.strOk (toString i : Str) = true then .ok (.d (.str (toString i))) S else .bad
  | [.d (.str x)] => .ok (.d (.str x)) S
  | _ => .bad
theorem call_strD : CallD g (fun xs H Q => (∃ i, xs = [.int i] ∧ i.natAbs.log2 < 1920 ∧ Q (.str (toString i)) H) ∨ ∃ a, xs = [.str a] ∧ Q (.str a) H) strF := by
  intro W σ wd H S vs xs Q hh r h
  unfold strF at h
  split at h
  · obtain ⟨x, rfl, r1⟩ := rws1 r
    split at h
    · rename_i c
      exact .inl ⟨_, by rw [rd_int r1], c.1, h wd _ H (.refl _) hh (rv_str c.2)⟩
    · exact h.elim
  · obtain ⟨x, rfl, r1⟩ := rws1 r
    exact .inr ⟨_, by rw [(rd_str r1).1], h wd _ H (.refl _) hh (rv_str (rd_str r1).2)⟩
  · exact h.elim
theorem je_str1 (hg : GlS g "str") (hm : g.mg "str" = none) (ha : JA g [e] Ts) (he : ∀ env, starEach [e] env = (false, eval e env) :: starEach [] env := by intro _; rfl) : JE g (.Call (.Name "str" p) [e] [] pos) (eCall strF Ts) :=
  je_callTy (fun X hX => call_str_int.or SkE.call_str_str) call_strD hg hm (by decide +kernel) ha (he := he)
/-- int of a text too -/
noncomputable def intG (vs : List Vl) (S : Sta) : Out Vl := match vs with
  | [.d (.str x)] => match PySem.intText? x with
    | some n => if x.length ≤ 640 then .ok (.d (.int n)) S else .bad
    | none => .bad
  | vs => intF vs S
theorem call_intG : CallD g (fun xs H Q => (∃ a n, xs = [.str a] ∧ PySem.intText? a = some n ∧ a.length ≤ 640 ∧ Q (.int n) H) ∨ ((∃ i, xs = [.int i] ∧ Q (.int i) H) ∨ ∃ k, xs = [.bl k] ∧ Q (.int (if k then 1 else 0)) H)) intG := by
  intro W σ wd H S vs xs Q hh r h
  unfold intG at h
  split at h
  · obtain ⟨x, rfl, r1⟩ := rws1 r
    split at h
    · rename_i n en
      split at h
      · rename_i c
        exact .inl ⟨_, n, by rw [(rd_str r1).1], en, c, h wd _ H (.refl _) hh rv_int⟩
      · exact h.elim
    · exact h.elim
  · exact .inr (call_intD (g := g) W σ wd H S _ _ Q hh r h)
theorem je_intT (hg : GlS g "int") (hm : g.mg "int" = none) (ha : JA g [e] Ts) (he : ∀ env, starEach [e] env = (false, eval e env) :: starEach [] env := by intro _; rfl) : JE g (.Call (.Name "int" p) [e] [] pos) (eCall intG Ts) :=
  je_callTy (fun X hX => call_int_str.or call_int1) call_intG hg hm (by decide +kernel) ha (he := he)
/-! ### texts cut -/
noncomputable def splitF (v u : Vl) (S : Sta) : Out Vl := match v with
  | .d (.str a) => match u with
    | .d (.str b) => if (b.length == 0) = false ∧ a.length + 2 ≤ sizeLine ∧ (Txt.split a b).all PyData.strOk = true then .ok (.new ((Txt.split a b).map .str)) S else .bad
    | _ => .bad
  | _ => .bad
noncomputable def partF (v u : Vl) (S : Sta) : Out Vl := match v with
  | .d (.str a) => match u with
    | .d (.str b) => if (b.length == 0) = false ∧ a.length ≤ sizeLine ∧ PyData.strOk (Txt.partition a b).1 = true ∧ PyData.strOk (Txt.partition a b).2.1 = true ∧ PyData.strOk (Txt.partition a b).2.2 = true then .ok (.d (.tup [.str (Txt.partition a b).1, .str (Txt.partition a b).2.1, .str (Txt.partition a b).2.2])) S else .bad
    | _ => .bad
  | _ => .bad
/-- a text's method of one argument -/
noncomputable def eTm (f : Vl → Vl → Sta → Out Vl) (To T : EV) : EV := fun σ S => (To σ S).bind fun v S1 => match v with
  | .d (.str a) => (T σ S1).bind fun u S2 => f (.d (.str a)) (frz u) S2
  | _ => .bad
theorem tm_read {r : V → List V → Hp → VK → Prop} {f} (hf : OpD g (fun x y H Q => r x [y] H Q) f) {W : WX} {σ : St} {H : Hp} {Q : VK} (h : LE g.K g.cls W (eTm f To T) σ H Q) : tM1 r (LE g.K g.cls W To) (LE g.K g.cls W T) σ H Q := by
  obtain ⟨wd, σ', S, hs, hh, h⟩ := h
  refine ⟨wd, σ', S, hs, hh, ?_⟩
  unfold eTm at h
  revert h
  cases To σ' S with
  | exc c fs S1 => exact fun h => h
  | bad => exact fun h => h
  | ok v S1 =>
    intro h wd1 x H1 l hr rv
    dsimp only [Out.bind] at h
    split at h
    · rename_i a
      have rx := rd_str (K := g.K) (wd := wd1) (i := a) (x := x) rv
      refine ⟨⟨a, rx.1⟩, wd1, σ', S1, hs.mono l, hr, ?_⟩
      have h3 := OkE_opd (F := fun u S2 => f (.d (.str a)) u S2) (OkE.mono l h)
      revert h3
      cases T σ' S1 with
      | exc c fs S3 => exact fun h => h
      | bad => exact fun h => h
      | ok u S3 =>
        intro h3 wd3 y H3 l3 hr3 rv3
        obtain ⟨u', wd4, S4, l4, hr4, rw4, h4⟩ := h3 wd3 y H3 l3 hr3 rv3
        have rx4 : RW g.K wd4 (.d (.str a)) x := RD.mono _ l4 _ _ rv
        exact hf W σ wd4 H3 S4 _ u' x y Q hr4 rx4 rw4 h4
    · exact h.elim
theorem opd_split : OpD g (fun x y H Q => ∃ a b, x = .str a ∧ [y] = [.str b] ∧ (b.length == 0) = false ∧ a.length + 2 ≤ sizeLine ∧ rNewStrs (Txt.split a b) H Q) splitF := by
  intro W σ wd H S v u x y Q hh rv ru h
  unfold splitF at h
  split at h
  · split at h
    · split at h
      · rename_i c
        refine ⟨_, _, (rd_str rv).1, by rw [(rd_str ru).1], c.1, c.2.1, fun p hp => ?_⟩
        obtain ⟨h1, r1⟩ := hh.newLst hp (rdss_strs _ fun z hz => List.all_eq_true.mp c.2.2 z hz)
        exact h wd _ _ (.refl _) h1 r1
      · exact h.elim
    · exact h.elim
  · exact h.elim
theorem opd_part : OpD g (fun x y H Q => ∃ a b, x = .str a ∧ [y] = [.str b] ∧ (b.length == 0) = false ∧ a.length ≤ sizeLine ∧
      ∀ p, H p = none → Q (.ref p) (upd H p (.tup [.str (Txt.partition a b).1, .str (Txt.partition a b).2.1, .str (Txt.partition a b).2.2]))) partF := by
  intro W σ wd H S v u x y Q hh rv ru h
  unfold partF at h
  split at h
  · split at h
    · split at h
      · rename_i c
        obtain ⟨c1, c2, c3, c4, c5⟩ := c
        refine ⟨_, _, (rd_str rv).1, by rw [(rd_str ru).1], c1, c2, fun p hp => ?_⟩
        obtain ⟨wd1, l1, h1, r1⟩ := hh.newTup hp (rdss_strs (K := g.K) (wd := wd) [_, _, _] (by
          intro z hz
          simp only [List.mem_cons, List.not_mem_nil, or_false] at hz
          rcases hz with rfl | rfl | rfl
          · exact c3
          · exact c4
          · exact c5))
        exact h wd1 _ _ l1 h1 r1
      · exact h.elim
    · exact h.elim
  · exact h.elim
theorem je_split (ho : JE g o To) (he : JE g e T) (hs : ∀ env, starEach [e] env = [(false, eval e env)] := by intro _; rfl) (hb : ∀ env, attributeBase o "split" env (eval o env) = eval o env := by intro _; rfl) (hl : (apos.endLine == pos.line) = true := by rfl) : JE g (.Call (.Attribute o "split" apos) [e] [] pos) (eTm splitF To T) := fun X hX W tk =>
  (pe_split (ho X hX W tk) (he X hX W tk) (hs X.env) (hb X.env) hl).imp fun σ H Q h => tm_read opd_split h
theorem je_part (ho : JE g o To) (he : JE g e T) (hs : ∀ env, starEach [e] env = [(false, eval e env)] := by intro _; rfl) (hb : ∀ env, attributeBase o "partition" env (eval o env) = eval o env := by intro _; rfl) (hl : (apos.endLine == pos.line) = true := by rfl) : JE g (.Call (.Attribute o "partition" apos) [e] [] pos) (eTm partF To T) := fun X hX W tk =>
  (pe_partition (ho X hX W tk) (he X hX W tk) (hs X.env) (hb X.env) hl).imp fun σ H Q h => tm_read opd_part h
/-! ### xs[::-1] -/
noncomputable def revF (v : Vl) (S : Sta) : Out Vl := match rdlOf v S with
  | some l => .ok (.new l.reverse) S
  | none => .bad
theorem RDs.rev {K wd} : ∀ {xs : List D} {vs : List V}, RDs K wd xs vs → RDs K wd xs.reverse vs.reverse
  | [], vs, h => by
    have h' : vs = [] := by simpa [RDs] using h
    rw [h']; simp [RDs]
  | x :: r, vs, h => by
    simp only [RDs] at h
    obtain ⟨v, vr, rfl, h1, h2⟩ := h
    rw [List.reverse_cons, List.reverse_cons]
    exact (RDs.rev h2).append (.one h1)
theorem je_rev {k : Nat} {p1 p2 p3 : Pos} (he : JE g e T) : JE g (.Subscript e (.Slice none none (some (.UnaryOp .USub (.Constant (.int 1) k p1) p2)) p3) pos) (eUn revF T) := fun X hX W tk =>
  (pe_revL (he X hX W tk)).imp fun σ H Q h => by
  obtain ⟨wd, σ', S, hs, hh, h⟩ := h
  refine ⟨wd, σ', S, hs, hh, ?_⟩
  have h1 := OkE_opd (F := fun v S1 => revF v S1) h
  revert h1
  cases T σ' S with
  | exc c fs S1 => exact fun h => h
  | bad => exact fun h => h
  | ok v S1 =>
    intro h1 wd1 x H1 l hr rv
    obtain ⟨v', wd2, S2, l2, hr2, rw2, h2⟩ := h1 wd1 x H1 l hr rv
    unfold revF at h2
    split at h2
    · rename_i l el
      obtain ⟨a, vs, rfl, t, rr⟩ := rdl_at hr2 rw2 el
      refine ⟨a, vs, rfl, hX.K.symm ▸ t, fun q hq => ?_⟩
      obtain ⟨h3, r3⟩ := hr2.newLst hq rr.rev
      exact h2 wd2 _ _ (.refl _) h3 r3
    · exact h2.elim
/-! ### sorted -/
noncomputable def sortedF (vs : List Vl) (S : Sta) : Out Vl := match vs with
  | [v] => match (rdlOf v S).bind intsOf with
    | some ns => .ok (.new ((isortI ns).map .int)) S
    | none => .bad
  | _ => .bad
theorem call_sortedD' : CallD g (rSortedI g.K) sortedF := by
  intro W σ wd H S vs xs Q hh r h
  unfold sortedF at h
  split at h
  · obtain ⟨x, rfl, rv⟩ := rws1 r
    split at h
    · rename_i ns en
      obtain ⟨a, rfl, t⟩ := ints_at hh rv en
      refine ⟨a, ns, rfl, t, fun ms q hp hs hq => ?_⟩
      rw [isortI_eq hp hs]
      obtain ⟨h1, r1⟩ := hh.newLst hq (rdss_ints (isortI ns))
      exact h wd _ _ (.refl _) h1 r1
    · exact h.elim
  · exact h.elim
theorem je_sorted (hg : GlS g "sorted") (hm : g.mg "sorted" = none) (ha : JA g [e] Ts) (he : ∀ env, starEach [e] env = (false, eval e env) :: starEach [] env := by intro _; rfl) : JE g (.Call (.Name "sorted" p) [e] [] pos) (eCall sortedF Ts) :=
  je_callB (fun X hX => hX.K ▸ cr_sortedI) call_sortedD' hg hm PyProof.Rows.boot_sorted ha (he := he)
end
end Ev

set_option Elab.async false
set_option linter.all false
set_option maxRecDepth 100000
set_option maxHeartbeats 2000000
/-! Ev23: enumerate of a tuple or a list, zip of two lists or tuples. -/
namespace Ev
open PySem PySem.Spec PyProof.Rows L2
open Classical
section
open AutoSeq1 (wpAny_loadPart')
/-! at the library's level: the tuple's own iterator stands where a list's stands there -/
abbrev titO (t : Addr) : Obj := { cls := .type "tuple_iterator", data := .fields #[.ref t, .int 0 0] }
abbrev enuO (i : Addr) : Obj := { cls := .type "enumerate", data := .fields #[.none, .bool false, .ref i, rawInt 0, .none, .none] }
theorem meets_enumT (t : Addr) (its : Array Value) (n : Nat) (dd : Option Addr) (sl : Array (Option Value)) :
    Meets (Builtin.«enumerate.__new__» ⟨[.type "enumerate", .ref t], []⟩) (fun _ R s =>
      s.heap.get? t = some { cls := .type "tuple", dict := dd, data := .seq its n, slots := sl } ∧
      R (.ok (.ret (.ref (s.heap.push (titO t)).objs.size))) { s with heap := (s.heap.push (titO t)).push (enuO s.heap.objs.size) }) :=
  Meets.of_wp fun P w A R s hyp => by
    obtain ⟨h1, g1, d1, k1, o1⟩ := s
    obtain ⟨ht, fin⟩ := hyp
    have sub1 := sub_enumerate
    have isT : Heap.IsTuple (Shared.heap ⟨h1, g1, d1, k1, o1⟩) t its := ⟨_, ht, rfl, n, rfl⟩
    wp_walk using wpAny_loadPart' ht
    refine wpAny_stack_any fun stk => wpAny_pure ?_
    split
    · rename_i cc _ _ _ _ _
      cases (cc == Value.type "enumerate") <;>
        (wp_walk using wpAny_loadPart' ht, wpAny_pyIter_tuple isT
         exact ⟨_, rfl, fin⟩)
    · wp_walk using wpAny_loadPart' ht, wpAny_pyIter_tuple isT
      exact ⟨_, rfl, fin⟩
variable {P : Program} {w : World} {A : Around} {E : Value → Shared → Prop} {s : Shared}
theorem call_enumT {t : Addr} {its : Array Value} {Q : Value → Shared → Prop} (hT : s.heap.IsTuple t its)
    (k : ∀ h2, IsEnum h2 (s.heap.objs.size + 1) s.heap.objs.size 0 .none → h2.IsTupleIter s.heap.objs.size t 0 → (∀ b o, s.heap.get? b = some o → h2.get? b = some o) → Q (.ref (s.heap.objs.size + 1)) { s with heap := h2 }) :
    wpAny (model P w) A (call (.type "enumerate") [.ref t]) Q E s := by
  obtain ⟨⟨cc, dd, da, sl⟩, e0, ec, n, ed⟩ := hT
  obtain rfl : cc = .type "tuple" := ec
  obtain rfl : da = .seq its n := ed
  refine callType_new F.called_enumerate (by decide) (F.typeCall_enumerate_1 _) (F.newCall_enumerate_1 _)
    (fun obj => F.args_object_init_2 obj _) F.entry_enumerate_new (meets_enumT t its n dd sl) ⟨e0, ?_⟩
  have z1 : (s.heap.push (titO t)).objs.size = s.heap.objs.size + 1 := Heap.size_push ..
  show _ ∧ _
  rw [z1]
  have en : IsEnum ((s.heap.push (titO t)).push (enuO s.heap.objs.size)) (s.heap.objs.size + 1) s.heap.objs.size 0 .none := by
    have y := Heap.get?_push_size (s.heap.push (titO t)) (o := enuO s.heap.objs.size) rfl
    rw [z1] at y
    exact y
  have ti : Heap.IsTupleIter ((s.heap.push (titO t)).push (enuO s.heap.objs.size)) s.heap.objs.size t 0 :=
    ⟨titO t, Heap.get?_push_of_some _ (Heap.get?_push_size _ rfl), rfl, rfl⟩
  refine ⟨⟨_, en, rfl⟩, k _ en ti fun b o x => ?_⟩
  exact Heap.get?_push_of_some _ (Heap.get?_push_of_some _ x)
theorem drawsTup (hh : A.handled = none) (it t : Addr) (ne : t ≠ it) (its : Array Value) :
    Draws P w A it [it, t] its.size (fun i v => its[i]? = some v) (fun i h => h.IsTupleIter it t i ∧ h.IsTuple t its) where
  live := fun _ _ ⟨⟨o, ho, _⟩, _⟩ => ⟨o, ho⟩
  frame := fun _ _ _ ⟨a, b⟩ hk => ⟨a.at fun o e => hk it (by simp) o e, by
    obtain ⟨o, e, r⟩ := b
    exact ⟨o, hk t (by simp) o e, r⟩⟩
  item := fun i s Q E hi ⟨a, b⟩ hQ => RZ.nextOf_tuple_item a b (x := its[i]) (by simp [hi]) fun h2 a2 sb =>
    hQ _ h2 s.toks (by simp [hi]) ⟨a2, by
      obtain ⟨o, e, r⟩ := b
      exact ⟨o, (sb.2 t ne).trans e, r⟩⟩ sb
  done := fun s Q E ⟨a, b⟩ hE => RZ.nextOf_tuple_end hh a b (by simp) hE
end
/-! as a walk of the hand layer -/
def ItT (K : PySem.W.Frag) (a : Addr) : It :=
  ⟨fun i H => ∃ (xs : List V) (x : V), SqT K H a xs ∧ xs[i]? = some x,
   fun i H v H' => ∃ T x, v = .ref T ∧ H T = none ∧ H' = upd H T (.tup [.int (i : Nat), x]) ∧ ∀ xs, SqT K H a xs → xs[i]? = some x,
   fun i H => ∃ xs : List V, SqT K H a xs ∧ xs.length ≤ i⟩
theorem turn_enumT {P : Program} {w : World} {K : PySem.W.Frag} {elts : List Expr} {kk : Nat} {tpos : Pos} (a e it : Addr) :
    Turn P w K (.Tuple elts kk tpos) (ItT K a) [e, it] e (fun i h => (∃ old, IsEnum h e it ((i : Nat) : Int) old) ∧ h.IsTupleIter it a i ∧ e ≠ it ∧ a ≠ it ∧ a ≠ e) where
  mem := List.mem_cons_self
  obj := fun i h st b hb => by
    obtain ⟨⟨old, he⟩, ⟨o, ho, _, hd⟩, _⟩ := st
    simp only [List.mem_cons, List.not_mem_nil, or_false] at hb
    rcases hb with rfl | rfl
    · exact ⟨_, he, fun v q => nomatch q⟩
    · exact ⟨o, ho, fun v q => by rw [hd] at q; cases q⟩
  keep := fun i h h2 st k => by
    obtain ⟨⟨old, he⟩, hi, r⟩ := st
    exact ⟨⟨old, k e List.mem_cons_self _ he⟩, hi.at fun o q => k it (by simp) o q, r⟩
  item := by
    intro X eP ew eK calm i pins s σ H E I hf st hg
    subst eP ew eK
    obtain ⟨⟨old, he⟩, hi, n1, n2, n3⟩ := st
    obtain ⟨xs, x, hq, hx⟩ := hg
    obtain ⟨its, rv, tp, _⟩ := I.tuple hq
    obtain ⟨u, hu, ru⟩ := rv.get hx
    have hel : e < s.heap.objs.size := Heap.lt_size he
    have hil : it < s.heap.objs.size := by obtain ⟨_, q, _⟩ := hi; exact Heap.lt_size q
    have hlt : i < its.toArray.size := by
      have := (List.getElem?_eq_some_iff.mp hu).1
      rw [List.size_toArray]; exact this
    have D := drawsTup (P := X.prog) (w := X.w) (A := X.A.in1) (by exact I.ok.hd calm) it a n2 its.toArray
    refine wpAny_pyNext_enum_itemD D he ⟨hi, tp⟩ hlt n1 (fun z => ?_) fun y h2 tk py ho st2 hT _ hk => ?_
    · simp only [List.mem_cons, List.not_mem_nil, or_false] at z
      rcases z with z | z
      · exact n1 z
      · exact n3 z.symm
    obtain rfl : y = u := by
      have e1 : its.toArray[i]? = some y := py
      have e2 : its.toArray[i]? = some u := by simpa using hu
      rw [e1] at e2; cases e2; rfl
    refine ⟨_, rfl, wpAny_letOwnedTupleGo_enum (s := { s with heap := h2, toks := tk + 1 }) ho fun h3 he3 sb => ?_⟩
    have hT3 : h3.get? s.heap.objs.size = some { cls := .type "tuple", data := .seq #[.int i tk, y] } := (sb.2 _ (Nat.ne_of_gt hel)).trans hT
    have new : ObjOk X.prog X.w (upd H s.heap.objs.size (.tup [.int (i : Nat), x])) h3 s.heap.objs.size (.tup [.int (i : Nat), x]) := by
      refine ⟨?_, [.int i tk, y], .cons ⟨_, rfl⟩ (.cons ru .nil), ⟨_, hT3, rfl, _, rfl⟩⟩
      show 2 ≤ sizeLine
      decide
    have I3 : Inv X pins σ (upd H s.heap.objs.size (.tup [.int (i : Nat), x])) { s with heap := h3, toks := tk + 1 } := by
      refine I.turnedNew (ch := [e, it]) (fun b ob nb q => ?_) hf (Nat.le_refl _) new
      have b1 : b ≠ e := fun z => nb (by simp [z])
      have b2 : b ≠ it := fun z => nb (by simp [z])
      exact (sb.2 b b1).trans (hk b ob b1 b2 q)
    refine ⟨.ref s.heap.objs.size, _, I3, rfl, ⟨_, x, rfl, I.hok.fresh (Nat.le_refl _), rfl, fun ys hy => by rw [I.tuple_inj hy hq]; exact hx⟩,
      ⟨⟨y, ?_⟩, st2.1.at fun o q => (sb.2 it (Ne.symm n1)).trans q, n1, n2, n3⟩, fun b hb => ?_⟩
    · have : ((i + 1 : Nat) : Int) = (i : Int) + 1 := by omega
      rw [this]; exact he3
    · have bl : b < s.heap.objs.size := by
        simp only [List.mem_cons, List.not_mem_nil, or_false] at hb
        rcases hb with rfl | rfl
        · exact hel
        · exact hil
      rw [upd_ne (Nat.ne_of_lt bl)]
      exact (hf b hb).1
  done := by
    intro X eP ew eK calm i pins s σ H E I hf st hg
    subst eP ew eK
    obtain ⟨⟨old, he⟩, hi, n1, n2, n3⟩ := st
    obtain ⟨xs, hq, hx⟩ := hg
    obtain ⟨its, rv, tp, _⟩ := I.tuple hq
    obtain ⟨f0, f1, f2, f3, f4, f5⟩ := hf it (by simp)
    have hl := rv.length
    have nn : its.toArray[i]? = none := by simp; omega
    have hT : s.TypeIs (.ref e) "enumerate" := ⟨_, he, rfl⟩
    unfold pyNext
    refine wpAny_bind (wpAny_attempt (wpAny_callSpecial?_slot (name := Str.ofString "__next__") hT F.slot_enumerate_next
      (wpAny_call_entry F.slot_enumerate_next hT F.entry_enumerate_next (?_) (F.args_enumerate_next_1 _))))
    show wpAny _ _ (field (.ref e) 2 >>= _) _ _ _
    refine wpAny_bind (wpAny_field he rfl (x := .ref it) rfl (wpAny_bind (RZ.nextOf_tuple_end (I.ok.hd calm) hi tp nn fun h2 y eb hy => ?_)))
    obtain ⟨o, ho, hc⟩ := hy
    refine wpAny_bind (wpAny_isInstance (T := "StopIteration") (b := true) ⟨o, ho, hc⟩ isSubtype_stop (wpAny_pure ?_))
    exact ⟨rfl, I.turned (t' := s.toks) (fun b o hb q => eb b o hb q) f0 f1 f3 f4 f5⟩
  self := fun A i s Q E st k => by
    obtain ⟨⟨_, he⟩, _⟩ := st
    exact wpAny_pyIter_enum he k
def iEnA (K : PySem.W.Frag) (ta : TA) : TI := fun σ H R => ta σ H fun vs H1 => ∃ a xs, vs = [.ref a] ∧ ((SqL K H1 a xs ∧ R (Ite K a) H1) ∨ (SqT K H1 a xs ∧ R (ItT K a) H1))
theorem pi_enA {X : Cx} {e : Expr} {ta : TA} {p pos tpos : Pos} {elts : List Expr} {kk : Nat} (g1 : Gl X "enumerate") (m1 : X.mg "enumerate" = none) (ha : PA X [e] ta) (st : starEach [e] X.env = [(false, eval e X.env)]) :
    PI X (.Tuple elts kk tpos) (.Call (.Name "enumerate" p) [e] [] pos) (iEnA X.K ta) := by
  refine ⟨fun pins s σ H R I q => Call_ (ld_blt I g1 m1 boot_enumerate (PyProof.Rows.callWith_type1 (thn (ha.run pos pins s σ H _ I q) fun us s1 q1 => ?_) st rfl))⟩
  obtain ⟨vs, H1, I1, r1, a, xs, ex, q1⟩ := q1
  subst ex
  have pl : ∀ {b : Addr}, b = s1.heap.objs.size + 1 ∨ b = s1.heap.objs.size → s1.heap.objs.size ≤ b := fun {b} z => by
    rcases z with rfl | rfl
    · exact Nat.le_succ _
    · exact Nat.le_refl _
  obtain rfl : us = [.ref a] := by
    cases r1 with
    | cons r rr => cases rr; cases r; rfl
  rcases q1 with ⟨hq, q⟩ | ⟨hq, q⟩
  · obtain ⟨its, rv, lp, _⟩ := I1.list hq
    refine call_enumerate_list lp.isList fun h2 he hi _ hk => wpAny_pyIter_enum he ?_
    have I2 : Inv X pins σ H1 { s1 with heap := h2 } := I1.kept (t' := s1.toks) hk
    refine ⟨s1.heap.objs.size + 1, [s1.heap.objs.size + 1, s1.heap.objs.size], _, _, H1, rfl, I2, turn_enum a _ s1.heap.objs.size, ⟨⟨.none, he⟩, hi, Nat.succ_ne_self _⟩, fun b hb => ?_, q⟩
    have := pl (by simpa using hb)
    exact I1.fpOk this (I1.hok.fresh this)
  · obtain ⟨its, rv, tp, _⟩ := I1.tuple hq
    have al : a < s1.heap.objs.size := by obtain ⟨_, e0, _⟩ := tp; exact Heap.lt_size e0
    refine call_enumT tp fun h2 he hi hk => wpAny_pyIter_enum he ?_
    have I2 : Inv X pins σ H1 { s1 with heap := h2 } := I1.kept (t' := s1.toks) hk
    refine ⟨s1.heap.objs.size + 1, [s1.heap.objs.size + 1, s1.heap.objs.size], _, _, H1, rfl, I2, turn_enumT a _ s1.heap.objs.size, ⟨⟨.none, he⟩, hi, Nat.succ_ne_self _, Nat.ne_of_lt al, Nat.ne_of_lt (Nat.lt_succ_of_lt al)⟩, fun b hb => ?_, q⟩
    have := pl (by simpa using hb)
    exact I1.fpOk this (I1.hok.fresh this)
section
variable {g : G} {pos p : Pos} {e e2 : Expr} {Ts : EVs} {elts : List Expr} {kk : Nat} {tpos : Pos}
/-- what enumerate gives -/
def enumD : Nat → List D → List D
  | _, [] => []
  | k, x :: r => .tup [.int (k : Nat), x] :: enumD (k + 1) r
theorem enumD_get : ∀ (l : List D) (k i : Nat), (enumD k l)[i]? = (l[i]?).map fun x => .tup [.int ((k + i : Nat)), x]
  | [], k, i => by simp [enumD]
  | x :: r, k, 0 => by simp [enumD]
  | x :: r, k, i + 1 => by
    have := enumD_get r (k + 1) i
    simp only [enumD, List.getElem?_cons_succ]
    rw [this]
    congr 1
    funext y
    congr 4
    omega
theorem enumD_length : ∀ (l : List D) (k : Nat), (enumD k l).length = l.length
  | [], k => rfl
  | x :: r, k => by simp [enumD, enumD_length r]
noncomputable def itemsE (vs : List Vl) (S : Sta) : Out (List D × (Sta → Bool)) := match vs with
  | [v] => match v with
    | .d (.tup l) => .ok (enumD 0 l, fun _ => true) S
    | v => match rdlOf v S with
      | some l => .ok (enumD 0 l, fun S1 => decide (rdlOf v S1 = some l)) S
      | none => .bad
  | _ => .bad
@[simp] noncomputable def iEnumV (Ts : EVs) : IV := fun σ S => (Ts σ S).bind itemsE
theorem RD.leX {K} {wd wd2 : Wd} (l : LeX wd wd2) {x v} (h : RD K wd x v) : RD K wd2 x v := by
  have h1 : RD K { wd2 with an := wd.an } x v := RD.mono (wd' := { wd2 with an := wd.an }) K ⟨l.fz, l.bx, l.ob, rfl⟩ x v h
  exact RD.same (wd := { wd2 with an := wd.an }) (wd' := wd2) rfl rfl x v h1
theorem RDs.leX {K} {wd wd2 : Wd} (l : LeX wd wd2) {x v} (h : RDs K wd x v) : RDs K wd2 x v := by
  have h1 : RDs K { wd2 with an := wd.an } x v := RDs.mono (wd' := { wd2 with an := wd.an }) K ⟨l.fz, l.bx, l.ob, rfl⟩ x v h
  exact RDs.same (wd := { wd2 with an := wd.an }) (wd' := wd2) rfl rfl x v h1
theorem RW.leX {K} {wd wd2 : Wd} (l : LeX wd wd2) {v : Vl} {x} (h : RW K wd v x) : RW K wd2 v x := by
  cases v with
  | d y => exact RD.leX l h
  | new y => exact h.elim
  | box i => obtain ⟨a, e, q⟩ := h; exact ⟨a, e, pre_get l.bx q⟩
theorem ji_enum (g1 : GlS g "enumerate") (m1 : g.mg "enumerate" = none) (ha : JA g [e] Ts) (st : ∀ env, starEach [e] env = [(false, eval e env)] := by intro _; rfl) :
    JI g (.Tuple elts kk tpos) (.Call (.Name "enumerate" p) [e] [] pos) (iEnumV Ts) := fun X hX W tk =>
  (pi_enA (gl_of hX g1) (by rw [hX.mg]; exact m1) (ha X hX W tk) (st X.env)).imp fun σ H R h => by
  obtain ⟨wd, σ', S, hs, hh, h⟩ := h
  refine ⟨wd, σ', S, hs, hh, ?_⟩
  have h1 := OkI_bindA h
  revert h1
  cases Ts σ' S with
  | exc c fs S1 => exact fun h => h
  | bad => exact fun h => h
  | ok v S1 =>
    intro h1 wd1 xs H1 l1 hr1 rv1
    obtain ⟨v', wd2, S2, l2, hr2, rw2, h2⟩ := h1 wd1 xs H1 l1 hr1 rv1
    unfold itemsE at h2
    split at h2
    · rename_i v
      obtain ⟨x, rfl, rx⟩ := rws1 rw2
      split at h2
      · rename_i l
        obtain ⟨a, vs, rfl, t, rr⟩ := tup_at hr2 rx rfl
        refine ⟨a, vs, rfl, .inr ⟨hX.K.symm ▸ t, ?_⟩⟩
        refine h2 wd2 H1 _ (.refl _) hr2 fun wd3 S3 H3 l3 hr3 hc => ?_
        obtain ⟨a', vs', ea, t', rr'⟩ := tup_at hr3 (RW.leX l3 rx) rfl
        cases ea
        have len := rr'.length
        rw [hX.K]
        refine ⟨⟨vs', t', by rw [enumD_length]; omega⟩, fun i y ey => ?_⟩
        rw [enumD_get, Nat.zero_add] at ey
        obtain ⟨z, ez, rfl⟩ := Option.map_eq_some_iff.mp ey
        obtain ⟨u, eu, ru⟩ := rr'.get' ez
        refine ⟨⟨vs', u, t', eu⟩, fun v H' q => ?_⟩
        obtain ⟨q1, q2, rfl, hn, rfl, hq⟩ := q
        have := hq _ t'
        rw [eu] at this; cases this
        obtain ⟨wd4, l4, h4, r4⟩ := hr3.newTup (l := [.int (i : Nat), z]) (vs := [.int (i : Nat), u]) hn (by
          simp only [RDs]
          exact ⟨_, _, rfl, by simp [RD], _, _, rfl, ru, rfl⟩)
        exact ⟨wd4, l4, h4, r4⟩
      · split at h2
        · rename_i l el
          obtain ⟨a, vs, rfl, t, rr⟩ := rdl_at hr2 rx el
          refine ⟨a, vs, rfl, .inl ⟨hX.K.symm ▸ t, ?_⟩⟩
          refine h2 wd2 H1 _ (.refl _) hr2 fun wd3 S3 H3 l3 hr3 hc => ?_
          have hc := of_decide_eq_true hc
          obtain ⟨a', vs', ea, t', rr'⟩ := rdl_at hr3 (RW.leX l3 rx) hc
          cases ea
          have len := rr'.length
          rw [hX.K]
          refine ⟨⟨vs', t', by rw [enumD_length]; omega⟩, fun i y ey => ?_⟩
          rw [enumD_get, Nat.zero_add] at ey
          obtain ⟨z, ez, rfl⟩ := Option.map_eq_some_iff.mp ey
          obtain ⟨u, eu, ru⟩ := rr'.get' ez
          refine ⟨⟨vs', u, t', eu⟩, fun v H' q => ?_⟩
          obtain ⟨q1, q2, rfl, hn, rfl, hq⟩ := q
          have := hq _ t'
          rw [eu] at this; cases this
          obtain ⟨wd4, l4, h4, r4⟩ := hr3.newTup (l := [.int (i : Nat), z]) (vs := [.int (i : Nat), u]) hn (by
            simp only [RDs]
            exact ⟨_, _, rfl, by simp [RD], _, _, rfl, ru, rfl⟩)
          exact ⟨wd4, l4, h4, r4⟩
        · exact h2.elim
    · exact h2.elim
/-- what zip gives -/
def zipD (l m : List D) : List D := (l.zip m).map fun p => .tup [p.1, p.2]
theorem zipD_length (l m : List D) : (zipD l m).length = min l.length m.length := by simp [zipD]
theorem zipD_get (l m : List D) (i : Nat) {y : D} (h : (zipD l m)[i]? = some y) : ∃ a b, l[i]? = some a ∧ m[i]? = some b ∧ y = .tup [a, b] := by
  unfold zipD at h
  rw [List.getElem?_map, Option.map_eq_some_iff] at h
  obtain ⟨⟨a, b⟩, h1, h2⟩ := h
  rw [List.getElem?_zip_eq_some] at h1
  exact ⟨a, b, h1.1, h1.2, h2.symm⟩
noncomputable def itemsZ (vs : List Vl) (S : Sta) : Out (List D × (Sta → Bool)) := match vs with
  | [v, u] => match tupOf v, tupOf u with
    | some l, some m => .ok (zipD l m, fun _ => true) S
    | _, _ => match rdlOf v S, rdlOf u S with
      | some l, some m => .ok (zipD l m, fun S1 => decide (rdlOf v S1 = some l) && decide (rdlOf u S1 = some m)) S
      | _, _ => .bad
  | _ => .bad
@[simp] noncomputable def iZipV (Ts : EVs) : IV := fun σ S => (Ts σ S).bind itemsZ
theorem ji_zip (g1 : GlS g "zip") (m1 : g.mg "zip" = none) (ha : JA g [e, e2] Ts) (st : ∀ env, starEach [e, e2] env = (false, eval e env) :: starEach [e2] env := by intro _; rfl) (hp : ∀ env, (backTo pos (starEach [e2] env)).any (·.1) = false := by intro _; rfl) :
    JI g (.Tuple elts kk tpos) (.Call (.Name "zip" p) [e, e2] [] pos) (iZipV Ts) := fun X hX W tk =>
  (RZ.pi_zipA (gl_of hX g1) (by rw [hX.mg]; exact m1) (ha X hX W tk) (st X.env) (hp X.env)).imp fun σ H R h => by
  obtain ⟨wd, σ', S, hs, hh, h⟩ := h
  refine ⟨wd, σ', S, hs, hh, ?_⟩
  have h1 := OkI_bindA h
  revert h1
  cases Ts σ' S with
  | exc c fs S1 => exact fun h => h
  | bad => exact fun h => h
  | ok v S1 =>
    intro h1 wd1 xs H1 l1 hr1 rv1
    obtain ⟨v', wd2, S2, l2, hr2, rw2, h2⟩ := h1 wd1 xs H1 l1 hr1 rv1
    unfold itemsZ at h2
    split at h2
    · rename_i v u
      obtain ⟨x, y, rfl, rx, ry⟩ := rws2 rw2
      split at h2
      · rename_i l m e1 e2
        obtain ⟨a, vs, rfl, t, rr⟩ := tup_at hr2 rx e1
        obtain ⟨b, us, rfl, t2, rr2⟩ := tup_at hr2 ry e2
        refine ⟨a, b, vs, us, rfl, .inr ⟨hX.K.symm ▸ t, hX.K.symm ▸ t2, ?_⟩⟩
        refine h2 wd2 H1 _ (.refl _) hr2 fun wd3 S3 H3 l3 hr3 hc => ?_
        obtain ⟨a', vs', ea, t', rr'⟩ := tup_at hr3 (RW.leX l3 rx) e1
        cases ea
        obtain ⟨b', us', eb, t2', rr2'⟩ := tup_at hr3 (RW.leX l3 ry) e2
        cases eb
        have len := rr'.length
        have len2 := rr2'.length
        rw [hX.K]
        refine ⟨⟨vs', us', t', t2', by rw [zipD_length]; omega⟩, fun i y ey => ?_⟩
        obtain ⟨z, z2, ez, ez2, rfl⟩ := zipD_get _ _ _ ey
        obtain ⟨w1, eu, ru⟩ := rr'.get' ez
        obtain ⟨w2, eu2, ru2⟩ := rr2'.get' ez2
        refine ⟨⟨vs', us', w1, w2, t', t2', eu, eu2⟩, fun v H' q => ?_⟩
        obtain ⟨q1, q2, q3, rfl, hn, rfl, hq, hq2⟩ := q
        have := hq _ t'
        rw [eu] at this; cases this
        have := hq2 _ t2'
        rw [eu2] at this; cases this
        obtain ⟨wd4, l4, h4, r4⟩ := hr3.newTup (l := [z, z2]) hn (by
          simp only [RDs]
          exact ⟨_, _, rfl, ru, _, _, rfl, ru2, rfl⟩)
        exact ⟨wd4, l4, h4, r4⟩
      · split at h2
        · rename_i l m e1 e2
          obtain ⟨a, vs, rfl, t, rr⟩ := rdl_at hr2 rx e1
          obtain ⟨b, us, rfl, t2, rr2⟩ := rdl_at hr2 ry e2
          refine ⟨a, b, vs, us, rfl, .inl ⟨hX.K.symm ▸ t, hX.K.symm ▸ t2, ?_⟩⟩
          refine h2 wd2 H1 _ (.refl _) hr2 fun wd3 S3 H3 l3 hr3 hc => ?_
          simp only [Bool.and_eq_true, decide_eq_true_eq] at hc
          obtain ⟨a', vs', ea, t', rr'⟩ := rdl_at hr3 (RW.leX l3 rx) hc.1
          cases ea
          obtain ⟨b', us', eb, t2', rr2'⟩ := rdl_at hr3 (RW.leX l3 ry) hc.2
          cases eb
          have len := rr'.length
          have len2 := rr2'.length
          rw [hX.K]
          refine ⟨⟨vs', us', t', t2', by rw [zipD_length]; omega⟩, fun i y ey => ?_⟩
          obtain ⟨z, z2, ez, ez2, rfl⟩ := zipD_get _ _ _ ey
          obtain ⟨w1, eu, ru⟩ := rr'.get' ez
          obtain ⟨w2, eu2, ru2⟩ := rr2'.get' ez2
          refine ⟨⟨vs', us', w1, w2, t', t2', eu, eu2⟩, fun v H' q => ?_⟩
          obtain ⟨q1, q2, q3, rfl, hn, rfl, hq, hq2⟩ := q
          have := hq _ t'
          rw [eu] at this; cases this
          have := hq2 _ t2'
          rw [eu2] at this; cases this
          obtain ⟨wd4, l4, h4, r4⟩ := hr3.newTup (l := [z, z2]) hn (by
            simp only [RDs]
            exact ⟨_, _, rfl, ru, _, _, rfl, ru2, rfl⟩)
          exact ⟨wd4, l4, h4, r4⟩
        · exact h2.elim
    · exact h2.elim
end
end Ev

set_option Elab.async false
set_option linter.all false
set_option maxRecDepth 100000
set_option maxHeartbeats 1000000
/-! Ev24: calls with keywords in any order, and with defaults: of defs and of makers. -/
namespace Ev
open PySem PySem.Spec PyProof.Rows L2
open Classical
/-- what stands at these places -/
def pick {α : Type} (pm : List Nat) (l : List α) : List α := pm.filterMap fun i => l[i]?
theorem pick_nil {α : Type} (l : List α) : pick [] l = [] := rfl
theorem pick_cons {α : Type} (i : Nat) (pm : List Nat) (l : List α) : pick (i :: pm) l = match l[i]? with
  | some x => x :: pick pm l
  | none => pick pm l := by
  unfold pick
  rw [List.filterMap_cons]
  split <;> simp_all
theorem Vals.pick {vs : List V} {us : List Value} (r : Vals vs us) : ∀ pm : List Nat, Vals (Ev.pick pm vs) (Ev.pick pm us)
  | [] => .nil
  | i :: pm => by
    rw [pick_cons, pick_cons]
    cases e : vs[i]? with
    | none =>
      have : us[i]? = none := by
        rw [List.getElem?_eq_none_iff] at e ⊢
        rw [← r.length]; exact e
      rw [this]; exact Vals.pick r pm
    | some v =>
      obtain ⟨u, eu, ru⟩ := r.get e
      rw [eu]; exact .cons ru (Vals.pick r pm)
theorem RWs.pick {K : PySem.W.Frag} {wd : Wd} {as : List Vl} {vs : List V} (r : RWs K wd as vs) : ∀ pm : List Nat, RWs K wd (Ev.pick pm as) (Ev.pick pm vs)
  | [] => rfl
  | i :: pm => by
    rw [pick_cons, pick_cons]
    cases e : as[i]? with
    | none =>
      have : vs[i]? = none := by
        rw [List.getElem?_eq_none_iff] at e ⊢
        rw [← r.length]; exact e
      rw [this]; exact RWs.pick r pm
    | some v =>
      obtain ⟨u, eu, ru⟩ := r.get e
      rw [eu]; exact ⟨u, _, rfl, ru, RWs.pick r pm⟩
/-- a def that is called with n values by place, the keywords ks, and its own defaults dfl -/
structure GFn (g : G) (f : Addr) (n : Nat) (ks : List Str) (pm : List Nat) (dfl : List D) (F : FV) : Prop where
  ex : ∃ fd ps k ds dvs, FnOk g.P g.w g.K g.mg g.base (L2.CX g.P g.w) k f fd ps (spF g.K g.cls ps.length F) ∧ k ≤ g.k ∧ PySem.W.keepIn g.K (.ref f) = true ∧ Vals dvs ds ∧ (∀ wd, RDs g.K wd dfl dvs) ∧
    (∀ (s : Shared) (us ws : List Value), g.K.In s.heap → us.length = n → ws.length = ks.length → BindsTo s fd ⟨us, ks.zip ws⟩ (ps.zip (pick pm (us ++ (ws ++ ds))))) ∧ ∀ args S, args.length ≠ ps.length → F args S = .bad
/-- .. a maker: the new object stays ahead -/
structure GMk (g : G) (f : Addr) (n : Nat) (ks : List Str) (pm : List Nat) (dfl : List D) (F : FV) : Prop where
  ex : ∃ fd ps k ds dvs, FnOk g.P g.w g.K g.mg g.base (L2.CX g.P g.w) k f fd ps (spF g.K g.cls ps.length F) ∧ k ≤ g.k ∧ Vals dvs ds ∧ (∀ wd, RDs g.K wd dfl dvs) ∧
    (∀ (s : Shared) (u : Value) (us ws : List Value), g.K.In s.heap → us.length = n → ws.length = ks.length → BindsTo s fd ⟨u :: us, ks.zip ws⟩ (ps.zip (u :: pick pm (us ++ (ws ++ ds))))) ∧ ∀ args S, args.length ≠ ps.length → F args S = .bad
section
variable {X : Cx} {CX : CXT} {k : Nat} {f C : Addr} {fd : FuncData} {ps ks : List Str} {pm : List Nat} {n : Nat} {sp : Sp} {dvs : List V} {ds : List Value} {E : L2.St → XK} {x : Str} {p pos : Pos} {e : Expr} {es : List Expr} {kws : List Keyword} {t tk : TA}
def tG (sp : Sp) (n m : Nat) (pm : List Nat) (dvs : List V) (E : L2.St → XK) (t tk : TA) : TE := fun σ H Q => t σ H fun vs H1 => tk σ H1 fun zs H2 => vs.length = n ∧ zs.length = m ∧ sp (pick pm (vs ++ (zs ++ dvs))) H2 Q (E σ)
theorem run_g {pins : List (Addr × Obj)} {σ : L2.St} {H : Hp} {s : Shared} {Q : VK} {us ws : List Value} {vs zs : List V} (F : FnOk X.prog X.w X.K X.mg X.base CX k f fd ps sp) (hr : Room k X.A) (hd : Vals dvs ds) (hx : PassesAt CX X σ (E σ))
    (hb : BindsTo s fd ⟨us, ks.zip ws⟩ (ps.zip (pick pm (us ++ (ws ++ ds))))) (I : Inv X pins σ H s) (r : Vals vs us) (rz : Vals zs ws) (h : sp (pick pm (vs ++ (zs ++ dvs))) H Q (E σ)) : wpAny (model X.prog X.w) X.A (call (.ref f) us (ks.zip ws)) (EP X pins σ Q) X.xe s := by
  have all := Vals.pick (r.append (rz.append hd)) pm
  refine wpAny_call (codeAny_mono (F.run X.A X.stack s H ⟨us, ks.zip ws⟩ _ _ Q (E σ) hr I.env0 hb all h) fun res s3 h3 => ?_)
  match res, h3 with
  | .error err, h3 => exact hx pins H s err s3 I h3
  | .ok (.ret u), h3 => exact I.after h3
  | .ok .next, h3 => exact h3.elim
  | .ok .brk, h3 => exact h3.elim
  | .ok .cont, h3 => exact h3.elim
abbrev BndG (X : Cx) (fd : FuncData) (ps : List Str) (n : Nat) (ks : List Str) (pm : List Nat) (ds : List Value) : Prop := ∀ (s : Shared) (us ws : List Value), X.K.In s.heap → us.length = n → ws.length = ks.length → BindsTo s fd ⟨us, ks.zip ws⟩ (ps.zip (pick pm (us ++ (ws ++ ds))))
/-- f(e, .., k = ..) -/
theorem pe_gkw (F : FnOk X.prog X.w X.K X.mg X.base CX k f fd ps sp) (hr : Room k X.A) (hg : Gl X x) (hm : X.mg x = some (.ref f)) (kp : PySem.W.keepIn X.K (.ref f) = true) (hd : Vals dvs ds) (hx : ∀ σ, PassesAt CX X σ (E σ)) (hb : BndG X fd ps n ks pm ds)
    (hargs : PA X (e :: es) t) (hkw : PK X kws tk) (hdb : (x == ("__debug__" : Str)) = false) (hall : (backToKw pos (keywordEach kws X.env)).all (·.1.isSome) = true) (hks : (backToKw pos (keywordEach kws X.env)).filterMap (·.1) = ks)
    (h1 : starEach (e :: es) X.env = (false, eval e X.env) :: starEach es X.env) (h2 : ((backTo pos (starEach (e :: es) X.env)).any (·.1) || (backToKw pos (keywordEach kws X.env)).any (·.1.isNone)) = false) :
    PE X (.Call (.Name x p) (e :: es) kws pos) (tG sp n ks.length pm dvs E t tk) := by
  refine ⟨fun pins s σ H Q I hq => wpAny_Call_Name_kw (ld_glob I hg hm (PySem.W.callWith_KW (h₀ := X.base) I.ok.mod.kin kp hall
    (thn (hargs.run pos pins s σ H _ I hq) fun us s1 q1 => ?_) h2 h1) hdb)⟩
  obtain ⟨vs, H1, I1, r, q1⟩ := q1
  refine thn (hkw.run pos pins s1 σ H1 _ I1 q1) fun ws s2 q2 => ?_
  obtain ⟨zs, H2, I2, rz, l1, l2, q2⟩ := q2
  refine ⟨I2.kIn, ?_⟩
  rw [hks]
  exact run_g F hr hd (hx σ) (hb s2 us ws I2.kIn (r.length.symm.trans l1) (rz.length.symm.trans l2)) I2 r rz q2
/-- f(k = ..) -/
theorem pe_gkw0 (F : FnOk X.prog X.w X.K X.mg X.base CX k f fd ps sp) (hr : Room k X.A) (hg : Gl X x) (hm : X.mg x = some (.ref f)) (kp : PySem.W.keepIn X.K (.ref f) = true) (hd : Vals dvs ds) (hx : ∀ σ, PassesAt CX X σ (E σ)) (hb : BndG X fd ps 0 ks pm ds)
    (hkw : PK X kws tk) (hdb : (x == ("__debug__" : Str)) = false) (hall : (backToKw pos (keywordEach kws X.env)).all (·.1.isSome) = true) (hks : (backToKw pos (keywordEach kws X.env)).filterMap (·.1) = ks)
    (h2 : ((backTo pos (starEach [] X.env)).any (·.1) || (backToKw pos (keywordEach kws X.env)).any (·.1.isNone)) = false) : PE X (.Call (.Name x p) [] kws pos) (tG sp 0 ks.length pm dvs E tNil tk) := by
  refine ⟨fun pins s σ H Q I hq => wpAny_Call_Name_kw (ld_glob I hg hm (PySem.W.callWith_KW0 (h₀ := X.base) I.ok.mod.kin kp hall
    (thn (hkw.run pos pins s σ H _ I hq) fun ws s2 q2 => ?_) h2) hdb)⟩
  obtain ⟨zs, H2, I2, rz, l1, l2, q2⟩ := q2
  refine ⟨I2.kIn, ?_⟩
  rw [hks]
  exact run_g (us := []) F hr hd (hx σ) (hb s2 [] ws I2.kIn rfl (rz.length.symm.trans l2)) I2 .nil rz q2
/-- f(e, ..), the rest by the defaults -/
theorem pe_gp (F : FnOk X.prog X.w X.K X.mg X.base CX k f fd ps sp) (hr : Room k X.A) (hg : Gl X x) (hm : X.mg x = some (.ref f)) (kp : PySem.W.keepIn X.K (.ref f) = true) (hd : Vals dvs ds) (hx : ∀ σ, PassesAt CX X σ (E σ)) (hb : BndG X fd ps n [] pm ds)
    (hargs : PA X (e :: es) t) (hdb : (x == ("__debug__" : Str)) = false) (h1 : starEach (e :: es) X.env = (false, eval e X.env) :: starEach es X.env) (h2 : (backTo pos (starEach es X.env)).any (·.1) = false) :
    PE X (.Call (.Name x p) (e :: es) [] pos) (tG sp n 0 pm dvs E t tNil) := by
  refine ⟨fun pins s σ H Q I hq => wpAny_Call_Name_kw (ld_glob I hg hm (PySem.W.callWith_K (h₀ := X.base) I.ok.mod.kin kp
    (thn (hargs.run pos pins s σ H _ I hq) fun us s1 q1 => ?_) h1 h2) hdb)⟩
  obtain ⟨vs, H1, I1, r, l1, l2, q1⟩ := q1
  exact ⟨I1.kIn, run_g (ks := []) (ws := []) F hr hd (hx σ) (hb s1 us [] I1.kIn (r.length.symm.trans l1) rfl) I1 r .nil q1⟩
/-! makers -/
def tGM (C : Addr) (n m : Nat) (pm : List Nat) (dvs : List V) (sp : Sp) (E : L2.St → XK) (t tk : TA) : TE := fun σ H Q => t σ H fun vs H1 => tk σ H1 fun zs H2 => vs.length = n ∧ zs.length = m ∧
  ∀ x dx, H2 x = none → H2 dx = none → dx ≠ x → sp (.ref x :: pick pm (vs ++ (zs ++ dvs))) (upd (upd H2 dx (.own x)) x (.ins C dx [])) (fun v H3 => v = .non ∧ Q (.ref x) H3) (E σ)
abbrev BndM (X : Cx) (fd : FuncData) (ps : List Str) (n : Nat) (ks : List Str) (pm : List Nat) (ds : List Value) : Prop := ∀ (s : Shared) (u : Value) (us ws : List Value), X.K.In s.heap → us.length = n → ws.length = ks.length → BindsTo s fd ⟨u :: us, ks.zip ws⟩ (ps.zip (u :: pick pm (us ++ (ws ++ ds))))
theorem pe_mg (M : Mk X.K C f) (F : FnOk X.prog X.w X.K X.mg X.base CX k f fd ps sp) (room : Room (k + 1) X.A) (hg : Gl X x) (hm : X.mg x = some (.ref C)) (hd : Vals dvs ds) (hx : ∀ σ, PassesAt CX X σ (E σ)) (hb : BndM X fd ps n ks pm ds)
    (hargs : PA X (e :: es) t) (hkw : PK X kws tk) (hdb : (x == ("__debug__" : Str)) = false) (hall : (backToKw pos (keywordEach kws X.env)).all (·.1.isSome) = true) (hks : (backToKw pos (keywordEach kws X.env)).filterMap (·.1) = ks)
    (h1 : starEach (e :: es) X.env = (false, eval e X.env) :: starEach es X.env) (h2 : ((backTo pos (starEach (e :: es) X.env)).any (·.1) || (backToKw pos (keywordEach kws X.env)).any (·.1.isNone)) = false) :
    PE X (.Call (.Name x p) (e :: es) kws pos) (tGM C n ks.length pm dvs sp E t tk) := by
  refine ⟨fun pins s σ H Q I hq => wpAny_Call_Name_kw (ld_glob I hg hm (PySem.W.callWith_KW (h₀ := X.base) I.ok.mod.kin M.kp hall
    (thn (hargs.run pos pins s σ H _ I hq) fun us s1 q1 => ?_) h2 h1) hdb)⟩
  obtain ⟨vs, H1, I1, r, q1⟩ := q1
  refine thn (hkw.run pos pins s1 σ H1 _ I1 q1) fun ws s2 q2 => ?_
  obtain ⟨zs, H2, I2, rz, l1, l2, q2⟩ := q2
  refine ⟨I2.kIn, ?_⟩
  rw [hks]
  exact run_mk (args := ⟨us, ks.zip ws⟩) M F room (hx σ) I2 (fun s3 k3 => hb s3 _ us ws k3 (r.length.symm.trans l1) (rz.length.symm.trans l2)) (Vals.pick (r.append (rz.append hd)) pm) q2
theorem pe_mg0 (M : Mk X.K C f) (F : FnOk X.prog X.w X.K X.mg X.base CX k f fd ps sp) (room : Room (k + 1) X.A) (hg : Gl X x) (hm : X.mg x = some (.ref C)) (hd : Vals dvs ds) (hx : ∀ σ, PassesAt CX X σ (E σ)) (hb : BndM X fd ps 0 ks pm ds)
    (hkw : PK X kws tk) (hdb : (x == ("__debug__" : Str)) = false) (hall : (backToKw pos (keywordEach kws X.env)).all (·.1.isSome) = true) (hks : (backToKw pos (keywordEach kws X.env)).filterMap (·.1) = ks)
    (h2 : ((backTo pos (starEach [] X.env)).any (·.1) || (backToKw pos (keywordEach kws X.env)).any (·.1.isNone)) = false) : PE X (.Call (.Name x p) [] kws pos) (tGM C 0 ks.length pm dvs sp E tNil tk) := by
  refine ⟨fun pins s σ H Q I hq => wpAny_Call_Name_kw (ld_glob I hg hm (PySem.W.callWith_KW0 (h₀ := X.base) I.ok.mod.kin M.kp hall
    (thn (hkw.run pos pins s σ H _ I hq) fun ws s2 q2 => ?_) h2) hdb)⟩
  obtain ⟨zs, H2, I2, rz, l1, l2, q2⟩ := q2
  refine ⟨I2.kIn, ?_⟩
  rw [hks]
  exact run_mk (args := ⟨[], ks.zip ws⟩) M F room (hx σ) I2 (fun s3 k3 => hb s3 _ [] ws k3 rfl (rz.length.symm.trans l2)) (Vals.pick ((show Vals [] [] from .nil).append (rz.append hd)) pm) q2
theorem pe_mgp (M : Mk X.K C f) (F : FnOk X.prog X.w X.K X.mg X.base CX k f fd ps sp) (room : Room (k + 1) X.A) (hg : Gl X x) (hm : X.mg x = some (.ref C)) (hd : Vals dvs ds) (hx : ∀ σ, PassesAt CX X σ (E σ)) (hb : BndM X fd ps n [] pm ds)
    (hargs : PA X (e :: es) t) (hdb : (x == ("__debug__" : Str)) = false) (h1 : starEach (e :: es) X.env = (false, eval e X.env) :: starEach es X.env) (h2 : (backTo pos (starEach es X.env)).any (·.1) = false) :
    PE X (.Call (.Name x p) (e :: es) [] pos) (tGM C n 0 pm dvs sp E t tNil) := by
  refine ⟨fun pins s σ H Q I hq => wpAny_Call_Name_kw (ld_glob I hg hm (PySem.W.callWith_K (h₀ := X.base) I.ok.mod.kin M.kp
    (thn (hargs.run pos pins s σ H _ I hq) fun us s1 q1 => ?_) h1 h2) hdb)⟩
  obtain ⟨vs, H1, I1, r, l1, l2, q1⟩ := q1
  exact ⟨I1.kIn, run_mk (args := ⟨us, []⟩) M F room (hx σ) I1 (fun s3 k3 => hb s3 _ us [] k3 (r.length.symm.trans l1) rfl) (Vals.pick (r.append ((show Vals [] [] from .nil).append hd)) pm) q1⟩
end
section
variable {g : G} {f : Addr} {n k0 : Nat} {ks : List Str} {pm : List Nat} {dfl : List D} {F : FV} {pos p : Pos} {e : Expr} {es : List Expr} {kws : List Keyword} {Ts Tk : EVs} {x : Str}
@[simp] noncomputable def eCallG (F : FV) (n m : Nat) (pm : List Nat) (dfl : List D) (Ts Tk : EVs) : EV := fun σ S => (Ts σ S).bind fun vs S1 => (Tk σ S1).bind fun ws S2 => if vs.length = n ∧ ws.length = m then F (pick pm (vs ++ (ws ++ dfl.map .d))) S2 else .bad
@[simp] noncomputable def eMakeG (c : String) (F : FV) (n m : Nat) (pm : List Nat) (dfl : List D) (Ts Tk : EVs) : EV := fun σ S => (Ts σ S).bind fun vs S1 => (Tk σ S1).bind fun ws S2 => if vs.length = n ∧ ws.length = m then mkF c F (pick pm (vs ++ (ws ++ dfl.map .d))) S2 else .bad
theorem g_read {W : WX} {σ : L2.St} {H : Hp} {Q : VK} {dvs : List V} {ps : List Str} {m : Nat} (hd : ∀ wd, RDs g.K wd dfl dvs) (har : ∀ args S, args.length ≠ ps.length → F args S = .bad) (h : LE g.K g.cls W (eCallG F n m pm dfl Ts Tk) σ H Q) :
    tG (spF g.K g.cls ps.length F) n m pm dvs (WE W) (LA g.K g.cls W Ts) (LA g.K g.cls W Tk) σ H Q := by
  obtain ⟨wd, σ', S, hs, hh, h⟩ := h
  refine ⟨wd, σ', S, hs, hh, ?_⟩
  have h1 := OkA_bindE h
  revert h1
  cases Ts σ' S with
  | exc c fs S1 => exact fun h => h
  | bad => exact fun h => h
  | ok vs S1 =>
    intro h1 wd1 xs H1 l hr1 rv
    obtain ⟨v1, wd2, S2, l2, hr2, rw2, h2⟩ := h1 wd1 xs H1 l hr1 rv
    refine ⟨wd2, σ', S2, hs.mono l2, hr2, ?_⟩
    have h3 := OkA_bindE h2
    revert h3
    cases Tk σ' S2 with
    | exc c fs S1 => exact fun h => h
    | bad => exact fun h => h
    | ok ws S3 =>
      intro h3 wd3 ys H3 l3 hr3 rv3
      obtain ⟨v4, wd4, S4, l4, hr4, rw4, h4⟩ := h3 wd3 ys H3 l3 hr3 rv3
      split at h4
      · rename_i hl
        exact ⟨rw2.length ▸ hl.1, rw4.length ▸ hl.2, sp_of hr4 (RWs.pick ((rw2.mono l4).append (rw4.append (RWs.ofD (hd wd4)))) pm) har h4⟩
      · exact h4.elim
theorem gm_read {c : String} {W : WX} {σ : L2.St} {H : Hp} {Q : VK} {dvs : List V} {ps : List Str} {m : Nat} (hd : ∀ wd, RDs g.K wd dfl dvs) (har : ∀ args S, args.length ≠ ps.length → F args S = .bad) (h : LE g.K g.cls W (eMakeG c F n m pm dfl Ts Tk) σ H Q) :
    tGM (g.cls c) n m pm dvs (spF g.K g.cls ps.length F) (WE W) (LA g.K g.cls W Ts) (LA g.K g.cls W Tk) σ H Q := by
  obtain ⟨wd, σ', S, hs, hh, h⟩ := h
  refine ⟨wd, σ', S, hs, hh, ?_⟩
  have h1 := OkA_bindE h
  revert h1
  cases Ts σ' S with
  | exc c fs S1 => exact fun h => h
  | bad => exact fun h => h
  | ok vs S1 =>
    intro h1 wd1 xs H1 l hr1 rv
    obtain ⟨v1, wd2, S2, l2, hr2, rw2, h2⟩ := h1 wd1 xs H1 l hr1 rv
    refine ⟨wd2, σ', S2, hs.mono l2, hr2, ?_⟩
    have h3 := OkA_bindE h2
    revert h3
    cases Tk σ' S2 with
    | exc c fs S1 => exact fun h => h
    | bad => exact fun h => h
    | ok ws S3 =>
      intro h3 wd3 ys H3 l3 hr3 rv3
      obtain ⟨v4, wd4, S4, l4, hr4, rw4, h4⟩ := h3 wd3 ys H3 l3 hr3 rv3
      split at h4
      · rename_i hl
        exact ⟨rw2.length ▸ hl.1, rw4.length ▸ hl.2, mk_read hr4 (RWs.pick ((rw2.mono l4).append (rw4.append (RWs.ofD (hd wd4)))) pm) har h4⟩
      · exact h4.elim
theorem passG {X : Cx} {W : WX} (hX : Good g X) (tk : Takes X W) : ∀ σ, PassesAt (L2.CX g.P g.w) X σ (WE W σ) := fun σ => by
  have := passAt tk σ
  rw [hX.P, hX.w] at this; exact this
theorem noArgs {X : Cx} {W : WX} {σ : L2.St} {H : Hp} {Q : List V → Hp → Prop} (h : LA g.K g.cls W aNil σ H Q) : Q [] H := by
  obtain ⟨wd, σ', S, hs, hh, h⟩ := h
  exact h wd [] H (.refl _) hh rfl
theorem je_gkw (h : GFn g f n ks pm dfl F) (hg : GlS g x) (hm : g.mg x = some (.ref f)) (ha : JA g (e :: es) Ts) (hkw : JK g kws Tk) (hdb : (x == ("__debug__" : Str)) = false := by decide)
    (hall : ∀ env, (backToKw pos (keywordEach kws env)).all (·.1.isSome) = true := by intro _; rfl) (hks : ∀ env, (backToKw pos (keywordEach kws env)).filterMap (·.1) = ks := by intro _; rfl) (h1 : ∀ env, starEach (e :: es) env = (false, eval e env) :: starEach es env := by intro _; rfl)
    (h2 : ∀ env, ((backTo pos (starEach (e :: es) env)).any (·.1) || (backToKw pos (keywordEach kws env)).any (·.1.isNone)) = false := by intro _; rfl) : JE g (.Call (.Name x p) (e :: es) kws pos) (eCallG F n ks.length pm dfl Ts Tk) := fun X hX W tk => by
  obtain ⟨fd, ps, k, ds, dvs, hF, hk, kp, hd, hdl, hb, har⟩ := h.ex
  exact (pe_gkw (E := WE W) (FnOk.to hX hF) (hX.room.mono hk) (gl_of hX hg) (by rw [hX.mg]; exact hm) (by rw [hX.K]; exact kp) hd (passG hX tk) (by rw [BndG, hX.K]; exact hb) (ha X hX W tk) (hkw X hX W tk) hdb (hall X.env) (hks X.env) (h1 X.env) (h2 X.env)).imp fun σ H Q q => g_read hdl har q
theorem je_gkw0 (h : GFn g f 0 ks pm dfl F) (hg : GlS g x) (hm : g.mg x = some (.ref f)) (hkw : JK g kws Tk) (hdb : (x == ("__debug__" : Str)) = false := by decide)
    (hall : ∀ env, (backToKw pos (keywordEach kws env)).all (·.1.isSome) = true := by intro _; rfl) (hks : ∀ env, (backToKw pos (keywordEach kws env)).filterMap (·.1) = ks := by intro _; rfl)
    (h2 : ∀ env, ((backTo pos (starEach [] env)).any (·.1) || (backToKw pos (keywordEach kws env)).any (·.1.isNone)) = false := by intro _; rfl) : JE g (.Call (.Name x p) [] kws pos) (eCallG F 0 ks.length pm dfl aNil Tk) := fun X hX W tk => by
  obtain ⟨fd, ps, k, ds, dvs, hF, hk, kp, hd, hdl, hb, har⟩ := h.ex
  exact (pe_gkw0 (E := WE W) (FnOk.to hX hF) (hX.room.mono hk) (gl_of hX hg) (by rw [hX.mg]; exact hm) (by rw [hX.K]; exact kp) hd (passG hX tk) (by rw [BndG, hX.K]; exact hb) (hkw X hX W tk) hdb (hall X.env) (hks X.env) (h2 X.env)).imp fun σ H Q q => noArgs (X := X) (W := W) (g := g) (g_read hdl har q)
theorem je_gp (h : GFn g f n [] pm dfl F) (hg : GlS g x) (hm : g.mg x = some (.ref f)) (ha : JA g (e :: es) Ts) (hdb : (x == ("__debug__" : Str)) = false := by decide)
    (h1 : ∀ env, starEach (e :: es) env = (false, eval e env) :: starEach es env := by intro _; rfl) (h2 : ∀ env, (backTo pos (starEach es env)).any (·.1) = false := by intro _; rfl) : JE g (.Call (.Name x p) (e :: es) [] pos) (eCallG F n 0 pm dfl Ts aNil) := fun X hX W tk => by
  obtain ⟨fd, ps, k, ds, dvs, hF, hk, kp, hd, hdl, hb, har⟩ := h.ex
  refine (pe_gp (E := WE W) (FnOk.to hX hF) (hX.room.mono hk) (gl_of hX hg) (by rw [hX.mg]; exact hm) (by rw [hX.K]; exact kp) hd (passG hX tk) (by rw [BndG, hX.K]; exact hb) (ha X hX W tk) hdb (h1 X.env) (h2 X.env)).imp fun σ H Q q => ?_
  have q := g_read hdl har q
  obtain ⟨wd, σ', S, a1, a2, a3⟩ := q
  refine ⟨wd, σ', S, a1, a2, ?_⟩
  revert a3
  cases Ts σ' S with
  | exc c fs S1 => exact fun h => h
  | bad => exact fun h => h
  | ok vs S1 => exact fun a3 wd1 x H1 l hr rv => noArgs (X := X) (W := W) (g := g) (a3 wd1 x H1 l hr rv)
theorem je_mg (c : String) (h : GMk { g with k := k0 } f n ks pm dfl F) (hk0 : k0 + 1 ≤ g.k) (M : Mk g.K (g.cls c) f) (hg : GlS g x) (hm : g.mg x = some (.ref (g.cls c))) (ha : JA g (e :: es) Ts) (hkw : JK g kws Tk) (hdb : (x == ("__debug__" : Str)) = false := by decide)
    (hall : ∀ env, (backToKw pos (keywordEach kws env)).all (·.1.isSome) = true := by intro _; rfl) (hks : ∀ env, (backToKw pos (keywordEach kws env)).filterMap (·.1) = ks := by intro _; rfl) (h1 : ∀ env, starEach (e :: es) env = (false, eval e env) :: starEach es env := by intro _; rfl)
    (h2 : ∀ env, ((backTo pos (starEach (e :: es) env)).any (·.1) || (backToKw pos (keywordEach kws env)).any (·.1.isNone)) = false := by intro _; rfl) : JE g (.Call (.Name x p) (e :: es) kws pos) (eMakeG c F n ks.length pm dfl Ts Tk) := fun X hX W tk => by
  obtain ⟨fd, ps, k, ds, dvs, hF, hk, hd, hdl, hb, har⟩ := h.ex
  exact (pe_mg (C := g.cls c) (E := WE W) (by rw [hX.K]; exact M) (FnOk.to hX hF) (hX.room.mono (Nat.le_trans (Nat.succ_le_succ hk) hk0)) (gl_of hX hg) (by rw [hX.mg]; exact hm) hd (passG (g := g) hX tk) (by rw [BndM, hX.K]; exact hb) (ha X hX W tk) (hkw X hX W tk) hdb (hall X.env) (hks X.env) (h1 X.env) (h2 X.env)).imp fun σ H Q q => gm_read hdl har q
theorem je_mg0 (c : String) (h : GMk { g with k := k0 } f 0 ks pm dfl F) (hk0 : k0 + 1 ≤ g.k) (M : Mk g.K (g.cls c) f) (hg : GlS g x) (hm : g.mg x = some (.ref (g.cls c))) (hkw : JK g kws Tk) (hdb : (x == ("__debug__" : Str)) = false := by decide)
    (hall : ∀ env, (backToKw pos (keywordEach kws env)).all (·.1.isSome) = true := by intro _; rfl) (hks : ∀ env, (backToKw pos (keywordEach kws env)).filterMap (·.1) = ks := by intro _; rfl)
    (h2 : ∀ env, ((backTo pos (starEach [] env)).any (·.1) || (backToKw pos (keywordEach kws env)).any (·.1.isNone)) = false := by intro _; rfl) : JE g (.Call (.Name x p) [] kws pos) (eMakeG c F 0 ks.length pm dfl aNil Tk) := fun X hX W tk => by
  obtain ⟨fd, ps, k, ds, dvs, hF, hk, hd, hdl, hb, har⟩ := h.ex
  exact (pe_mg0 (C := g.cls c) (E := WE W) (by rw [hX.K]; exact M) (FnOk.to hX hF) (hX.room.mono (Nat.le_trans (Nat.succ_le_succ hk) hk0)) (gl_of hX hg) (by rw [hX.mg]; exact hm) hd (passG (g := g) hX tk) (by rw [BndM, hX.K]; exact hb) (hkw X hX W tk) hdb (hall X.env) (hks X.env) (h2 X.env)).imp fun σ H Q q => noArgs (X := X) (W := W) (g := g) (gm_read hdl har q)
theorem je_mgp (c : String) (h : GMk { g with k := k0 } f n [] pm dfl F) (hk0 : k0 + 1 ≤ g.k) (M : Mk g.K (g.cls c) f) (hg : GlS g x) (hm : g.mg x = some (.ref (g.cls c))) (ha : JA g (e :: es) Ts) (hdb : (x == ("__debug__" : Str)) = false := by decide)
    (h1 : ∀ env, starEach (e :: es) env = (false, eval e env) :: starEach es env := by intro _; rfl) (h2 : ∀ env, (backTo pos (starEach es env)).any (·.1) = false := by intro _; rfl) : JE g (.Call (.Name x p) (e :: es) [] pos) (eMakeG c F n 0 pm dfl Ts aNil) := fun X hX W tk => by
  obtain ⟨fd, ps, k, ds, dvs, hF, hk, hd, hdl, hb, har⟩ := h.ex
  refine (pe_mgp (C := g.cls c) (E := WE W) (by rw [hX.K]; exact M) (FnOk.to hX hF) (hX.room.mono (Nat.le_trans (Nat.succ_le_succ hk) hk0)) (gl_of hX hg) (by rw [hX.mg]; exact hm) hd (passG (g := g) hX tk) (by rw [BndM, hX.K]; exact hb) (ha X hX W tk) hdb (h1 X.env) (h2 X.env)).imp fun σ H Q q => ?_
  have q := gm_read hdl har q
  obtain ⟨wd, σ', S, a1, a2, a3⟩ := q
  refine ⟨wd, σ', S, a1, a2, ?_⟩
  revert a3
  cases Ts σ' S with
  | exc c fs S1 => exact fun h => h
  | bad => exact fun h => h
  | ok vs S1 => exact fun a3 wd1 x H1 l hr rv => noArgs (X := X) (W := W) (g := g) (a3 wd1 x H1 l hr rv)
end
section
variable {fa : List He.Fa} {fn : List He.DefD} {xs : XSpec} {g : G}
/-! by the def's place -/
theorem gfn_at {d : He.DefD} {N ps : List Str} {k0 n : Nat} {ks : List Str} {pm : List Nat} {T : SV} (E : EnvE fa fn xs g) (i : Nat) (hd : fn[i]? = some d) (h0 : d.dfl = []) (hk0 : d.kwd = []) (S : FnScope N ps d.scope) (hT : JSs (g.at_ k0 N d.scope) d.body T)
    (bind : ∀ (kV doc pm_ : Value) (an : Option Addr) (cdv ct : Value) (us ws : List Value), us.length = n → ws.length = ks.length → bindArgs (PySem.W.fnOf d.name d.qual d.params d.body d.scope .none kV doc pm_ an cdv ct) ⟨us, ks.zip ws⟩ = pure (ps.zip (pick pm (us ++ (ws ++ []))))) (hk : k0 + 1 ≤ g.k) :
    GFn g (He.fAd g.K d.at_) n ks pm [] (mkFn ps.length (N.length - ps.length) T) := by
  obtain ⟨fd, F⟩ := E.c.def_ i hd
  have e1 : d.dvs g.K = [] := by unfold He.DefD.dvs; rw [h0]; rfl
  have e2 : d.kws g.K = [] := by unfold He.DefD.kws; rw [hk0]; rfl
  rw [e1, e2] at F
  refine ⟨fd, ps, k0 + 1, [], [], fn_ok F S hT, hk, F.kp, .nil, fun _ => by simp [RDs], ?_, fun args S h => ?_⟩
  · obtain ⟨oc, od, dV, kV, doc, pm_, an, cdv, ct, osl, rfl, lk, hcd, hD, hK⟩ := F.ex
    rcases hD with ⟨_, rfl⟩ | ⟨e, _⟩
    · exact fun s us ws _ l1 l2 => .of_eq (bind kV doc pm_ an cdv ct us ws l1 l2)
    · exact absurd rfl e
  · unfold mkFn
    rw [if_neg h]
theorem gmk_at {d : He.DefD} {N ps : List Str} {k0 n : Nat} {ks : List Str} {pm : List Nat} {T : SV} (E : EnvE fa fn xs g) (i : Nat) (hd : fn[i]? = some d) (h0 : d.dfl = []) (hk0 : d.kwd = []) (S : FnScope N ps d.scope) (hT : JSs (g.at_ k0 N d.scope) d.body T)
    (bind : ∀ (kV doc pm_ : Value) (an : Option Addr) (cdv ct u : Value) (us ws : List Value), us.length = n → ws.length = ks.length → bindArgs (PySem.W.fnOf d.name d.qual d.params d.body d.scope .none kV doc pm_ an cdv ct) ⟨u :: us, ks.zip ws⟩ = pure (ps.zip (u :: pick pm (us ++ (ws ++ []))))) (hk : k0 + 1 ≤ g.k) :
    GMk g (He.fAd g.K d.at_) n ks pm [] (mkFn ps.length (N.length - ps.length) T) := by
  obtain ⟨fd, F⟩ := E.c.def_ i hd
  have e1 : d.dvs g.K = [] := by unfold He.DefD.dvs; rw [h0]; rfl
  have e2 : d.kws g.K = [] := by unfold He.DefD.kws; rw [hk0]; rfl
  rw [e1, e2] at F
  refine ⟨fd, ps, k0 + 1, [], [], fn_ok F S hT, hk, .nil, fun _ => by simp [RDs], ?_, fun args S h => ?_⟩
  · obtain ⟨oc, od, dV, kV, doc, pm_, an, cdv, ct, osl, rfl, lk, hcd, hD, hK⟩ := F.ex
    rcases hD with ⟨_, rfl⟩ | ⟨e, _⟩
    · exact fun s u us ws _ l1 l2 => .of_eq (bind kV doc pm_ an cdv ct u us ws l1 l2)
    · exact absurd rfl e
  · unfold mkFn
    rw [if_neg h]
/-- with defaults: values of the text's top, or plain ones -/
theorem gfn_dfl {d : He.DefD} {N ps : List Str} {k0 n : Nat} {ks : List Str} {pm : List Nat} {dfl : List D} {T : SV} (E : EnvE fa fn xs g) (i : Nat) (hd : fn[i]? = some d) (h0 : d.dvs g.K ≠ []) (hk0 : d.kwd = []) (S : FnScope N ps d.scope) (hT : JSs (g.at_ k0 N d.scope) d.body T) (hdl : ∀ wd, RDs g.K wd dfl (d.dvs g.K))
    (bind : ∀ (A : Addr) (kV doc pm_ : Value) (an : Option Addr) (cdv ct : Value) (us ws its : List Value), us.length = n → ws.length = ks.length → its.length = (d.dvs g.K).length → ∃ k, bindArgs (PySem.W.fnOf d.name d.qual d.params d.body d.scope (.ref A) kV doc pm_ an cdv ct) ⟨us, ks.zip ws⟩ = seqItems? (.ref A) >>= k ∧ k (some its.toArray) = pure (ps.zip (pick pm (us ++ (ws ++ its))))) (hk : k0 + 1 ≤ g.k) :
    GFn g (He.fAd g.K d.at_) n ks pm dfl (mkFn ps.length (N.length - ps.length) T) := by
  obtain ⟨fd, F⟩ := E.c.def_ i hd
  have e2 : d.kws g.K = [] := by unfold He.DefD.kws; rw [hk0]; rfl
  rw [e2] at F
  have ok := fn_ok F S hT
  obtain ⟨oc, od, dV, kV, doc, pm_, an, cdv, ct, osl, rfl, lk, hcd, hD, hK⟩ := F.ex
  rcases hD with ⟨e, _⟩ | ⟨_, A, o, its, m, rfl, lA, oA, rA⟩
  · exact absurd e h0
  · refine ⟨_, ps, k0 + 1, its, d.dvs g.K, ok, hk, F.kp, rA, hdl, fun s us ws KI l1 l2 => ?_, fun args S h => ?_⟩
    · obtain ⟨k, e1, e3⟩ := bind A kV doc pm_ an cdv ct us ws its l1 l2 rA.length.symm
      refine BindsTo.of_looks fun M => ?_
      rw [e1]
      exact looks_items KI lA oA (.of_pure e3)
    · unfold mkFn
      rw [if_neg h]
theorem gmk_dfl {d : He.DefD} {N ps : List Str} {k0 n : Nat} {ks : List Str} {pm : List Nat} {dfl : List D} {T : SV} (E : EnvE fa fn xs g) (i : Nat) (hd : fn[i]? = some d) (h0 : d.dvs g.K ≠ []) (hk0 : d.kwd = []) (S : FnScope N ps d.scope) (hT : JSs (g.at_ k0 N d.scope) d.body T) (hdl : ∀ wd, RDs g.K wd dfl (d.dvs g.K))
    (bind : ∀ (A : Addr) (kV doc pm_ : Value) (an : Option Addr) (cdv ct u : Value) (us ws its : List Value), us.length = n → ws.length = ks.length → its.length = (d.dvs g.K).length → ∃ k, bindArgs (PySem.W.fnOf d.name d.qual d.params d.body d.scope (.ref A) kV doc pm_ an cdv ct) ⟨u :: us, ks.zip ws⟩ = seqItems? (.ref A) >>= k ∧ k (some its.toArray) = pure (ps.zip (u :: pick pm (us ++ (ws ++ its))))) (hk : k0 + 1 ≤ g.k) :
    GMk g (He.fAd g.K d.at_) n ks pm dfl (mkFn ps.length (N.length - ps.length) T) := by
  obtain ⟨fd, F⟩ := E.c.def_ i hd
  have e2 : d.kws g.K = [] := by unfold He.DefD.kws; rw [hk0]; rfl
  rw [e2] at F
  have ok := fn_ok F S hT
  obtain ⟨oc, od, dV, kV, doc, pm_, an, cdv, ct, osl, rfl, lk, hcd, hD, hK⟩ := F.ex
  rcases hD with ⟨e, _⟩ | ⟨_, A, o, its, m, rfl, lA, oA, rA⟩
  · exact absurd e h0
  · refine ⟨_, ps, k0 + 1, its, d.dvs g.K, ok, hk, rA, hdl, fun s u us ws KI l1 l2 => ?_, fun args S h => ?_⟩
    · obtain ⟨k, e1, e3⟩ := bind A kV doc pm_ an cdv ct u us ws its l1 l2 rA.length.symm
      refine BindsTo.of_looks fun M => ?_
      rw [e1]
      exact looks_items KI lA oA (.of_pure e3)
    · unfold mkFn
      rw [if_neg h]
end
end Ev

set_option Elab.async false
set_option linter.all false
set_option maxRecDepth 100000
set_option maxHeartbeats 1000000
/-! Ev25: operators of own classes, properties, isinstance. -/
namespace Ev
open PySem PySem.Spec PyProof.Rows L2
open Classical
/-! ### the hand layer's part -/
section
variable {X : Cx} {CX : CXT} {k : Nat} {f C : Addr} {fd : FuncData} {ps : List Str} {sp : Sp} {E : L2.St → XK} {p pos apos : Pos} {e a b o i value : Expr} {ta tb to ti tv : TE}
/-- every parameter is given by place -/
abbrev Bnd0 (K : PySem.W.Frag) (fd : FuncData) (ps : List Str) : Prop := ∀ (s : Shared) (us : List Value), K.In s.heap → us.length = ps.length → BindsTo s fd ⟨us, []⟩ (ps.zip us)
theorem run_own {A : Around} {pins : List (Addr × Obj)} {σ : L2.St} {H : Hp} {s : Shared} {Q : VK} {us : List Value} {vs : List V} (F : FnOk X.prog X.w X.K X.mg X.base CX k f fd ps sp) (hr : Room k A) (e0 : Env0 X.prog X.w X.K X.mg X.base A X.stack s H)
    (hb : Bnd0 X.K fd ps) (hx : PassesAt CX X σ (E σ)) (I : Inv X pins σ H s) (r : Vals vs us) (h : sp vs H Q (E σ)) : wpAny (model X.prog X.w) A (call (.ref f) us) (EP X pins σ Q) X.xe s := by
  have len : us.length = ps.length := by rw [← r.length]; exact F.len _ _ _ _ h
  refine wpAny_call (codeAny_mono (F.run A X.stack s H ⟨us, []⟩ us vs Q (E σ) hr e0 (hb s us I.kIn len) r h) fun res s3 h3 => ?_)
  match res, h3 with
  | .error err, h3 => exact hx pins H s err s3 I h3
  | .ok (.ret u), h3 => exact I.after h3
  | .ok .next, h3 => exact h3.elim
  | .ok .brk, h3 => exact h3.elim
  | .ok .cont, h3 => exact h3.elim
theorem inst_at {H : Hp} {s : Shared} {ad dx : Addr} {fs : List (Str × V)} {pins : List (Addr × Obj)} {σ : L2.St} (I : Inv X pins σ H s) (e : H ad = some (.ins C dx fs)) : ∃ ox od, PySem.W.InstAt s.heap ad ox C od := by
  obtain ⟨mA, O, _⟩ := ins_get I.hok e
  obtain ⟨od, J, _⟩ := O.look
  exact ⟨_, od, J⟩
/-- a def of a class for an operator -/
structure OwnOp (X : Cx) (CX : CXT) (E : L2.St → XK) (C : Addr) (m : Str) (f : Addr) (k : Nat) (fd : FuncData) (ps : List Str) (sp : Sp) : Prop where
  at_ : Meth X.K C m f
  F : FnOk X.prog X.w X.K X.mg X.base CX k f fd ps sp
  room : Room (k + 1) X.A
  bnd : Bnd0 X.K fd ps
  pass : ∀ σ, PassesAt CX X σ (E σ)
def tOwn2 (C : Addr) (sp : Sp) (E : L2.St → XK) (Ext : V → Hp → Prop) (ta tb : TE) : TE := fun σ H Q => ta σ H fun x H1 => tb σ H1 fun y H2 => ∃ ad dx fs, x = .ref ad ∧ H2 ad = some (.ins C dx fs) ∧ Ext y H2 ∧ sp [x, y] H2 Q (E σ)
theorem pe_own_eq (O : OwnOp X CX E C "__eq__" f k fd ps sp) (ha : PE X a ta) (hb : PE X b tb) (hm : behindInMarks .Eq b = false) : PE X (.Compare a [.Eq] [b] pos) (tOwn2 C sp E (fun y H => ∃ t, TyX X.K H y t ∧ PySem.W.notFirst X.K C t = true) ta tb) := by
  refine ⟨fun pins s σ H Q I h => wpAny_Compare1 (binT ha hb I h fun v u s2 x y H2 I2 rx ry q => ?_) hm⟩
  obtain ⟨ad, dx, fs, rfl, ea, ⟨t, ty, nf⟩, q⟩ := q
  obtain rfl : v = Value.ref ad := rx
  obtain ⟨ox, od, J⟩ := inst_at I2 ea
  obtain ⟨m, hF⟩ := I2.fr
  obtain ⟨Pz, Z, pz, _⟩ := kit_of I2 ry ty
  show wpAny _ _ (richCompare .Eq (.ref ad) u) _ _ _
  refine PySem.W.cmp_K (op := .Eq) (tb := t) (O.room.mono (Nat.le_succ k)).units0 hF I2.ok.mod.kin J (Z.ty _ _ I2.kIn pz) nf O.at_.at_ O.at_.fn ?_
  refine wpAny_mono (run_own (us := [.ref ad, u]) (vs := [.ref ad, y]) O.F (O.room.mono (Nat.le_succ k)) I2.env0 O.bnd (O.pass σ) I2 (.cons rfl (.cons ry .nil)) q) (fun w s3 z => ?_) fun _ _ x => x
  obtain ⟨z', H3, I3, rz, qz⟩ := z
  exact SlX.cmpback rz ⟨z', H3, I3, rz, qz⟩
theorem pe_own_add (O : OwnOp X CX E C "__add__" f k fd ps sp) (sf : PySem.W.selfFirst X.K C = true) (ha : PE X a ta) (hb : PE X b tb) : PE X (.BinOp a .Add b pos) (tOwn2 C sp E (fun y H => ∃ bd dy gs, y = .ref bd ∧ H bd = some (.ins C dy gs)) ta tb) := by
  refine ⟨fun pins s σ H Q I h => wpAny_BinOp (binT ha hb I h fun v u s2 x y H2 I2 rx ry q => ?_)⟩
  obtain ⟨ad, dx, fs, rfl, ea, ⟨bd, dy, gs, rfl, eb⟩, q⟩ := q
  obtain rfl : v = Value.ref ad := rx
  obtain rfl : u = Value.ref bd := ry
  obtain ⟨ox, od, J⟩ := inst_at I2 ea
  obtain ⟨oy, od2, J2⟩ := inst_at I2 eb
  obtain ⟨m, hF⟩ := I2.fr
  refine PySem.W.binop_K (op := .Add) hF I2.ok.mod.kin J J2.type sf O.at_.at_ O.at_.fn ?_
  refine wpAny_mono (run_own (us := [.ref ad, .ref bd]) (vs := [.ref ad, .ref bd]) O.F (O.room.mono (Nat.le_succ k)) I2.env0 O.bnd (O.pass σ) I2 (.cons rfl (.cons rfl .nil)) q) (fun w s3 z => ?_) fun _ _ x => x
  obtain ⟨z', H3, I3, rz, qz⟩ := z
  exact SlX.cmpback rz ⟨z', H3, I3, rz, qz⟩
theorem pe_own_get (O : OwnOp X CX E C "__getitem__" f k fd ps sp) (fi : PySem.W.fnIn X.K f = true) (ha : PE X a ta) (hb : PE X b tb) (hsl : ∀ o i, subscripted b true o i = runValue (.builtin "lifetime.subscript" ⟨[o, i], []⟩)) :
    PE X (.Subscript a b pos) (tOwn2 C sp E (fun _ _ => True) ta tb) := by
  refine ⟨fun pins s σ H Q I h => Subscript_ (binT ha hb I h fun v u s2 x y H2 I2 rx ry q => ?_)⟩
  obtain ⟨ad, dx, fs, rfl, ea, _, q⟩ := q
  obtain rfl : v = Value.ref ad := rx
  obtain ⟨ox, od, J⟩ := inst_at I2 ea
  obtain ⟨m, hF⟩ := I2.fr
  exact PySem.W.sub_K hF I2.ok.mod.kin J O.at_.at_ fi O.at_.fn (run_own (us := [.ref ad, u]) (vs := [.ref ad, y]) O.F O.room.in1 I2.env0.in1 O.bnd (O.pass σ) I2 (.cons rfl (.cons ry .nil)) q) (hsl _ _)
/-- a in b, b an instance -/
def tOwnIn (C : Addr) (sp : Sp) (E : L2.St → XK) (neg : Bool) (ta tb : TE) : TE := fun σ H Q => ta σ H fun x H1 => tb σ H1 fun y H2 => ∃ ad dx fs, y = .ref ad ∧ H2 ad = some (.ins C dx fs) ∧ sp [y, x] H2 (fun z H3 => ∃ c, z = .bl c ∧ Q (.bl (if neg = true then !c else c)) H3) (E σ)
theorem pe_own_in (O : OwnOp X CX E C "__contains__" f k fd ps sp) (ha : PE X a ta) (hb : PE X b tb) (hm : behindInMarks .In b = false) : PE X (.Compare a [.In] [b] pos) (tOwnIn C sp E false ta tb) := by
  refine ⟨fun pins s σ H Q I h => wpAny_Compare1 (binT ha hb I h fun v u s2 x y H2 I2 rx ry q => ?_) hm⟩
  obtain ⟨ad, dx, fs, rfl, ea, q⟩ := q
  obtain rfl : u = Value.ref ad := ry
  obtain ⟨ox, od, J⟩ := inst_at I2 ea
  obtain ⟨m, hF⟩ := I2.fr
  refine PySem.W.in_K hF I2.ok.mod.kin J O.at_.at_ O.at_.fn ?_
  refine wpAny_mono (run_own (us := [.ref ad, v]) (vs := [.ref ad, x]) O.F (O.room.mono (Nat.le_succ k)) I2.env0 O.bnd (O.pass σ) I2 (.cons rfl (.cons rx .nil)) q) (fun w s3 z => ?_) fun _ _ x => x
  obtain ⟨z', H3, I3, rz, c, rfl, qz⟩ := z
  obtain rfl : w = Value.bool c := rz
  exact wpAny_truthy_bool ⟨.bl c, H3, I3, rfl, by simpa using qz⟩
theorem pe_own_notIn (O : OwnOp X CX E C "__contains__" f k fd ps sp) (ha : PE X a ta) (hb : PE X b tb) (hm : behindInMarks .NotIn b = false) : PE X (.Compare a [.NotIn] [b] pos) (tOwnIn C sp E true ta tb) := by
  refine ⟨fun pins s σ H Q I h => wpAny_Compare1 (binT ha hb I h fun v u s2 x y H2 I2 rx ry q => ?_) hm⟩
  obtain ⟨ad, dx, fs, rfl, ea, q⟩ := q
  obtain rfl : u = Value.ref ad := ry
  obtain ⟨ox, od, J⟩ := inst_at I2 ea
  obtain ⟨m, hF⟩ := I2.fr
  refine PySem.W.notIn_K hF I2.ok.mod.kin J O.at_.at_ O.at_.fn ?_
  refine wpAny_mono (run_own (us := [.ref ad, v]) (vs := [.ref ad, x]) O.F (O.room.mono (Nat.le_succ k)) I2.env0 O.bnd (O.pass σ) I2 (.cons rfl (.cons rx .nil)) q) (fun w s3 z => ?_) fun _ _ x => x
  obtain ⟨z', H3, I3, rz, c, rfl, qz⟩ := z
  obtain rfl : w = Value.bool c := rz
  exact wpAny_truthy_bool ⟨.bl (!c), H3, I3, rfl, by simpa using qz⟩
/-- len(o) -/
def tOwnLen (C : Addr) (sp : Sp) (E : L2.St → XK) (ta : TE) : TE := fun σ H Q => ta σ H fun x H1 => ∃ ad dx fs, x = .ref ad ∧ H1 ad = some (.ins C dx fs) ∧ sp [x] H1 (fun z H2 => ∃ n : Int, z = .int n ∧ (0 ≤ n ∧ n < 2 ^ 63) ∧ Q (.int n) H2) (E σ)
theorem pe_own_len (O : OwnOp X CX E C "__len__" f k fd ps sp) (g1 : Gl X "len") (m1 : X.mg "len" = none) (ha : PE X a ta) (he : starEach [a] X.env = (false, eval a X.env) :: starEach [] X.env) : PE X (.Call (.Name "len" p) [a] [] pos) (tOwnLen C sp E ta) := by
  refine ⟨fun pins s σ H Q I h => Call_ (ld_blt I g1 m1 boot_len (PyProof.Rows.callWith_builtin1 (PyProof.Rows.args_cons (thn (ha.run pins s σ H _ I h) fun v s1 q => ?_) he) he rfl))⟩
  obtain ⟨x, H1, I1, rx, ad, dx, fs, rfl, ea, q⟩ := q
  obtain rfl : v = Value.ref ad := rx
  obtain ⟨ox, od, J⟩ := inst_at I1 ea
  obtain ⟨m, hF⟩ := I1.fr
  refine PyProof.Rows.args_nil (PySem.W.len_K hF I1.ok.mod.kin J O.at_.at_ O.at_.fn ?_)
  refine wpAny_mono (run_own (us := [.ref ad]) (vs := [.ref ad]) O.F O.room.in1 I1.env0.in1 O.bnd (O.pass σ) I1 (.cons rfl .nil) q) (fun w s3 z => ?_) fun _ _ x => x
  obtain ⟨z', H3, I3, rz, n, rfl, bd, qz⟩ := z
  obtain ⟨t, rfl⟩ := (show ∃ t, w = Value.int n t from rz)
  exact ⟨bd, .int n, H3, I3.tok _, ⟨_, rfl⟩, qz⟩
/-- o[i] = value -/
def sOwnPut (C : Addr) (sp : Sp) (E : L2.St → XK) (to ti tv : TE) : TS := fun D σ H => tv σ H fun v H1 => to σ H1 fun x H2 => ti σ H2 fun y H3 => ∃ ad dx fs, x = .ref ad ∧ H3 ad = some (.ins C dx fs) ∧ sp [x, y, v] H3 (fun _ H4 => D.nx σ H4) (E σ)
theorem ps_own_put {pos' : Pos} (O : OwnOp X CX E C "__setitem__" f k fd ps sp) (ns : PySem.W.noSeq X.K C = true) (ho : PE X o to) (hi : PE X i ti) (hv : PE X value tv) (hs : swapsWith value (some (.Subscript o i pos')) pos.line X.env = pure false) :
    PS X (.Assign [.Subscript o i pos'] value pos) (sOwnPut C sp E to ti tv) := by
  refine ⟨fun pins s σ H D I h => wpAny_Assign_Subscript (thn (hv.run pins s σ H _ I h) fun r s1 q1 => ?_) hs⟩
  obtain ⟨v, H1, I1, rv, q1⟩ := q1
  refine thn (ho.run pins s1 σ H1 _ I1 q1) fun u s2 q2 => ?_
  obtain ⟨x, H2, I2, rx, q2⟩ := q2
  refine thn (hi.run pins s2 σ H2 _ I2 q2) fun iv s3 q3 => ?_
  obtain ⟨y, H3, I3, ry, ad, dx, fs, rfl, ea, q⟩ := q3
  obtain rfl : u = Value.ref ad := rx
  obtain ⟨ox, od, J⟩ := inst_at I3 ea
  obtain ⟨m, hF⟩ := I3.fr
  refine PySem.W.ksp_setItem hF I3.ok.mod.kin J ns O.at_.at_ O.at_.fn ?_
  refine wpAny_mono (run_own (us := [.ref ad, iv, r]) (vs := [.ref ad, y, v]) O.F (O.room.mono (Nat.le_succ k)) I3.env0 O.bnd (O.pass σ) I3 (.cons rfl (.cons ry (.cons rv .nil))) q) (fun w s4 z => ?_) fun _ _ x => x
  obtain ⟨z', H4, I4, _, qz⟩ := z
  exact ⟨σ, H4, I4, qz⟩
end
/-! ### the types of values -/
inductive Ty where
  | b (n : String) | c (n : String)
deriving DecidableEq
def Ty.val (cls : String → Addr) : Ty → Value
  | .b n => .type n
  | .c n => .ref (cls n)
noncomputable def tyV (v : Vl) (S : Sta) : Option Ty := match v with
  | .d (.obj i) => match S.P[i]? with
    | some (.ins c _) => some (.c c)
    | some (.dic _) => some (.b "dict")
    | some (.dlk _) => some (.b "dict")
    | none => none
  | v => (tyN v S).map .b
/-- what is asked of a class whose instances' type is asked for -/
structure InsTy (K : PySem.W.Frag) (C : Addr) : Prop where
  cl : Cls K C
  ha : PySem.W.findIn K (.ref C) "__class__" = some (some (.builtin "object.__class__"))
  hn : PySem.W.specialIn K (.builtin "object.__class__") "__get__" = some (some (.builtin "getset_descriptor.__get__"))
  ht : PySem.W.takesIn K (.builtin "object.__class__") = some true
  hm : PySem.W.mroIn K C (.type "object") = some true
def insB (K : PySem.W.Frag) (C : Addr) : Bool := PySem.W.plainGet K C Str.empty && (PySem.W.hasDictIn K C && (PySem.W.plainOver K C && (decide (PySem.W.findIn K (.ref C) "__setattr__" = some (some (.builtin "object.__setattr__"))) &&
  (decide (PySem.W.findIn K (.ref C) "__class__" = some (some (.builtin "object.__class__"))) && (decide (PySem.W.specialIn K (.builtin "object.__class__") "__get__" = some (some (.builtin "getset_descriptor.__get__"))) &&
  (decide (PySem.W.takesIn K (.builtin "object.__class__") = some true) && decide (PySem.W.mroIn K C (.type "object") = some true)))))))
theorem insB_ok {K : PySem.W.Frag} {C : Addr} (h : insB K C = true) : InsTy K C := by
  unfold insB at h
  simp only [Bool.and_eq_true, decide_eq_true_eq] at h
  obtain ⟨a, b, c, d, e, f, g, i⟩ := h
  exact ⟨⟨a, b, c, d⟩, e, f, g, i⟩
theorem tyV_x {K cls wd H S v x t} (hh : HR K cls wd S H) (r : RW K wd v x) (hk : ∀ n, t = .c n → InsTy K (cls n)) (e : tyV v S = some t) : TyX K H x (t.val cls) := by
  unfold tyV at e
  split at e
  · rename_i i
    split at e
    · rename_i c fs ei
      cases e
      simp only [RW, RD] at r
      obtain ⟨a, rfl, ea⟩ := r
      obtain ⟨a', ea', dx, vfs, hx, _⟩ := hh.ob i _ ei
      rw [ea] at ea'; cases ea'
      have z := hk c rfl
      exact .base (.ins hx z.cl z.ha z.hn z.ht z.hm)
    · rename_i kvs ei
      cases e
      simp only [RW, RD] at r
      obtain ⟨a, rfl, ea⟩ := r
      obtain ⟨a', ea', vk, hx, _⟩ := hh.ob i _ ei
      rw [ea] at ea'; cases ea'
      exact .base (.dK hx)
    · rename_i kvs ei
      cases e
      simp only [RW, RD] at r
      obtain ⟨a, rfl, ea⟩ := r
      obtain ⟨a', ea', od, vk, hx, _⟩ := hh.ob i _ ei
      rw [ea] at ea'; cases ea'
      exact .fDict hx
    · cases e
  · obtain ⟨n, e1, rfl⟩ := Option.map_eq_some_iff.mp e
    exact tyx hh r e1
/-! ### my layer's part -/
noncomputable def isCls (c : String) (v : Vl) (S : Sta) : Bool := match v with
  | .d (.obj i) => match S.P[i]? with
    | some (.ins c' _) => decide (c' = c)
    | _ => false
  | _ => false
theorem rws_1 {K : PySem.W.Frag} {wd : Wd} {a : Vl} {x : V} (h : RW K wd a x) : RWs K wd [a] [x] := ⟨x, [], rfl, h, rfl⟩
theorem rws_2 {K : PySem.W.Frag} {wd : Wd} {a b : Vl} {x y : V} (h : RW K wd a x) (k : RW K wd b y) : RWs K wd [a, b] [x, y] := ⟨x, _, rfl, h, rws_1 k⟩
theorem rws_3 {K : PySem.W.Frag} {wd : Wd} {a b c : Vl} {x y z : V} (h : RW K wd a x) (k : RW K wd b y) (l : RW K wd c z) : RWs K wd [a, b, c] [x, y, z] := ⟨x, _, rfl, h, rws_2 k l⟩
section
variable {g : G} {f : Addr} {F : FV} {pos apos p pos' : Pos} {a b o i e : Expr} {Ta Tb To Ti T : EV} {c : String} {x : Str} {W : WX} {σ : L2.St} {H : Hp}
theorem isCls_at {wd : Wd} {S : Sta} {v : Vl} {y : V} (hh : HR g.K g.cls wd S H) (rv : RW g.K wd v y) (h : isCls c v S = true) : ∃ ad dx fs, y = .ref ad ∧ H ad = some (.ins (g.cls c) dx fs) := by
  unfold isCls at h
  split at h
  · rename_i i
    split at h
    · rename_i c' fs ei
      simp only [decide_eq_true_eq] at h
      subst h
      simp only [RW, RD] at rv
      obtain ⟨ad, rfl, ea⟩ := rv
      obtain ⟨a', ea', dx, vfs, hx, _⟩ := hh.ob i _ ei
      rw [ea] at ea'; cases ea'
      exact ⟨ad, dx, vfs, rfl, hx⟩
    · cases h
  · cases h
theorem own_op {X : Cx} {m : Str} {k0 : Nat} (h : FnJ { g with k := k0 } f [] F) (hk0 : k0 + 1 ≤ g.k) (hX : Good g X) (tk : Takes X W) (hm : Meth g.K (g.cls c) m f) : ∃ fd k ps, OwnOp X (L2.CX g.P g.w) (WE W) (g.cls c) m f k fd ps (spF g.K g.cls ps.length F) ∧ ∀ args S, args.length ≠ ps.length → F args S = .bad := by
  obtain ⟨fd, ps, k, ds, dvs, hF, hk, kp, hb, hd, hdl, har⟩ := h.ex
  have e1 : dvs = [] := by simpa [RDs] using hdl ⟨fun _ => none, [], [], []⟩
  have e2 : ds = [] := by
    subst e1
    exact List.length_eq_zero_iff.mp hd.length.symm
  subst e2
  refine ⟨fd, k, ps, ⟨by rw [hX.K]; exact hm, FnOk.to hX hF, hX.room.mono (Nat.le_trans (Nat.succ_le_succ hk) hk0), fun s us KI l => ?_, passG (g := g) hX tk⟩, har⟩
  rw [hX.K] at KI
  have := hb s us KI (by simpa using l)
  simpa using this
@[simp] noncomputable def eOwn2 (c : String) (F : FV) (ok : Vl → Sta → Bool) (Ta Tb : EV) : EV := fun σ S => (Ta σ S).bind fun v S1 => (Tb σ S1).bind fun u S2 => if isCls c (frz v) S2 = true ∧ ok (frz u) S2 = true then F [frz v, frz u] S2 else .bad
theorem own2_read {ps : List Str} {ok : Vl → Sta → Bool} {Ext : V → Hp → Prop} {Q : VK} (har : ∀ args S, args.length ≠ ps.length → F args S = .bad) (hext : ∀ wd H S u y, HR g.K g.cls wd S H → RW g.K wd u y → ok u S = true → Ext y H) (h : LE g.K g.cls W (eOwn2 c F ok Ta Tb) σ H Q) :
    tOwn2 (g.cls c) (spF g.K g.cls ps.length F) (WE W) Ext (LE g.K g.cls W Ta) (LE g.K g.cls W Tb) σ H Q := by
  obtain ⟨wd, σ', S, hs, hh, h⟩ := h
  refine ⟨wd, σ', S, hs, hh, ?_⟩
  have h1 := OkE_opd (F := fun v S1 => (Tb σ' S1).bind fun u S2 => if isCls c v S2 = true ∧ ok (frz u) S2 = true then F [v, frz u] S2 else .bad) h
  revert h1
  cases Ta σ' S with
  | exc c fs S1 => exact fun h => h
  | bad => exact fun h => h
  | ok v S1 =>
    intro h1 wd1 y H1 l hr rv
    obtain ⟨v', wd2, S2, l2, hr2, rw2, h2⟩ := h1 wd1 y H1 l hr rv
    refine ⟨wd2, σ', S2, hs.mono l2, hr2, ?_⟩
    have h3 := OkE_opd (F := fun u S2 => if isCls c v' S2 = true ∧ ok u S2 = true then F [v', u] S2 else .bad) h2
    revert h3
    cases Tb σ' S2 with
    | exc c fs S1 => exact fun h => h
    | bad => exact fun h => h
    | ok u S3 =>
      intro h3 wd3 z H3 l3 hr3 rv3
      obtain ⟨u', wd4, S4, l4, hr4, rw4, h4⟩ := h3 wd3 z H3 l3 hr3 rv3
      split at h4
      · rename_i hc
        obtain ⟨ad, dx, fs, ey, eh⟩ := isCls_at hr4 (rw2.mono l4) hc.1
        exact ⟨ad, dx, fs, ey, eh, hext _ _ _ _ _ hr4 rw4 hc.2, sp_of hr4 (rws_2 (rw2.mono l4) rw4) har h4⟩
      · exact h4.elim
/-- may a value of this type stand to the right of == -/
noncomputable def tyOk (nf : Ty → Bool) (v : Vl) (S : Sta) : Bool := match tyV v S with
  | some t => nf t
  | none => false
theorem je_own_eq (c : String) {k0 : Nat} (h : FnJ { g with k := k0 } f [] F) (hk0 : k0 + 1 ≤ g.k) (hm : Meth g.K (g.cls c) "__eq__" f) (nf : Ty → Bool) (hn : ∀ t, nf t = true → PySem.W.notFirst g.K (g.cls c) (t.val g.cls) = true ∧ ∀ n, t = .c n → InsTy g.K (g.cls n)) (ha : JE g a Ta) (hb : JE g b Tb) (hmk : behindInMarks .Eq b = false := by first | exact nomark _ | rfl) :
    JE g (.Compare a [.Eq] [b] pos) (eOwn2 c F (tyOk nf) Ta Tb) := fun X hX W tk => by
  obtain ⟨fd, k, ps, O, har⟩ := own_op h hk0 hX tk hm
  refine (pe_own_eq O (ha X hX W tk) (hb X hX W tk) hmk).imp fun σ H Q q => own2_read har (fun wd H S u y hh ru q => ?_) q
  unfold tyOk at q
  split at q
  · rename_i t et
    have z := hn t q
    exact ⟨t.val g.cls, by rw [hX.K]; exact tyV_x hh ru z.2 et, by rw [hX.K]; exact z.1⟩
  · cases q
theorem je_own_add (c : String) {k0 : Nat} (h : FnJ { g with k := k0 } f [] F) (hk0 : k0 + 1 ≤ g.k) (hm : Meth g.K (g.cls c) "__add__" f) (sf : PySem.W.selfFirst g.K (g.cls c) = true) (ha : JE g a Ta) (hb : JE g b Tb) : JE g (.BinOp a .Add b pos) (eOwn2 c F (isCls c) Ta Tb) := fun X hX W tk => by
  obtain ⟨fd, k, ps, O, har⟩ := own_op h hk0 hX tk hm
  refine (pe_own_add O (by rw [hX.K]; exact sf) (ha X hX W tk) (hb X hX W tk)).imp fun σ H Q q => own2_read har (fun wd H S u y hh ru q => ?_) q
  exact isCls_at hh ru q
theorem je_own_get (c : String) {k0 : Nat} (h : FnJ { g with k := k0 } f [] F) (hk0 : k0 + 1 ≤ g.k) (hm : Meth g.K (g.cls c) "__getitem__" f) (fi : PySem.W.fnIn g.K f = true) (ha : JE g a Ta) (hb : JE g b Tb) (hsl : ∀ o i, subscripted b true o i = runValue (.builtin "lifetime.subscript" ⟨[o, i], []⟩) := by intro _ _; with_unfolding_all rfl) :
    JE g (.Subscript a b pos) (eOwn2 c F (fun _ _ => true) Ta Tb) := fun X hX W tk => by
  obtain ⟨fd, k, ps, O, har⟩ := own_op h hk0 hX tk hm
  exact (pe_own_get O (by rw [hX.K]; exact fi) (ha X hX W tk) (hb X hX W tk) hsl).imp fun σ H Q q => own2_read har (fun _ _ _ _ _ _ _ _ => trivial) q
/-! a in b -/
@[simp] noncomputable def eOwnIn (c : String) (F : FV) (neg : Bool) (Ta Tb : EV) : EV := fun σ S => (Ta σ S).bind fun v S1 => (Tb σ S1).bind fun u S2 => if isCls c (frz u) S2 = true then (F [frz u, frz v] S2).bind fun r S3 => match r with
  | .d (.bl k) => .ok (.d (.bl (if neg = true then !k else k))) S3
  | _ => .bad
  else .bad
theorem ownIn_read {ps : List Str} {neg : Bool} {Q : VK} (har : ∀ args S, args.length ≠ ps.length → F args S = .bad) (h : LE g.K g.cls W (eOwnIn c F neg Ta Tb) σ H Q) : tOwnIn (g.cls c) (spF g.K g.cls ps.length F) (WE W) neg (LE g.K g.cls W Ta) (LE g.K g.cls W Tb) σ H Q := by
  obtain ⟨wd, σ', S, hs, hh, h⟩ := h
  refine ⟨wd, σ', S, hs, hh, ?_⟩
  have h1 := OkE_opd (F := fun v S1 => (Tb σ' S1).bind fun u S2 => if isCls c (frz u) S2 = true then (F [frz u, v] S2).bind fun r S3 => match r with
    | .d (.bl k) => .ok (.d (.bl (if neg = true then !k else k))) S3
    | _ => .bad
    else .bad) h
  revert h1
  cases Ta σ' S with
  | exc c fs S1 => exact fun h => h
  | bad => exact fun h => h
  | ok v S1 =>
    intro h1 wd1 y H1 l hr rv
    obtain ⟨v', wd2, S2, l2, hr2, rw2, h2⟩ := h1 wd1 y H1 l hr rv
    refine ⟨wd2, σ', S2, hs.mono l2, hr2, ?_⟩
    have h3 := OkE_opd (F := fun u S2 => if isCls c u S2 = true then (F [u, v'] S2).bind fun r S3 => match r with
      | .d (.bl k) => .ok (.d (.bl (if neg = true then !k else k))) S3
      | _ => .bad
      else .bad) h2
    revert h3
    cases Tb σ' S2 with
    | exc c fs S1 => exact fun h => h
    | bad => exact fun h => h
    | ok u S3 =>
      intro h3 wd3 z H3 l3 hr3 rv3
      obtain ⟨u', wd4, S4, l4, hr4, rw4, h4⟩ := h3 wd3 z H3 l3 hr3 rv3
      split at h4
      · rename_i hc
        obtain ⟨ad, dx, fs, ey, eh⟩ := isCls_at hr4 rw4 hc
        refine ⟨ad, dx, fs, ey, eh, sp_of (Q := fun z H3 => ∃ k, z = .bl k ∧ Q (.bl (if neg = true then !k else k)) H3) hr4 (rws_2 rw4 (rw2.mono l4)) har ?_⟩
        have h5 := OkE_bind h4
        revert h5
        cases F [u', v'] S4 with
        | exc c fs S5 => exact fun h => h
        | bad => exact fun h => h
        | ok r S5 =>
          intro h5 wd5 q H5 l5 hr5 rq
          obtain ⟨r', wd6, S6, l6, hr6, rr6, h6⟩ := h5 wd5 q H5 l5 hr5 rq
          split at h6
          · rename_i k
            have eq : q = .bl k := by simpa [RV, RD] using rr6
            exact ⟨k, eq, h6 wd6 _ H5 (.refl _) hr6 rv_bl⟩
          · exact h6.elim
      · exact h4.elim
theorem je_own_in (c : String) {k0 : Nat} (h : FnJ { g with k := k0 } f [] F) (hk0 : k0 + 1 ≤ g.k) (hm : Meth g.K (g.cls c) "__contains__" f) (ha : JE g a Ta) (hb : JE g b Tb) (hmk : behindInMarks .In b = false := by rfl) : JE g (.Compare a [.In] [b] pos) (eOwnIn c F false Ta Tb) := fun X hX W tk => by
  obtain ⟨fd, k, ps, O, har⟩ := own_op h hk0 hX tk hm
  exact (pe_own_in O (ha X hX W tk) (hb X hX W tk) hmk).imp fun σ H Q q => ownIn_read har q
theorem je_own_notIn (c : String) {k0 : Nat} (h : FnJ { g with k := k0 } f [] F) (hk0 : k0 + 1 ≤ g.k) (hm : Meth g.K (g.cls c) "__contains__" f) (ha : JE g a Ta) (hb : JE g b Tb) (hmk : behindInMarks .NotIn b = false := by rfl) : JE g (.Compare a [.NotIn] [b] pos) (eOwnIn c F true Ta Tb) := fun X hX W tk => by
  obtain ⟨fd, k, ps, O, har⟩ := own_op h hk0 hX tk hm
  exact (pe_own_notIn O (ha X hX W tk) (hb X hX W tk) hmk).imp fun σ H Q q => ownIn_read har q
/-! len(o) -/
@[simp] noncomputable def eOwnLen (c : String) (F : FV) (Ta : EV) : EV := fun σ S => (Ta σ S).bind fun v S1 => if isCls c (frz v) S1 = true then (F [frz v] S1).bind fun r S3 => match r with
  | .d (.int n) => if 0 ≤ n ∧ n < 2 ^ 63 then .ok (.d (.int n)) S3 else .bad
  | _ => .bad
  else .bad
theorem ownLen_read {ps : List Str} {Q : VK} (har : ∀ args S, args.length ≠ ps.length → F args S = .bad) (h : LE g.K g.cls W (eOwnLen c F Ta) σ H Q) : tOwnLen (g.cls c) (spF g.K g.cls ps.length F) (WE W) (LE g.K g.cls W Ta) σ H Q := by
  obtain ⟨wd, σ', S, hs, hh, h⟩ := h
  refine ⟨wd, σ', S, hs, hh, ?_⟩
  have h1 := OkE_opd (F := fun v S1 => if isCls c v S1 = true then (F [v] S1).bind fun r S3 => match r with
    | .d (.int n) => if 0 ≤ n ∧ n < 2 ^ 63 then .ok (.d (.int n)) S3 else .bad
    | _ => .bad
    else .bad) h
  revert h1
  cases Ta σ' S with
  | exc c fs S1 => exact fun h => h
  | bad => exact fun h => h
  | ok v S1 =>
    intro h1 wd1 y H1 l hr rv
    obtain ⟨v', wd2, S2, l2, hr2, rw2, h4⟩ := h1 wd1 y H1 l hr rv
    split at h4
    · rename_i hc
      obtain ⟨ad, dx, fs, ey, eh⟩ := isCls_at hr2 rw2 hc
      refine ⟨ad, dx, fs, ey, eh, sp_of (Q := fun z H2 => ∃ n : Int, z = .int n ∧ (0 ≤ n ∧ n < 2 ^ 63) ∧ Q (.int n) H2) hr2 (rws_1 rw2) har ?_⟩
      have h5 := OkE_bind h4
      revert h5
      cases F [v'] S2 with
      | exc c fs S5 => exact fun h => h
      | bad => exact fun h => h
      | ok r S5 =>
        intro h5 wd5 q H5 l5 hr5 rq
        obtain ⟨r', wd6, S6, l6, hr6, rr6, h6⟩ := h5 wd5 q H5 l5 hr5 rq
        split at h6
        · rename_i n
          have eq : q = .int n := by simpa [RV, RD] using rr6
          split at h6
          · rename_i bd
            exact ⟨n, eq, bd, h6 wd6 _ H5 (.refl _) hr6 rv_int⟩
          · exact h6.elim
        · exact h6.elim
    · exact h4.elim
theorem je_own_len (c : String) {k0 : Nat} (h : FnJ { g with k := k0 } f [] F) (hk0 : k0 + 1 ≤ g.k) (hm : Meth g.K (g.cls c) "__len__" f) (hg : GlS g "len") (hgm : g.mg "len" = none) (ha : JE g a Ta) (he : ∀ env, starEach [a] env = (false, eval a env) :: starEach [] env := by intro _; rfl) : JE g (.Call (.Name "len" p) [a] [] pos) (eOwnLen c F Ta) := fun X hX W tk => by
  obtain ⟨fd, k, ps, O, har⟩ := own_op h hk0 hX tk hm
  exact (pe_own_len O (gl_of hX hg) (by rw [hX.mg]; exact hgm) (ha X hX W tk) (he X.env)).imp fun σ H Q q => ownLen_read har q
/-! o[i] = x -/
@[simp] noncomputable def sOwnPutF (c : String) (F : FV) (To Ti T : EV) : SV := fun σ S => (T σ S).st σ fun v S1 => (To σ S1).st σ fun w S2 => (Ti σ S2).st σ fun u S3 => if isCls c (frz w) S3 = true then (F [frz w, frz u, frz v] S3).st σ fun _ S4 => .nxt σ S4 else .bad
theorem stO_read {wd : Wd} {D : Ends} {σ' : Sl} {o : Out Vl} {f : Vl → Sta → SOut} (hs : SR g.K wd σ' σ) (h : OkS g.K g.cls W wd D (o.st σ' fun v S => f (frz v) S)) :
    OkE g.K g.cls W σ wd (fun x H1 => ∃ v wd1 S1, wd.Le wd1 ∧ HR g.K g.cls wd1 S1 H1 ∧ RW g.K wd1 v x ∧ OkS g.K g.cls W wd1 D (f v S1)) o := by
  cases o with
  | ok v S1 =>
    refine fun wd1 x H1 l hr rv => ?_
    obtain ⟨wd2, l2, hr2, rw2⟩ := rv.frz hr
    exact ⟨frz v, wd2, S1, l.trans l2, hr2, rw2, OkS.mono (l.trans l2) h⟩
  | exc c fs S1 => exact fun wd1 H1 cv d l hr hx => h wd1 σ H1 cv d l (hs.mono l) hr hx
  | bad => exact h
theorem ownPut_read {ps : List Str} {D : Ends} (har : ∀ args S, args.length ≠ ps.length → F args S = .bad) (h : LS g.K g.cls W (sOwnPutF c F To Ti T) D σ H) : sOwnPut (g.cls c) (spF g.K g.cls ps.length F) (WE W) (LE g.K g.cls W To) (LE g.K g.cls W Ti) (LE g.K g.cls W T) D σ H := by
  obtain ⟨wd, σ', S, hs, hh, h⟩ := h
  refine ⟨wd, σ', S, hs, hh, ?_⟩
  have h1 := stO_read (f := fun v S1 => (To σ' S1).st σ' fun w S2 => (Ti σ' S2).st σ' fun u S3 => if isCls c (frz w) S3 = true then (F [frz w, frz u, v] S3).st σ' fun _ S4 => .nxt σ' S4 else .bad) hs h
  revert h1
  cases T σ' S with
  | exc c fs S1 => exact fun h => h
  | bad => exact fun h => h
  | ok v S1 =>
    intro h1 wd1 y H1 l hr rv
    obtain ⟨v', wd2, S2, l2, hr2, rw2, h2⟩ := h1 wd1 y H1 l hr rv
    refine ⟨wd2, σ', S2, hs.mono l2, hr2, ?_⟩
    have h3 := stO_read (f := fun w S2 => (Ti σ' S2).st σ' fun u S3 => if isCls c w S3 = true then (F [w, frz u, v'] S3).st σ' fun _ S4 => .nxt σ' S4 else .bad) (hs.mono l2) h2
    revert h3
    cases To σ' S2 with
    | exc c fs S1 => exact fun h => h
    | bad => exact fun h => h
    | ok w S3 =>
      intro h3 wd3 z H3 l3 hr3 rv3
      obtain ⟨w', wd4, S4, l4, hr4, rw4, h4⟩ := h3 wd3 z H3 l3 hr3 rv3
      refine ⟨wd4, σ', S4, (hs.mono l2).mono l4, hr4, ?_⟩
      have h5 := stO_read (f := fun u S3 => if isCls c w' S3 = true then (F [w', u, v'] S3).st σ' fun _ S4 => .nxt σ' S4 else .bad) ((hs.mono l2).mono l4) h4
      revert h5
      cases Ti σ' S4 with
      | exc c fs S1 => exact fun h => h
      | bad => exact fun h => h
      | ok u S5 =>
        intro h5 wd5 q H5 l5 hr5 rv5
        obtain ⟨u', wd6, S6, l6, hr6, rw6, h6⟩ := h5 wd5 q H5 l5 hr5 rv5
        split at h6
        · rename_i hc
          obtain ⟨ad, dx, fs, ey, eh⟩ := isCls_at hr6 (rw4.mono l6) hc
          refine ⟨ad, dx, fs, ey, eh, sp_of (W := W) (σ := σ) (Q := fun _ H4 => D.nx σ H4) hr6 (rws_3 (rw4.mono l6) rw6 ((rw2.mono l4).mono l6)) har ?_⟩
          have hs6 : SR g.K wd6 σ' σ := ((hs.mono l2).mono l4).mono l6
          revert h6
          cases F [w', u', v'] S6 with
          | exc c fs S7 => exact fun h wd7 H7 cv d l7 hr7 hx7 => h wd7 σ H7 cv d l7 (hs6.mono l7) hr7 hx7
          | bad => exact fun h => h
          | ok r S7 => exact fun h wd7 _ H7 l7 hr7 _ => h wd7 σ H7 l7 (hs6.mono l7) hr7
        · exact h6.elim
theorem js_own_put (c : String) {k0 : Nat} (h : FnJ { g with k := k0 } f [] F) (hk0 : k0 + 1 ≤ g.k) (hm : Meth g.K (g.cls c) "__setitem__" f) (ns : PySem.W.noSeq g.K (g.cls c) = true) (ho : JE g o To) (hi : JE g i Ti) (he : JE g e T) (hs : ∀ env, swapsWith e (some (.Subscript o i pos')) pos.line env = pure false := by intro _; rfl) :
    JS g (.Assign [.Subscript o i pos'] e pos) (sOwnPutF c F To Ti T) := fun X hX W tk => by
  obtain ⟨fd, k, ps, O, har⟩ := own_op h hk0 hX.toGood tk hm
  exact (ps_own_put O (by rw [hX.K]; exact ns) (ho X hX.toGood W tk) (hi X hX.toGood W tk) (he X hX.toGood W tk) (hs X.env)).imp fun D σ H q => ownPut_read har q
end
end Ev

set_option Elab.async false
set_option linter.all false
set_option maxRecDepth 100000
set_option maxHeartbeats 1000000
/-! Ev26: isinstance of own classes and of several; is True; chains. -/
namespace Ev
open PySem PySem.Spec PyProof.Rows L2
open Classical
/-! ### which of the own classes -/
def tyNames : List String := ["NoneType", "bool", "int", "str", "tuple", "list", "dict"]
/-- isinstance(x, c), c one of the own classes, none of which is above another -/
def tabOwn (c : String) (own : List String) : Ty → Option Bool
  | .b n => if n ∈ tyNames then some false else none
  | .c n => if n ∈ own then some (decide (n = c)) else none
def isTB (c : String) (own : List String) (K : PySem.W.Frag) : Bool := (tyNames.all fun n => decide (PySem.W.kitOne K (.type n) (.ref (He.ga K (enc c))) = some false)) &&
  own.all fun n => insB K (He.ga K (enc n)) && decide (PySem.W.kitOne K (.ref (He.ga K (enc n))) (.ref (He.ga K (enc c))) = some (decide (n = c)))
theorem isTB_ok {c : String} {own : List String} {K : PySem.W.Frag} (h : isTB c own K = true) {t : Ty} {b : Bool} (e : tabOwn c own t = some b) :
    PySem.W.kitOne K (t.val fun s => He.ga K (enc s)) (.ref (He.ga K (enc c))) = some b ∧ ∀ n, t = .c n → InsTy K (He.ga K (enc n)) := by
  unfold isTB at h
  rw [Bool.and_eq_true] at h
  cases t with
  | b n =>
    simp only [tabOwn] at e
    split at e
    · rename_i hn
      cases e
      exact ⟨of_decide_eq_true (List.all_eq_true.mp h.1 n hn), fun _ z => by cases z⟩
    · cases e
  | c n =>
    simp only [tabOwn] at e
    split at e
    · rename_i hn
      cases e
      have := List.all_eq_true.mp h.2 n hn
      rw [Bool.and_eq_true] at this
      exact ⟨of_decide_eq_true this.2, fun m z => by cases z; exact insB_ok this.1⟩
    · cases e
/-- what may stand to the right of == -/
def nfOwn (own : List String) : Ty → Bool
  | .b n => decide (n ∈ tyNames)
  | .c n => decide (n ∈ own)
def nfB (c : String) (own : List String) (K : PySem.W.Frag) : Bool := (tyNames.all fun n => PySem.W.notFirst K (He.ga K (enc c)) (.type n)) && own.all fun n => insB K (He.ga K (enc n)) && PySem.W.notFirst K (He.ga K (enc c)) (.ref (He.ga K (enc n)))
theorem nfB_ok {c : String} {own : List String} {K : PySem.W.Frag} (h : nfB c own K = true) (t : Ty) (e : nfOwn own t = true) :
    PySem.W.notFirst K (He.ga K (enc c)) (t.val fun s => He.ga K (enc s)) = true ∧ ∀ n, t = .c n → InsTy K (He.ga K (enc n)) := by
  unfold nfB at h
  rw [Bool.and_eq_true] at h
  cases t with
  | b n => exact ⟨List.all_eq_true.mp h.1 n (of_decide_eq_true e), fun _ z => by cases z⟩
  | c n =>
    have := List.all_eq_true.mp h.2 n (of_decide_eq_true e)
    rw [Bool.and_eq_true] at this
    exact ⟨this.2, fun m z => by cases z; exact insB_ok this.1⟩
section
variable {fa : List He.Fa} {fn : List He.DefD} {xs : XSpec} {g : G}
theorem EnvE.isT (E : EnvE fa fn xs g) (i : Nat) (c : String) (own : List String) (h : xs.ps[i]? = some (isTB c own) := by rfl) : ∀ t b, tabOwn c own t = some b → PySem.W.kitOne g.K (t.val g.cls) (.ref (g.cls c)) = some b ∧ ∀ n, t = .c n → InsTy g.K (g.cls n) := fun t b e => by
  have := isTB_ok (E.prd i h) e
  rw [E.cls]; exact this
theorem EnvE.nf (E : EnvE fa fn xs g) (i : Nat) (c : String) (own : List String) (h : xs.ps[i]? = some (nfB c own) := by rfl) : ∀ t, nfOwn own t = true → PySem.W.notFirst g.K (g.cls c) (t.val g.cls) = true ∧ ∀ n, t = .c n → InsTy g.K (g.cls n) := fun t e => by
  have := nfB_ok (E.prd i h) t e
  rw [E.cls]; exact this
theorem EnvE.sf (E : EnvE fa fn xs g) (i : Nat) (c : String) (h : xs.ps[i]? = some (fun K => PySem.W.selfFirst K (He.ga K (enc c))) := by rfl) : PySem.W.selfFirst g.K (g.cls c) = true := by
  rw [E.cad]; exact E.prd i h
theorem EnvE.ns (E : EnvE fa fn xs g) (i : Nat) (c : String) (h : xs.ps[i]? = some (fun K => PySem.W.noSeq K (He.ga K (enc c))) := by rfl) : PySem.W.noSeq g.K (g.cls c) = true := by
  rw [E.cad]; exact E.prd i h
theorem EnvE.fi (E : EnvE fa fn xs g) (i : Nat) (c m : String) (h : xs.ps[i]? = some (fun K => PySem.W.fnIn K (He.fAd K (enc c, some (enc m)))) := by rfl) : PySem.W.fnIn g.K (He.fAd g.K (enc c, some (enc m))) = true := E.prd i h
end
section
variable {g : G} {pos p : Pos} {e a b c3 : Expr} {T Ta Tb Tc : EV} {x : Str}
noncomputable def isTF (tab : Ty → Option Bool) (v : Vl) (S : Sta) : Out Vl := match (tyV v S).bind tab with
  | some b => .ok (.d (.bl b)) S
  | none => .bad
theorem isT_at {tab : Ty → Option Bool} {v : Vl} {S : Sta} {W : WX} {σ : L2.St} {wd : Wd} {Q : VK} (h : OkE g.K g.cls W σ wd Q (isTF tab v S)) : ∃ t b, tyV v S = some t ∧ tab t = some b ∧ OkE g.K g.cls W σ wd Q (.ok (.d (.bl b)) S) := by
  unfold isTF at h
  split at h
  · rename_i b e
    rw [Option.bind_eq_some_iff] at e
    obtain ⟨t, e1, e2⟩ := e
    exact ⟨t, b, e1, e2, h⟩
  · exact h.elim
theorem je_isC (c : String) {q : Pos} (tab : Ty → Option Bool) (ht : ∀ t b, tab t = some b → PySem.W.kitOne g.K (t.val g.cls) (.ref (g.cls c)) = some b ∧ ∀ n, t = .c n → InsTy g.K (g.cls n)) (hg : GlS g "isinstance") (hm : g.mg "isinstance" = none) (hg2 : GlS g x) (hm2 : g.mg x = some (.ref (g.cls c))) (ha : JE g e T)
    (he : ∀ env, starEach [e, .Name x q] env = (false, eval e env) :: starEach [.Name x q] env := by intro _; rfl) (hd : (x == ("__debug__" : Str)) = false := by decide) (hp : ∀ env, (backTo pos (starEach [.Name x q] env)).any (·.1) = false := by intro _; rfl)
    (he2 : ∀ env, starEach [.Name x q] env = (false, eval (.Name x q) env) :: starEach [] env := by intro _; rfl) :
    JE g (.Call (.Name "isinstance" p) [e, .Name x q] [] pos) (eUn (isTF tab) T) := fun X hX W tk =>
  (pe_callB call_isi (gl_of hX hg) (by rw [hX.mg]; exact hm) (by decide +kernel) (pa_cons (ha X hX W tk) (pa_cons (pe_glob (v := .ref (g.cls c)) (gl_of hX hg2) (by rw [hX.mg]; exact hm2) rfl hd) pa_nil (he2 X.env)) (he X.env)) (by decide) (by decide) (he X.env) (hp X.env)).imp fun σ H Q h => by
    refine un_read (r := fun x H1 Q => rIsi X.K [x, .ref (g.cls c)] H1 Q) (fun W σ wd H S v x Q hh rv h => ?_) h
    obtain ⟨t, b, e1, e2, h⟩ := isT_at h
    have z := ht t b e2
    refine ⟨x, .ref (g.cls c), t.val g.cls, .ref (g.cls c), b, rfl, .own _, ?_, by rw [hX.K]; exact z.1, h wd _ H (.refl _) hh rv_bl⟩
    rw [hX.K]; exact tyV_x hh rv z.2 e1
/-- isinstance(x, (T1, T2)) of built-in types -/
def tabTwo (n m : String) : Ty → Option Bool
  | .b k => match isTab k n, isTab k m with
    | some a, some b => some (a || b)
    | _, _ => none
  | .c _ => none
theorem je_isT2 {n m : String} {y : Str} {q r tp : Pos} {kk : Nat} (hg : GlS g "isinstance") (hm : g.mg "isinstance" = none) (hg2 : GlS g x) (hm2 : g.mg x = none) (hv : bootBuiltins x = some (.type n)) (hg3 : GlS g y) (hm3 : g.mg y = none) (hv3 : bootBuiltins y = some (.type m)) (ha : JE g e T)
    (he : ∀ env, starEach [e, .Tuple [.Name x q, .Name y r] kk tp] env = (false, eval e env) :: starEach [.Tuple [.Name x q, .Name y r] kk tp] env := by intro _; rfl) (hn : x ≠ "__name__" := by decide) (hd : (x == ("__debug__" : Str)) = false := by decide) (hn3 : y ≠ "__name__" := by decide) (hd3 : (y == ("__debug__" : Str)) = false := by decide)
    (hp : ∀ env, (backTo pos (starEach [.Tuple [.Name x q, .Name y r] kk tp] env)).any (·.1) = false := by intro _; rfl) (he2 : ∀ env, starEach [.Tuple [.Name x q, .Name y r] kk tp] env = (false, eval (.Tuple [.Name x q, .Name y r] kk tp) env) :: starEach [] env := by intro _; rfl)
    (he3 : ∀ env, starEach [.Name x q, .Name y r] env = (false, eval (.Name x q) env) :: starEach [.Name y r] env := by intro _; rfl) (he4 : ∀ env, starEach [.Name y r] env = (false, eval (.Name y r) env) :: starEach [] env := by intro _; rfl) :
    JE g (.Call (.Name "isinstance" p) [e, .Tuple [.Name x q, .Name y r] kk tp] [] pos) (eUn (isTF (tabTwo n m)) T) := fun X hX W tk => by
  have two : PE X (.Tuple [.Name x q, .Name y r] kk tp) _ := pe_tup (pa_cons (pe_bltn (gl_of hX hg2) (by rw [hX.mg]; exact hm2) hv (v := .ty n) rfl hn hd) (pa_cons (pe_bltn (gl_of hX hg3) (by rw [hX.mg]; exact hm3) hv3 (v := .ty m) rfl hn3 hd3) pa_nil (he4 X.env)) (he3 X.env))
  refine (pe_callB call_isiT (gl_of hX hg) (by rw [hX.mg]; exact hm) (by decide +kernel) (pa_cons (ha X hX W tk) (pa_cons two pa_nil (he2 X.env)) (he X.env)) (by decide) (by decide) (he X.env) (hp X.env)).imp fun σ H Q h => ?_
  refine un_read (r := fun x H1 Q => (2 ≤ sizeLine) ∧ ∀ a, H1 a = none → rIsiT X.K [x, .ref a] (upd H1 a (.tup [.ty n, .ty m])) Q) (fun W σ wd H S v x Q hh rv h => ?_) h
  refine ⟨by decide, fun a na => ?_⟩
  obtain ⟨t, b, e1, e2, h⟩ := isT_at h
  cases t with
  | c k => cases e2
  | b k =>
    unfold tabTwo at e2
    simp only at e2
    split at e2
    · rename_i u w h1 h2
      cases e2
      refine ⟨x, a, [.ty n, .ty m], .type k, [.type n, .type m], u || w, rfl, upd_same, .cons (.ty n) (.cons (.ty m) .nil), ?_, ?_, h wd _ _ (.refl _) (hh.lay na) rv_bl⟩
      · rw [hX.K]
        have := tyV_x (K := g.K) (cls := g.cls) (hh.lay (o := .tup [.ty n, .ty m]) na) rv (fun _ z => by cases z) e1
        exact this
      · refine kitAny_cons (kit_ty (isTab_ok h1)) (fun eu => ?_) (fun eu => by rw [eu]; rfl)
        refine kitAny_cons (kit_ty (isTab_ok h2)) (fun ew => ?_) (fun ew => by rw [ew, Bool.or_true])
        rw [eu, ew]; exact kitAny_nil
    · cases e2
/-! ### is True, is False -/
def isBlD (b : Bool) : D → Bool
  | .bl c => decide (c = b)
  | _ => false
theorem is_bool {X : Cx} {K} {cls} {wd : Wd} {S : Sta} {b neg : Bool} {pins : List (Addr × Obj)} {σ : L2.St} {H : Hp} {s : Shared} {Q : VK} {x : D} {y : V} {u : Value} (hh : HR K cls wd S H) (I : Inv X pins σ H s) (ry : RelV y u) (rd : RD K wd x y) (q : Q (.bl (if neg = true then !isBlD b x else isBlD b x)) H) :
    wpAny (model X.prog X.w) X.A (compareOp (if neg = true then .IsNot else .Is) u (.bool b)) (EP X pins σ Q) X.xe s := by
  have key : ∀ u : Value, (u == Value.bool b) = isBlD b x → plainIs u (.bool b) = true → wpAny (model X.prog X.w) X.A (compareOp (if neg = true then .IsNot else .Is) u (.bool b)) (EP X pins σ Q) X.xe s := by
    intro u e pl
    cases neg with
    | false => exact wpAny_is_plain pl ⟨.bl _, H, I, rfl, by rw [e]; simpa using q⟩
    | true => exact wpAny_isNot_plain pl ⟨.bl _, H, I, rfl, by rw [e]; simpa using q⟩
  cases x with
  | non =>
    have e : y = .non := by simpa [RD] using rd
    subst e
    obtain rfl : u = .none := ry
    exact key _ rfl rfl
  | bl c =>
    have e : y = .bl c := by simpa [RD] using rd
    subst e
    obtain rfl : u = .bool c := ry
    exact key _ (by cases c <;> cases b <;> rfl) rfl
  | int i =>
    have e : y = .int i := by simpa [RD] using rd
    subst e
    obtain ⟨t, rfl⟩ := (show ∃ t, u = Value.int i t from ry)
    exact key _ rfl rfl
  | str z =>
    have e : y = .str z ∧ PyData.strOk z = true := by simpa [RD] using rd
    obtain ⟨e, _⟩ := e
    subst e
    obtain ⟨t, rfl⟩ := (show ∃ t, u = Value.str z t from ry)
    exact key _ rfl rfl
  | tup l =>
    simp only [RD] at rd
    obtain ⟨a, vs, rfl, _⟩ := rd
    obtain rfl : u = .ref a := ry
    exact key _ rfl rfl
  | lst l =>
    simp only [RD] at rd
    obtain ⟨a, vs, rfl, _⟩ := rd
    obtain rfl : u = .ref a := ry
    exact key _ rfl rfl
  | scr l =>
    simp only [RD] at rd
    obtain ⟨a, vs, rfl, _⟩ := rd
    obtain rfl : u = .ref a := ry
    exact key _ rfl rfl
  | obj i =>
    simp only [RD] at rd
    obtain ⟨a, rfl, _⟩ := rd
    obtain rfl : u = .ref a := ry
    exact key _ rfl rfl
  | ty n =>
    have e : y = .ty n := by simpa [RD] using rd
    subst e
    obtain rfl : u = .type n := ry
    exact key _ rfl rfl
  | cl a =>
    have e : y = .ref a := by simpa [RD] using rd
    subst e
    obtain rfl : u = .ref a := ry
    exact key _ rfl rfl
noncomputable def isBF (b neg : Bool) (v u : Vl) (S : Sta) : Out Vl := match v with
  | .d x => match u with
    | .d (.bl c) => if c = b then .ok (.d (.bl (if neg = true then !isBlD b x else isBlD b x))) S else .bad
    | _ => .bad
  | _ => .bad
theorem je_isB {k : Nat} {q : Pos} (b neg : Bool) (ha : JE g a Ta) : JE g (.Compare a [if neg = true then .IsNot else .Is] [.Constant (.bool b) k q] pos) (eBin (isBF b neg) Ta (eC (.bl b))) := fun X hX W tk => by
  refine ⟨fun pins s σ H Q I h => ?_⟩
  have h2 := bin_read (g := g) (W := W) (r := fun x y H1 Q1 => ∃ wd S d, HR g.K g.cls wd S H1 ∧ RD g.K wd d x ∧ y = .bl b ∧ Q1 (.bl (if neg = true then !isBlD b d else isBlD b d)) H1) (f := isBF b neg) (fun W σ wd H S v u x y Q hh rv ru h => by
    unfold isBF at h
    split at h
    · split at h
      · split at h
        · rename_i hc
          subst hc
          exact ⟨wd, S, _, hh, rv, rd_bl ru, h wd _ H (.refl _) hh rv_bl⟩
        · exact h.elim
      · exact h.elim
    · exact h.elim) h
  refine wpAny_Compare1 (binT (ha X hX W tk) ((je_bl (g := g) X hX W tk)) I h2 fun v u s2 x y H2 I2 rx ry q => ?_) (by cases neg <;> rfl)
  obtain ⟨wd, S, d, hh, rd, rfl, q⟩ := q
  obtain rfl : u = .bool b := ry
  exact is_bool hh I2 rx rd q
end
end Ev

set_option Elab.async false
set_option linter.all false
set_option maxRecDepth 100000
set_option maxHeartbeats 1000000
/-! Ev27: dicts: [], in, len, list, dict, sorted, stores, del. -/
namespace Ev
open PySem PySem.Spec PyProof.Rows L2
open Classical
def keyOf : D → Option Key
  | .int i => some (.inl i)
  | .str x => some (.inr x)
  | _ => none
def keyD : Key → D
  | .inl i => .int i
  | .inr x => .str x
section
variable {α : Type}
def lookK (kvs : List (Key × α)) (k : Key) : Option α := (kvs.find? fun kv => decide (kv.1 = k)).map (·.2)
def setK (kvs : List (Key × α)) (k : Key) (x : α) : List (Key × α) := if (kvs.any fun kv => decide (kv.1 = k)) = true then kvs.map (fun kv => if kv.1 = k then (kv.1, x) else kv) else kvs ++ [(k, x)]
def delK (kvs : List (Key × α)) (k : Key) : List (Key × α) := kvs.filter fun kv => decide (kv.1 ≠ k)
@[simp] theorem lookK_nil (k : Key) : lookK ([] : List (Key × α)) k = none := rfl
theorem lookK_cons (p : Key × α) (r : List (Key × α)) (k : Key) : lookK (p :: r) k = if p.1 = k then some p.2 else lookK r k := by
  unfold lookK
  rw [List.find?_cons]
  by_cases h : p.1 = k <;> simp [h]
end
theorem lookK_V (kvs : List (Key × V)) (k : Key) : lookK kvs k = valV kvs k := rfl
section
variable {K : PySem.W.Frag} {cls : String → Addr} {wd : Wd} {H : Hp} {S : Sta}
theorem RKs.look : ∀ {kvs : List (Key × D)} {vs : List (Key × V)} (k : Key), RKs K wd kvs vs → (∀ x, lookK kvs k = some x → ∃ v, valV vs k = some v ∧ RD K wd x v) ∧ (lookK kvs k = none → valV vs k = none)
  | [], vs, k, h => by
    have h' : vs = [] := h
    subst h'
    exact ⟨fun x e => (nomatch e), fun _ => rfl⟩
  | (j, x) :: r, vs, k, h => by
    obtain ⟨⟨j', v⟩, vr, rfl, e1, r1, r2⟩ := h
    have e1 : j' = j := e1
    subst e1
    have ih := RKs.look k r2
    rw [lookK_cons]
    show (∀ y, (if j' = k then some x else lookK r k) = some y → ∃ v2, valV ((j', v) :: vr) k = some v2 ∧ _) ∧ ((if j' = k then some x else lookK r k) = none → valV ((j', v) :: vr) k = none)
    by_cases h : j' = k
    · rw [if_pos h]
      exact ⟨fun y e => by { injection e with e; subst e; exact ⟨v, valV_pos (p := (j', v)) h, r1⟩ }, fun e => nomatch e⟩
    · rw [if_neg h, valV_neg (p := (j', v)) h]
      exact ih
theorem RKs.len : ∀ {kvs : List (Key × D)} {vs : List (Key × V)}, RKs K wd kvs vs → kvs.length = vs.length
  | [], vs, h => by
    have h' : vs = [] := h
    subst h'; rfl
  | p :: r, vs, h => by
    obtain ⟨v, vr, rfl, _, _, r2⟩ := h
    simp [RKs.len r2]
theorem RKs.any (k : Key) : ∀ {kvs : List (Key × D)} {vs : List (Key × V)}, RKs K wd kvs vs → (kvs.any fun kv => decide (kv.1 = k)) = (vs.any fun kv => decide (kv.1 = k))
  | [], vs, h => by
    have h' : vs = [] := h
    subst h'; rfl
  | p :: r, vs, h => by
    obtain ⟨v, vr, rfl, e1, _, r2⟩ := h
    rw [List.any_cons, List.any_cons, RKs.any k r2, e1]
theorem RKs.keys : ∀ {kvs : List (Key × D)} {vs : List (Key × V)}, RKs K wd kvs vs → vs.map (·.1) = kvs.map (·.1)
  | [], vs, h => by
    have h' : vs = [] := h
    subst h'; rfl
  | p :: r, vs, h => by
    obtain ⟨v, vr, rfl, e1, _, r2⟩ := h
    simp [RKs.keys r2, e1]
theorem RKs.repl (k : Key) {x : D} {y : V} (ry : RD K wd x y) : ∀ {kvs : List (Key × D)} {vs : List (Key × V)}, RKs K wd kvs vs → RKs K wd (kvs.map fun kv => if kv.1 = k then (kv.1, x) else kv) (vs.map fun kv => if kv.1 = k then (kv.1, y) else kv)
  | [], vs, h => by
    have h' : vs = [] := h
    subst h'; rfl
  | p :: r, vs, h => by
    obtain ⟨v, vr, rfl, e1, r1, r2⟩ := h
    rw [List.map_cons, List.map_cons]
    refine ⟨_, _, rfl, ?_, ?_, RKs.repl k ry r2⟩
    · rw [e1]; split <;> simp [e1]
    · rw [e1]; split
      · exact ry
      · exact r1
theorem RKs.app : ∀ {kvs js : List (Key × D)} {vs us : List (Key × V)}, RKs K wd kvs vs → RKs K wd js us → RKs K wd (kvs ++ js) (vs ++ us)
  | [], _, vs, us, h, k => by
    have h' : vs = [] := h
    subst h'; exact k
  | p :: r, _, vs, us, h, k => by
    obtain ⟨v, vr, rfl, e1, r1, r2⟩ := h
    exact ⟨v, _, rfl, e1, r1, RKs.app r2 k⟩
theorem RKs.put (k : Key) {x : D} {y : V} (ry : RD K wd x y) {kvs : List (Key × D)} {vs : List (Key × V)} (h : RKs K wd kvs vs) : RKs K wd (setK kvs k x) (putK vs k y) := by
  unfold setK putK
  rw [RKs.any k h]
  split
  · exact h.repl k ry
  · exact h.app ⟨(k, y), [], rfl, rfl, ry, rfl⟩
theorem RKs.del (k : Key) : ∀ {kvs : List (Key × D)} {vs : List (Key × V)}, RKs K wd kvs vs → RKs K wd (delK kvs k) (dropK vs k)
  | [], vs, h => by
    have h' : vs = [] := h
    subst h'; rfl
  | p :: r, vs, h => by
    obtain ⟨v, vr, rfl, e1, r1, r2⟩ := h
    have ih := RKs.del k r2
    unfold delK dropK at *
    rw [List.filter_cons, List.filter_cons, e1]
    split
    · exact ⟨v, _, rfl, e1, r1, ih⟩
    · exact ih
/-- what a dict holds -/
def dicAt (v : Vl) (S : Sta) : Option (List (Key × D)) := match v with
  | .d (.obj i) => match S.P[i]? with
    | some (.dic kvs) => some kvs
    | some (.dlk kvs) => some kvs
    | _ => none
  | _ => none
theorem dic_at {v : Vl} {x : V} {kvs : List (Key × D)} (hh : HR K cls wd S H) (r : RW K wd v x) (e : dicAt v S = some kvs) : ∃ a vs, x = .ref a ∧ Rd H a (.dK vs) ∧ RKs K wd kvs vs := by
  unfold dicAt at e
  split at e
  · rename_i i
    simp only [RW, RD] at r
    obtain ⟨a, rfl, ea⟩ := r
    split at e
    · rename_i q eq
      cases e
      obtain ⟨a', ea', vk, hx, rr⟩ := hh.ob i _ eq
      rw [ea] at ea'; cases ea'
      exact ⟨a, vk, rfl, .inl hx, rr⟩
    · rename_i q eq
      cases e
      obtain ⟨a', ea', od, vk, hx, rr⟩ := hh.ob i _ eq
      rw [ea] at ea'; cases ea'
      exact ⟨a, vk, rfl, .inr ⟨od, hx⟩, rr⟩
    · cases e
  · cases e
/-- .. that may be changed -/
def dicM (v : Vl) (S : Sta) : Option (Nat × List (Key × D)) := match v with
  | .d (.obj i) => match S.P[i]? with
    | some (.dic kvs) => some (i, kvs)
    | _ => none
  | _ => none
theorem dicM_at {v : Vl} {x : V} {i : Nat} {kvs : List (Key × D)} (hh : HR K cls wd S H) (r : RW K wd v x) (e : dicM v S = some (i, kvs)) : ∃ a vs, x = .ref a ∧ S.P[i]? = some (.dic kvs) ∧ wd.ob[i]? = some a ∧ H a = some (.dK vs) ∧ RKs K wd kvs vs := by
  unfold dicM at e
  split at e
  · rename_i j
    simp only [RW, RD] at r
    obtain ⟨a, rfl, ea⟩ := r
    split at e
    · rename_i q eq
      cases e
      obtain ⟨a', ea', vk, hx, rr⟩ := hh.ob i _ eq
      rw [ea] at ea'; cases ea'
      exact ⟨a, vk, rfl, eq, ea, hx, rr⟩
    · cases e
  · cases e
theorem key_at {x : D} {v : V} {k : Key} (r : RD K wd x v) (e : keyOf x = some k) : v = kV k := by
  cases x with
  | int i =>
    cases e
    have e1 : v = .int i := by simpa [RD] using r
    subst e1; rfl
  | str z =>
    cases e
    have e1 : v = .str z ∧ PyData.strOk z = true := by simpa [RD] using r
    rw [e1.1]; rfl
  | _ => cases e
/-- a dict is given other entries -/
theorem HR.setDic (hh : HR K cls wd S H) {i : Nat} {kvs js : List (Key × D)} {us : List (Key × V)} {a : Addr} {vs : List (Key × V)} (e : S.P[i]? = some (.dic kvs)) (ea : wd.ob[i]? = some a) (ha : H a = some (.dK vs)) (r : RKs K wd js us) : HR K cls wd { S with P := S.P.set i (.dic js) } (upd H a (.dK us)) :=
  hh.setOb (o := .dic kvs) (o' := .dic js) (u := .dK us) e ea ⟨us, upd_same, r⟩ (fun b ls hb z => by subst z; rw [ha] at hb; cases hb) (fun p q hq z => by
    subst z
    have h1 := hh.fz p q hq
    have h2 := hh.nfz p q hq
    rw [ha] at h1; cases h1; cases h2)
end
section
variable {g : G} {pos apos p pos' : Pos} {e o a b i d : Expr} {es : List Expr} {T To Ta Tb Ti Td : EV} {Ts : EVs}
/-! ### d[k] -/
def rIxDk : R2 := fun x y H Q => ∃ ad v, x = .ref ad ∧ DGet H ad y (some v) ∧ Q v H
theorem ix_dict {X : Cx} (hu : X.A.units + 1 < cLine) : IxR X rIxDk := by
  intro value slice pins s σ H x y v u Q I rx ry h hs
  obtain ⟨ad, z, rfl, g, q⟩ := h
  obtain rfl : v = Value.ref ad := rx
  have td := dict_typeIs I g
  have last : wpAny (model X.prog X.w) X.A (subscripted slice false (.ref ad) u) (fun r s3 => wpAny (model X.prog X.w) X.A (letTemporaryGo value (.ref ad) r >>= fun _ => pure r) (EP X pins σ Q) X.xe s3) X.xe s := by
    rw [hs]
    refine wpAny_operating (d_getItem hu I g ry fun w2 s3 I3 rw2 => ?_)
    exact wpAny_bind (wpAny_letTemporaryGo (wpAny_pure ⟨z, H, I3, rw2, q⟩))
  unfold subscriptTail
  refine wpAny_bind ?_
  rw [getitemInPython_of_ne td.not_modules]
  refine wpAny_bind (wpAny_specialOf td PySem.F.slot_dict_getitem.lookup ?_)
  first
    | exact wpAny_bind last
    | exact wpAny_pure (wpAny_bind last)
    | exact wpAny_bind (wpAny_pure (wpAny_bind last))
noncomputable def ixG (v u : Vl) (S : Sta) : Out Vl := match dicAt v S with
  | some kvs => match u with
    | .d x => match (keyOf x).bind (lookK kvs) with
      | some y => .ok (.d y) S
      | none => .bad
    | _ => .bad
  | none => ixF v u S
theorem opd_ixG : OpD g (fun x y H Q => rIx g.K x y H Q ∨ rIxDk x y H Q) ixG := by
  intro W σ wd H S v u x y Q hh rv ru h
  unfold ixG at h
  split at h
  · rename_i kvs ek
    split at h
    · rename_i z
      split at h
      · rename_i w ew
        rw [Option.bind_eq_some_iff] at ew
        obtain ⟨k, e1, e2⟩ := ew
        obtain ⟨ad, vs, rfl, rd, rr⟩ := dic_at hh rv ek
        obtain ⟨v', e3, r3⟩ := (rr.look k).1 w e2
        exact .inr ⟨ad, v', rfl, .inl ⟨vs, k, rd, key_at ru e1, e3.symm⟩, h wd _ H (.refl _) hh r3⟩
      · exact h.elim
    · exact h.elim
  · exact .inl (opd_ix (g := g) W σ wd H S v u x y Q hh rv ru h)
theorem je_ixG (ha : JE g a Ta) (hb : JE g b Tb) (hs : PlainIx b := by intro _ _; rfl) : JE g (.Subscript a b pos) (eBin ixG Ta Tb) := fun X hX W tk =>
  (pe_ix (hX.K ▸ (ix_seq (X := X)).or (ix_dict (hu_of hX.room))) (ha X hX W tk) (hb X hX W tk) hs).imp fun σ H Q h => bin_read opd_ixG h
/-! ### k in d, and what is in a list of any data -/
def rDin (neg : Bool) : R2 := fun x y H Q => (∃ ad o, y = .ref ad ∧ DGet H ad x o ∧ Q (.bl (if neg = true then !o.isSome else o.isSome)) H) ∨ ∃ ad kvs, y = .ref ad ∧ x = .non ∧ Rd H ad (.dK kvs) ∧ Q (.bl neg) H
theorem or_din {X : Cx} (hu : X.A.units + 1 < cLine) : OpR X (compareOp .In) (rDin false) := by
  intro pins s σ H x y v u Q I rx ry h
  rcases h with ⟨ad, o, rfl, g, q⟩ | ⟨ad, kvs, rfl, rfl, g, q⟩
  · obtain rfl : u = Value.ref ad := ry
    exact d_in hu I g rx fun s3 I3 => ⟨.bl _, H, I3, rfl, by simpa using q⟩
  · obtain rfl : u = Value.ref ad := ry
    obtain rfl : v = Value.none := rx
    exact d_inNone I g fun s3 I3 => ⟨.bl false, H, I3, rfl, q⟩
theorem or_dnin {X : Cx} (hu : X.A.units + 1 < cLine) : OpR X (compareOp .NotIn) (rDin true) := by
  intro pins s σ H x y v u Q I rx ry h
  rcases h with ⟨ad, o, rfl, g, q⟩ | ⟨ad, kvs, rfl, rfl, g, q⟩
  · obtain rfl : u = Value.ref ad := ry
    exact d_notIn hu I g rx fun s3 I3 => ⟨.bl _, H, I3, rfl, by simpa using q⟩
  · obtain rfl : u = Value.ref ad := ry
    obtain rfl : v = Value.none := rx
    exact d_notInNone I g fun s3 I3 => ⟨.bl true, H, I3, rfl, q⟩
noncomputable def inGB (v u : Vl) (S : Sta) : Option Bool := match dicAt u S with
  | some kvs => match v with
    | .d .non => some false
    | .d x => match keyOf x with
      | some k => some (lookK kvs k).isSome
      | none => none
    | _ => none
  | none => match inB v u S with
    | some b => some b
    | none => match v, datOf u S with
      | .d x, some (.lst l) => if okD 60 x = true ∧ okD 60 (.lst l) = true then some (inD x l) else none
      | _, _ => none
noncomputable def inG (v u : Vl) (S : Sta) : Out Vl := match inGB v u S with
  | some b => .ok (.d (.bl b)) S
  | none => .bad
noncomputable def notInG (v u : Vl) (S : Sta) : Out Vl := match inGB v u S with
  | some b => .ok (.d (.bl (!b))) S
  | none => .bad
def rInG (K : PySem.W.Frag) (neg : Bool) : R2 := fun x y H Q => rInAll K neg x y H Q ∨ (rDin neg x y H Q ∨ (if neg = true then rNotInD K x y H Q else rInD K x y H Q))
theorem any_toPy (x : D) : ∀ l : List D, ((toPys l).any fun z => PyData.eqv z (toPy x)) = inD x l
  | [] => rfl
  | y :: r => by
    have ih := any_toPy x r
    unfold inD at *
    simp only [toPys, List.any_cons, ih]; rfl
theorem inG_read {neg : Bool} {W : WX} {σ : L2.St} {wd : Wd} {H : Hp} {S : Sta} {v u : Vl} {x y : V} {Q : VK} {c : Bool} (hh : HR g.K g.cls wd S H) (rv : RW g.K wd v x) (ru : RW g.K wd u y) (e : inGB v u S = some c) (h : OkE g.K g.cls W σ wd Q (.ok (.d (.bl (if neg = true then !c else c))) S)) : rInG g.K neg x y H Q := by
  have hQ : Q (.bl (if neg = true then !c else c)) H := h wd _ H (.refl _) hh rv_bl
  unfold inGB at e
  split at e
  · rename_i kvs ek
    obtain ⟨ad, vs, rfl, rd, rr⟩ := dic_at hh ru ek
    split at e
    · cases e
      have e1 := rd_non rv
      subst e1
      refine .inr (.inl (.inr ⟨ad, vs, rfl, rfl, rd, ?_⟩))
      cases neg <;> exact hQ
    · split at e
      · rename_i k ek2
        cases e
        refine .inr (.inl (.inl ⟨ad, valV vs k, rfl, .inl ⟨vs, k, rd, key_at rv ek2, rfl⟩, ?_⟩))
        have : (valV vs k).isSome = (lookK kvs k).isSome := by
          cases e3 : lookK kvs k with
          | none => rw [(rr.look k).2 e3]; rfl
          | some w => obtain ⟨v', e4, _⟩ := (rr.look k).1 w e3; rw [e4]; rfl
        rw [this]; exact hQ
      · cases e
    · cases e
  · split at e
    · rename_i b eb
      cases e
      exact .inl (in_read (neg := neg) (W := W) (σ := σ) hh rv ru eb h)
    · split at e
      · rename_i z l ed _
        split at e
        · rename_i ok
          cases e
          obtain ⟨d1, s1⟩ := dat_py (n := 60) hh rv (datOf_d z S) ok.1 (by decide)
          obtain ⟨d2, s2⟩ := dat_py (n := 60) hh ru ed ok.2 (by decide)
          refine .inr (.inr ?_)
          have a1 := any_toPy z l
          cases neg with
          | false => exact ⟨toPy z, toPys l, d1, d2, s1, s2, by rw [a1]; exact hQ⟩
          | true => exact ⟨toPy z, toPys l, d1, d2, s1, s2, by rw [a1]; exact hQ⟩
        · cases e
      · cases e
theorem opd_inG : OpD g (rInG g.K false) inG := by
  intro W σ wd H S v u x y Q hh rv ru h
  unfold inG at h
  split at h
  · rename_i b e; exact inG_read (neg := false) (W := W) (σ := σ) hh rv ru e h
  · exact h.elim
theorem opd_notInG : OpD g (rInG g.K true) notInG := by
  intro W σ wd H S v u x y Q hh rv ru h
  unfold notInG at h
  split at h
  · rename_i b e; exact inG_read (neg := true) (W := W) (σ := σ) hh rv ru e h
  · exact h.elim
theorem or_inG {X : Cx} {k : Nat} (r : Room k X.A) : OpR X (compareOp .In) (rInG X.K false) := or_in.or ((or_din (hu_of r)).or (op_inD (by have := r.un; omega)))
theorem or_notInG {X : Cx} {k : Nat} (r : Room k X.A) : OpR X (compareOp .NotIn) (rInG X.K true) := or_notIn.or ((or_dnin (hu_of r)).or (op_notInD (by have := r.un; omega)))
theorem je_inG (ha : JE g a Ta) (hb : JE g b Tb) (hm : behindInMarks .In b = false := by rfl) : JE g (.Compare a [.In] [b] pos) (eBin inG Ta Tb) := je_cmp (fun X hX => hX.K ▸ or_inG hX.room) opd_inG ha hb hm
theorem je_notInG (ha : JE g a Ta) (hb : JE g b Tb) (hm : behindInMarks .NotIn b = false := by rfl) : JE g (.Compare a [.NotIn] [b] pos) (eBin notInG Ta Tb) := je_cmp (fun X hX => hX.K ▸ or_notInG hX.room) opd_notInG ha hb hm
theorem jt_inG (ha : JE g a Ta) (hb : JE g b Tb) (hm : behindInMarks .In b = false := by rfl) : JT g (.Compare a [.In] [b] pos) (tOf (eBin inG Ta Tb)) := jt_cmp (fun X hX => hX.K ▸ or_inG hX.room) opd_inG ha hb hm
theorem jt_notInG (ha : JE g a Ta) (hb : JE g b Tb) (hm : behindInMarks .NotIn b = false := by rfl) : JT g (.Compare a [.NotIn] [b] pos) (tOf (eBin notInG Ta Tb)) := jt_cmp (fun X hX => hX.K ▸ or_notInG hX.room) opd_notInG ha hb hm
/-! ### len, list, dict, sorted -/
noncomputable def lenG (vs : List Vl) (S : Sta) : Out Vl := match vs with
  | [v] => match dicM v S with
    | some (_, kvs) => .ok (.d (.int kvs.length)) S
    | none => lenF [v] S
  | _ => .bad
theorem call_lenG : CallD g (fun xs H Q => (∃ x n, xs = [x] ∧ LenV g.K x H n ∧ Q (.int n) H) ∨ ∃ a kvs, xs = [V.ref a] ∧ H a = some (.dK kvs) ∧ Q (.int kvs.length) H) lenG := by
  intro W σ wd H S vs xs Q hh r h
  unfold lenG at h
  split at h
  · split at h
    · rename_i i kvs ek
      obtain ⟨x, rfl, rv⟩ := rws1 r
      obtain ⟨ad, vs, rfl, _, _, hd, rr⟩ := dicM_at hh rv ek
      exact .inr ⟨ad, vs, rfl, hd, by rw [← rr.len]; exact h wd _ H (.refl _) hh rv_int⟩
    · exact .inl (call_lenD' (g := g) W σ wd H S _ _ Q hh r h)
  · exact h.elim
theorem je_lenG (hg : GlS g "len") (hm : g.mg "len" = none) (ha : JA g [e] Ts) (he : ∀ env, starEach [e] env = (false, eval e env) :: starEach [] env := by intro _; rfl) : JE g (.Call (.Name "len" p) [e] [] pos) (eCall lenG Ts) :=
  je_callB (fun X hX => hX.K ▸ call_len.or call_lenD) call_lenG hg hm PySem.boot_len ha (he := he)
theorem rds_keys {K : PySem.W.Frag} {wd : Wd} : ∀ {ks : List Key}, (∀ k ∈ ks, ∀ x, k = .inr x → PyData.strOk x = true) → RDs K wd (ks.map keyD) (ks.map kV)
  | [], _ => by simp [RDs]
  | k :: r, h => by
    simp only [List.map_cons, RDs]
    refine ⟨kV k, _, rfl, ?_, rds_keys fun j hj => h j (List.mem_cons_of_mem _ hj)⟩
    cases k with
    | inl i => simp [keyD, kV, RD]
    | inr x => simp [keyD, kV, RD, h (.inr x) List.mem_cons_self x rfl]
def keysOk (kvs : List (Key × D)) : Bool := kvs.all fun kv => match kv.1 with
  | .inr x => PyData.strOk x
  | .inl _ => true
theorem keysOk_iff {kvs : List (Key × D)} (h : keysOk kvs = true) : ∀ k ∈ kvs.map (·.1), ∀ x, k = .inr x → PyData.strOk x = true := fun k hk x e => by
  obtain ⟨kv, hkv, rfl⟩ := List.mem_map.mp hk
  have := List.all_eq_true.mp h kv hkv
  rw [e] at this; exact this
noncomputable def listG (vs : List Vl) (S : Sta) : Out Vl := match vs with
  | [v] => match dicM v S with
    | some (_, kvs) => if keysOk kvs = true then .ok (.new (kvs.map fun kv => keyD kv.1)) S else .bad
    | none => listF [v] S
  | _ => .bad
theorem call_listG : CallD g (fun xs H Q => (∃ p ys, xs = [.ref p] ∧ (SqL g.K H p ys ∨ SqT g.K H p ys) ∧ ∀ l, H l = none → Q (.ref l) (upd H l (.lst ys))) ∨ rListD xs H Q) listG := by
  intro W σ wd H S vs xs Q hh r h
  unfold listG at h
  split at h
  · split at h
    · rename_i i kvs ek
      split at h
      · rename_i ko
        obtain ⟨x, rfl, rv⟩ := rws1 r
        obtain ⟨ad, vs, rfl, _, _, hd, rr⟩ := dicM_at hh rv ek
        refine .inr ⟨ad, vs, rfl, hd, fun q hq => ?_⟩
        have e1 : (vs.map fun kv => kV kv.1) = (kvs.map (·.1)).map kV := by rw [← rr.keys, List.map_map]; rfl
        have e2 : (kvs.map fun kv => keyD kv.1) = (kvs.map (·.1)).map keyD := by rw [List.map_map]; rfl
        rw [e2] at h
        rw [e1]
        obtain ⟨h1, r1⟩ := hh.newLst hq (rds_keys (keysOk_iff ko))
        exact h wd _ _ (.refl _) h1 r1
      · exact h.elim
    · exact .inl (call_listD (g := g) W σ wd H S _ _ Q hh r h)
  · exact h.elim
theorem je_listG (hg : GlS g "list") (hm : g.mg "list" = none) (ha : JA g [e] Ts) (he : ∀ env, starEach [e] env = (false, eval e env) :: starEach [] env := by intro _; rfl) : JE g (.Call (.Name "list" p) [e] [] pos) (eCall listG Ts) :=
  je_callTy (fun X hX => hX.K ▸ call_list_of.or (call_list_dK hX.calm)) call_listG hg hm (by decide +kernel) ha (he := he)
/-! ### stores -/
noncomputable def putAtG (o i : Vl) (x : D) (σ : Sl) (S : Sta) : SOut := match dicM o S with
  | some (n, kvs) => match i with
    | .d z => match keyOf z with
      | some k => if kvs.length < sizeLine then .nxt σ { S with P := S.P.set n (.dic (setK kvs k x)) } else .bad
      | none => .bad
    | _ => .bad
  | none => putAt o i x σ S
def rSetDk : V → V → V → Hp → (Hp → Prop) → Prop := fun o i v H Q => ∃ ad H', o = .ref ad ∧ DPut H ad i v H' ∧ Q H'
theorem set_dict {X : Cx} (hu : X.A.units + 1 < cLine) : PSet X rSetDk := by
  intro pins s σ H o i v ov iv u Q I ro ri rv h
  obtain ⟨ad, H', rfl, g, q⟩ := h
  obtain rfl : ov = Value.ref ad := ro
  exact d_setItem hu I g ri rv fun s3 I3 => ⟨H', I3, q⟩
theorem pset_or {X : Cx} {t t' : V → V → V → Hp → (Hp → Prop) → Prop} (h : PSet X t) (h' : PSet X t') : PSet X (fun o i v H Q => t o i v H Q ∨ t' o i v H Q) := by
  intro pins s σ H o i v ov iv u Q I ro ri rv q
  rcases q with q | q
  · exact h pins s σ H o i v ov iv u Q I ro ri rv q
  · exact h' pins s σ H o i v ov iv u Q I ro ri rv q
@[simp] noncomputable def sSubG (To Ti T : EV) : SV := fun σ S => (T σ S).st σ fun v S1 => match toD (frz v) S1 with
  | some (x, S2) => (To σ S2).st σ fun o S3 => (Ti σ S3).st σ fun i S4 => putAtG (frz o) (frz i) x σ S4
  | none => .bad
theorem js_subG {sp : Pos} (ho : JE g o To) (hi : JE g i Ti) (he : JE g e T) (hs : ∀ env, swapsWithSole [.Subscript o i sp] e pos.line env = pure false := by intro _; rfl) (hw : ∀ env, swappedStores [.Subscript o i sp] e env = pure none := by intro _; rfl)
    (h1 : ∀ env, (assignEach [.Subscript o i sp] env).map (·.2) = [assign (.Subscript o i sp) env] := by intro _; rfl)
    (ha : ∀ env v, assign (.Subscript o i sp) env v = (do
      let own ← holding [v] (eval o env)
      let at_ ← holding [v, own] (eval i env)
      standAt sp
      holding [v, own, at_] (setItem own at_ v)
      release [v, own, at_] []) := by intro _ _; rfl) : JS g (.Assign [.Subscript o i sp] e pos) (sSubG To Ti T) := fun X hX W tk =>
  (ps_asg (he X hX.toGood W tk) (pg_sub (ho X hX.toGood W tk) (hi X hX.toGood W tk) (pset_or set_list (set_dict (hu_of hX.room))) (ha X.env)) (hs X.env) (hw X.env) (h1 X.env)).imp fun E σ H h => by
  obtain ⟨wd, σ', S, hs, hh, h⟩ := h
  refine ⟨wd, σ', S, hs, hh, ?_⟩
  have h1 := st_read hs h
  revert h1
  cases T σ' S with
  | exc c fs S1 => intro h1; exact h1
  | bad => intro h1; exact h1
  | ok v S1 =>
    intro h1 wd1 y H1 l hr rv
    obtain ⟨v', wd2, S2, l2, hr2, rw2, h2⟩ := h1 wd1 y H1 l hr rv
    obtain ⟨wd3, l3, hr3, r3⟩ := rw2.frz hr2
    split at h2
    · rename_i z S3 ey
      obtain ⟨wd4, l4, hr4, r4⟩ := RW.toD hr3 r3 ey
      have hs4 := ((hs.mono l2).mono l3).mono l4
      refine ⟨wd4, σ', S3, hs4, hr4, ?_⟩
      have h3 := st_read hs4 (OkS.mono (l3.trans l4) h2)
      revert h3
      cases To σ' S3 with
      | exc c fs S5 => intro h3; exact h3
      | bad => intro h3; exact h3
      | ok v5 S5 =>
        intro h3 wd5 y5 H5 l5 hr5 rv5
        obtain ⟨v6, wd6, S6, l6, hr6, rw6, h6⟩ := h3 wd5 y5 H5 l5 hr5 rv5
        obtain ⟨wd7, l7, hr7, r7⟩ := rw6.frz hr6
        have hs7 := hs4.mono (l6.trans l7)
        refine ⟨wd7, σ', S6, hs7, hr7, ?_⟩
        have h8 := st_read hs7 (OkS.mono l7 h6)
        revert h8
        cases Ti σ' S6 with
        | exc c fs S5 => intro h3; exact h3
        | bad => intro h3; exact h3
        | ok v8 S8 =>
          intro h8 wd9 y9 H9 l9 hr9 rv9
          obtain ⟨v10, wd10, S10, l10, hr10, rw10, h10⟩ := h8 wd9 y9 H9 l9 hr9 rv9
          obtain ⟨wd11, l11, hr11, r11⟩ := rw10.frz hr10
          have h12 := OkS.mono l11 h10
          have r7' := (r7.mono l10).mono l11
          have r4' := RD.mono g.K (((l6.trans l7).trans l10).trans l11) _ _ r4
          have hs11 := hs7.mono (l10.trans l11)
          revert h12 r7' r11
          generalize frz v6 = fo
          generalize frz v10 = fi
          intro r11 h12 r7'
          unfold putAtG at h12
          split at h12
          · rename_i n kvs ek
            split at h12
            · rename_i z2
              split at h12
              · rename_i k ek2
                split at h12
                · rename_i hz
                  obtain ⟨ad, vs, rfl, ep, ea, hd, rr⟩ := dicM_at hr11 r7' ek
                  have r12 := rr.put k r4'
                  refine .inr ⟨ad, _, rfl, .inl ⟨vs, k, hd, key_at r11 ek2, by rw [← rr.len]; exact hz, rfl⟩, ?_⟩
                  exact h12 wd11 σ _ (.refl _) hs11 (hr11.setDic ep ea hd r12)
                · exact h12.elim
              · exact h12.elim
            · exact h12.elim
          · unfold putAt at h12
            split at h12
            · rename_i b _
              split at h12
              · rename_i kk
                split at h12
                · rename_i lst el
                  split at h12
                  · rename_i j ej
                    obtain ⟨a, rfl, ea⟩ := r7'
                    obtain ⟨a', vs, e1, e2, e3, rr⟩ := hr11.live b lst el
                    rw [ea] at e1; cases e1
                    refine .inl ⟨a, vs, kk, j, rfl, rd_int r11, e2, by rw [← rr.length]; exact ej, ?_⟩
                    exact h12 wd11 σ _ (.refl _) hs11 (hr11.setBox el ea (rr.set j r4'))
                  · exact h12.elim
                · exact h12.elim
              · exact h12.elim
            · exact h12.elim
    · exact h2.elim
/-! ### del d[k] -/
@[simp] noncomputable def sDel (To Ti : EV) : SV := fun σ S => (To σ S).st σ fun o S3 => (Ti σ S3).st σ fun i S4 => match dicM (frz o) S4 with
  | some (n, kvs) => match frz i with
    | .d z => match keyOf z with
      | some k => if (lookK kvs k).isSome = true then .nxt σ { S4 with P := S4.P.set n (.dic (delK kvs k)) } else .bad
      | none => .bad
    | _ => .bad
  | none => .bad
theorem js_del {sp : Pos} (ho : JE g o To) (hi : JE g i Ti) : JS g (.Delete [.Subscript o i sp] pos) (sDel To Ti) := fun X hX W tk =>
  (ps_ddel (ho X hX.toGood W tk) (hi X hX.toGood W tk)).imp fun D σ H h => by
  obtain ⟨wd, σ', S, hs, hh, h⟩ := h
  refine ⟨wd, σ', S, hs, hh, ?_⟩
  have h1 := stO_read (f := fun o S3 => (Ti σ' S3).st σ' fun i S4 => match dicM o S4 with
    | some (n, kvs) => match frz i with
      | .d z => match keyOf z with
        | some k => if (lookK kvs k).isSome = true then .nxt σ' { S4 with P := S4.P.set n (.dic (delK kvs k)) } else .bad
        | none => .bad
      | _ => .bad
    | none => .bad) hs h
  revert h1
  cases To σ' S with
  | exc c fs S1 => exact fun h => h
  | bad => exact fun h => h
  | ok v S1 =>
    intro h1 wd1 y H1 l hr rv
    obtain ⟨v', wd2, S2, l2, hr2, rw2, h2⟩ := h1 wd1 y H1 l hr rv
    refine ⟨wd2, σ', S2, hs.mono l2, hr2, ?_⟩
    have h3 := stO_read (f := fun i S4 => match dicM v' S4 with
      | some (n, kvs) => match i with
        | .d z => match keyOf z with
          | some k => if (lookK kvs k).isSome = true then .nxt σ' { S4 with P := S4.P.set n (.dic (delK kvs k)) } else .bad
          | none => .bad
        | _ => .bad
      | none => .bad) (hs.mono l2) h2
    revert h3
    cases Ti σ' S2 with
    | exc c fs S1 => exact fun h => h
    | bad => exact fun h => h
    | ok w S3 =>
      intro h3 wd3 z H3 l3 hr3 rv3
      obtain ⟨w', wd4, S4, l4, hr4, rw4, h4⟩ := h3 wd3 z H3 l3 hr3 rv3
      split at h4
      · rename_i n kvs ek
        split at h4
        · rename_i z2
          split at h4
          · rename_i k ek2
            split at h4
            · rename_i hz
              obtain ⟨ad, vs, rfl, ep, ea, hd, rr⟩ := dicM_at hr4 (rw2.mono l4) ek
              have some' : (valV vs k).isSome = true := by
                cases e3 : lookK kvs k with
                | none => rw [e3] at hz; cases hz
                | some w => obtain ⟨v', e4, _⟩ := (rr.look k).1 w e3; rw [e4]; rfl
              exact ⟨ad, vs, k, rfl, hd, key_at rw4 ek2, some', h4 wd4 σ _ (.refl _) ((hs.mono l2).mono l4) (hr4.setDic ep ea hd (rr.del k))⟩
            · exact h4.elim
          · exact h4.elim
        · exact h4.elim
      · exact h4.elim
end
end Ev

set_option Elab.async false
set_option linter.all false
set_option maxRecDepth 100000
set_option maxHeartbeats 1000000
/-! Ev28: an own class's == as a test. -/
namespace Ev
open PySem PySem.Spec PyProof.Rows L2
open Classical
section
variable {X : Cx} {CX : CXT} {k : Nat} {f C : Addr} {fd : FuncData} {ps : List Str} {sp : Sp} {E : L2.St → XK} {pos : Pos} {a b : Expr} {ta tb : TE}
theorem pc_own_eq (O : OwnOp X CX E C "__eq__" f k fd ps sp) (ha : PE X a ta) (hb : PE X b tb) : PC X .Eq a b (tOwn2 C sp E (fun y H => ∃ t, TyX X.K H y t ∧ PySem.W.notFirst X.K C t = true) ta tb) := by
  refine ⟨fun pins s σ H Q I h => binT ha hb I h fun v u s2 x y H2 I2 rx ry q => ?_⟩
  obtain ⟨ad, dx, fs, rfl, ea, ⟨t, ty, nf⟩, q⟩ := q
  obtain rfl : v = Value.ref ad := rx
  obtain ⟨ox, od, J⟩ := inst_at I2 ea
  obtain ⟨m, hF⟩ := I2.fr
  obtain ⟨Pz, Z, pz, _⟩ := kit_of I2 ry ty
  show wpAny _ _ (richCompare .Eq (.ref ad) u) _ _ _
  refine PySem.W.cmp_K (op := .Eq) (tb := t) (O.room.mono (Nat.le_succ k)).units0 hF I2.ok.mod.kin J (Z.ty _ _ I2.kIn pz) nf O.at_.at_ O.at_.fn ?_
  refine wpAny_mono (run_own (us := [.ref ad, u]) (vs := [.ref ad, y]) O.F (O.room.mono (Nat.le_succ k)) I2.env0 O.bnd (O.pass σ) I2 (.cons rfl (.cons ry .nil)) q) (fun w s3 z => ?_) fun _ _ x => x
  obtain ⟨z', H3, I3, rz, qz⟩ := z
  exact SlX.cmpback rz ⟨z', H3, I3, rz, qz⟩
end
section
variable {g : G} {f : Addr} {F : FV} {pos : Pos} {a b : Expr} {Ta Tb : EV}
theorem jt_own_eq (c : String) {k0 : Nat} (h : FnJ { g with k := k0 } f [] F) (hk0 : k0 + 1 ≤ g.k) (hm : Meth g.K (g.cls c) "__eq__" f) (nf : Ty → Bool) (hn : ∀ t, nf t = true → PySem.W.notFirst g.K (g.cls c) (t.val g.cls) = true ∧ ∀ n, t = .c n → InsTy g.K (g.cls n)) (ha : JE g a Ta) (hb : JE g b Tb) (hmk : behindInMarks .Eq b = false := by first | exact nomark _ | rfl) :
    JT g (.Compare a [.Eq] [b] pos) (tOf (eOwn2 c F (tyOk nf) Ta Tb)) := fun X hX W tk => by
  obtain ⟨fd, k, ps, O, har⟩ := own_op h hk0 hX tk hm
  refine (pt_cmp (pc_own_eq O (ha X hX W tk) (hb X hX W tk)) hmk).imp fun σ H Q q => own2_read har (fun wd H S u y hh ru q => ?_) (of_test q)
  unfold tyOk at q
  split at q
  · rename_i t et
    have z := hn t q
    exact ⟨t.val g.cls, by rw [hX.K]; exact tyV_x hh ru z.2 et, by rw [hX.K]; exact z.1⟩
  · cases q
end
section
/-! list(text) -/
variable {K : PySem.W.Frag} {wd : Wd} {g : G} {pos : Pos} {e : Expr} {Ts : EVs}
theorem call_list_signs {X : Cx} (hc : X.calm = true) : CallR X (.type "list") (fun xs H Q => ∃ x : Str, xs = [V.str x] ∧ x.cps.size ≤ sizeLine ∧ ∀ q, H q = none → Q (.ref q) (upd H q (.lst (x.cps.toList.map fun c => V.str ⟨#[c]⟩)))) := by
  intro pins s σ H xs us Q I r h
  obtain ⟨x, ex, hn, q⟩ := h
  subst ex
  obtain ⟨u, eu, rx⟩ := vals1 r
  subst eu
  obtain ⟨t, rfl⟩ := rx
  refine call_list_str (I.ok.hd hc) x t (hn := hn) fun h' tk acc' c' hkeep hS hacc => ?_
  refine ⟨.ref s.heap.objs.size, upd H s.heap.objs.size (.lst (x.cps.toList.map fun c => V.str ⟨#[c]⟩)), I.laid hkeep (Nat.le_refl _) (show ObjOk X.prog X.w _ _ _ (.lst (x.cps.toList.map fun c => V.str ⟨#[c]⟩)) from ⟨by simpa using hn, acc'.toList, c', ?_, by rw [Array.toArray_toList]; exact hS⟩), rfl, q _ (I.hok.fresh (Nat.le_refl _))⟩
  refine vals_of_at (by simp [hacc.1]) fun j y w h1 h2 => ?_
  obtain ⟨c, u, hcx, rfl⟩ := hacc.2 j w (by rw [← Array.getElem?_toList]; exact h2)
  rw [List.getElem?_map, Array.getElem?_toList, hcx] at h1
  cases h1
  exact ⟨u, rfl⟩
theorem rds_signs : ∀ {l : List Nat}, (∀ c ∈ l, PyData.strOk ⟨#[c]⟩ = true) → RDs K wd (l.map fun c => D.str ⟨#[c]⟩) (l.map fun c => V.str ⟨#[c]⟩)
  | [], _ => by simp [RDs]
  | c :: r, h => by
    simp only [List.map_cons, RDs]
    exact ⟨_, _, rfl, by simp [RD, h c List.mem_cons_self], rds_signs fun d hd => h d (List.mem_cons_of_mem _ hd)⟩
noncomputable def listT (vs : List Vl) (S : Sta) : Out Vl := match vs with
  | [v] => match v with
    | .d (.str x) => if x.length ≤ sizeLine then .ok (.new (chrs x)) S else .bad
    | v => listG [v] S
  | _ => .bad
theorem call_listT : CallD g (fun xs H Q => ((∃ p ys, xs = [.ref p] ∧ (SqL g.K H p ys ∨ SqT g.K H p ys) ∧ ∀ l, H l = none → Q (.ref l) (upd H l (.lst ys))) ∨ rListD xs H Q) ∨ ∃ x : Str, xs = [V.str x] ∧ x.cps.size ≤ sizeLine ∧ ∀ q, H q = none → Q (.ref q) (upd H q (.lst (x.cps.toList.map fun c => V.str ⟨#[c]⟩)))) listT := by
  intro W σ wd H S vs xs Q hh r h
  unfold listT at h
  split at h
  · split at h
    · rename_i x
      split at h
      · rename_i hn
        obtain ⟨y, rfl, rv⟩ := rws1 r
        obtain ⟨rfl, hz⟩ := rd_str rv
        refine .inr ⟨x, rfl, hn, fun q hq => ?_⟩
        obtain ⟨h1, r1⟩ := hh.newLst hq (rds_signs (K := g.K) (wd := wd) (l := x.cps.toList) fun c hc => strOk_iff.mpr fun d hd => by
          have e : d = c := by simpa using hd
          subst e; exact strOk_iff.mp hz d hc)
        exact h wd _ _ (.refl _) h1 r1
      · exact h.elim
    · exact .inl (call_listG (g := g) W σ wd H S _ _ Q hh r h)
  · exact h.elim
theorem je_listT (hg : GlS g "list") (hm : g.mg "list" = none) (ha : JA g [e] Ts) (he : ∀ env, starEach [e] env = (false, eval e env) :: starEach [] env := by intro _; rfl) : JE g (.Call (.Name "list" p) [e] [] pos) (eCall listT Ts) :=
  je_callTy (fun X hX => hX.K ▸ (call_list_of.or (call_list_dK hX.calm)).or (call_list_signs hX.calm)) call_listT hg hm (by decide +kernel) ha (he := he)
end
end Ev

set_option Elab.async false
set_option linter.all false
set_option maxRecDepth 100000
set_option maxHeartbeats 1000000
/-! Ev29: tuples of texts of the top; in over a tuple of any data; properties that give a field. -/
namespace Ev
open PySem PySem.Spec PyProof.Rows L2
open Classical
/-! ### a name of the top that holds a tuple of texts -/
def strsB : List Value → List Str → Bool
  | [], [] => true
  | .str x _ :: r, w :: q => decide (x = w) && (PyData.strOk w && strsB r q)
  | _, _ => false
def tupB (x : String) (ws : List Str) (K : PySem.W.Frag) : Bool := match K.lookup (He.ga K (enc x)) with
  | some ⟨.type n, _, .seq its _, _⟩ => decide (n = "tuple") && (decide (its.size ≤ sizeLine) && strsB its.toList ws)
  | _ => false
theorem strsB_ok {K : PySem.W.Frag} {wd : Wd} : ∀ {its : List Value} {ws : List Str}, strsB its ws = true → Vals (ws.map V.str) its ∧ RDs K wd (ws.map D.str) (ws.map V.str)
  | [], [], _ => ⟨.nil, by simp [RDs]⟩
  | [], _ :: _, h => by cases h
  | v :: r, [], h => by cases v <;> cases h
  | v :: r, w :: q, h => by
    cases v <;> try (cases h; done)
    rename_i x t
    unfold strsB at h
    simp only [Bool.and_eq_true, decide_eq_true_eq] at h
    obtain ⟨rfl, h1, h2⟩ := h
    obtain ⟨i1, i2⟩ := strsB_ok (K := K) (wd := wd) h2
    refine ⟨.cons ⟨t, rfl⟩ i1, ?_⟩
    simp only [List.map_cons, RDs]
    exact ⟨_, _, rfl, by simp [RD, h1], i2⟩
section
variable {g : G} {pos apos p : Pos} {x : Str} {a b e : Expr} {Ta Tb T : EV}
theorem je_gtup (y : String) (ws : List Str) (hk : tupB y ws g.K = true) (hm : g.mg x = some (.ref (He.ga g.K (enc y)))) (hg : g.sc.names.lookup x = some .globalImplicit := by rfl) (hd : (x == ("__debug__" : Str)) = false := by decide) : JE g (.Name x pos) (eC (.tup (ws.map .str))) := fun X hX W tk => by
  refine (pe_glob (X := X) (v := .ref (He.ga g.K (enc y))) (gl_of hX hg) (by rw [hX.mg]; exact hm) rfl hd).imp fun σ H Q h => ?_
  obtain ⟨wd, σ', S, hs, hh, h⟩ := h
  refine h wd _ H (.refl _) hh ?_
  unfold tupB at hk
  split at hk
  · rename_i n dd its m sl el
    simp only [Bool.and_eq_true, decide_eq_true_eq] at hk
    obtain ⟨rfl, h1, h2⟩ := hk
    obtain ⟨i1, i2⟩ := strsB_ok (K := g.K) (wd := wd) h2
    simp only [RV, RD]
    exact ⟨_, ws.map V.str, rfl, .inr ⟨_, its, m, el, rfl, rfl, h1, i1⟩, i2⟩
  · cases hk
/-! ### in over a tuple of any data -/
def rInT (K : PySem.W.Frag) (neg : Bool) : R2 := fun x y H Q => ∃ d ds, Dp K H x d ∧ Dp K H y (.tuple ds) ∧ SeqAt.shaped d = true ∧ SeqAt.shaped (.tuple ds) = true ∧ Q (.bl (if neg = true then !(ds.any fun z => PyData.eqv z d) else ds.any fun z => PyData.eqv z d)) H
theorem or_inT {X : Cx} (hu : X.A.units + 65 < cLine) : OpR X (compareOp .In) (rInT X.K false) := by
  intro pins s σ H x y v u Q I rx ry ⟨d, ds, hd, he, sd, se, q⟩
  obtain ⟨as, r1⟩ := Dp.reads I d x v hd rx
  obtain ⟨bs, r2⟩ := Dp.reads I (.tuple ds) y u he ry
  exact SeqAt.in_tuple_reads r2 r1 (SeqAt.canLay_of_shaped se) (SeqAt.canLay_of_shaped sd) (room_in_shaped sd hu) ⟨.bl _, H, I, rfl, q⟩
theorem or_notInT {X : Cx} (hu : X.A.units + 65 < cLine) : OpR X (compareOp .NotIn) (rInT X.K true) := by
  intro pins s σ H x y v u Q I rx ry ⟨d, ds, hd, he, sd, se, q⟩
  obtain ⟨as, r1⟩ := Dp.reads I d x v hd rx
  obtain ⟨bs, r2⟩ := Dp.reads I (.tuple ds) y u he ry
  exact SeqAt.notIn_tuple_reads r2 r1 (SeqAt.canLay_of_shaped se) (SeqAt.canLay_of_shaped sd) (room_in_shaped sd hu) ⟨.bl _, H, I, rfl, q⟩
noncomputable def inTF (neg : Bool) (v u : Vl) (S : Sta) : Out Vl := match v, u with
  | .d x, .d (.tup l) => if okD 60 x = true ∧ okD 60 (.tup l) = true then .ok (.d (.bl (if neg = true then !inD x l else inD x l))) S else .bad
  | _, _ => .bad
theorem opd_inT (neg : Bool) : OpD g (rInT g.K neg) (inTF neg) := by
  intro W σ wd H S v u x y Q hh rv ru h
  unfold inTF at h
  split at h
  · rename_i z l
    split at h
    · rename_i ok
      obtain ⟨d1, s1⟩ := dat_py (n := 60) hh rv (datOf_d z S) ok.1 (by decide)
      obtain ⟨d2, s2⟩ := dat_py (n := 60) hh ru (datOf_d (.tup l) S) ok.2 (by decide)
      refine ⟨toPy z, toPys l, d1, d2, s1, s2, ?_⟩
      rw [any_toPy z l]
      exact h wd _ H (.refl _) hh rv_bl
    · exact h.elim
  · exact h.elim
theorem je_inT (ha : JE g a Ta) (hb : JE g b Tb) (hm : behindInMarks .In b = false := by rfl) : JE g (.Compare a [.In] [b] pos) (eBin (inTF false) Ta Tb) := je_cmp (fun X hX => hX.K ▸ or_inT (by have := hX.room.un; omega)) (opd_inT false) ha hb hm
theorem je_notInT (ha : JE g a Ta) (hb : JE g b Tb) (hm : behindInMarks .NotIn b = false := by rfl) : JE g (.Compare a [.NotIn] [b] pos) (eBin (inTF true) Ta Tb) := je_cmp (fun X hX => hX.K ▸ or_notInT (by have := hX.room.un; omega)) (opd_inT true) ha hb hm
theorem jt_inT (ha : JE g a Ta) (hb : JE g b Tb) (hm : behindInMarks .In b = false := by rfl) : JT g (.Compare a [.In] [b] pos) (tOf (eBin (inTF false) Ta Tb)) := jt_cmp (fun X hX => hX.K ▸ or_inT (by have := hX.room.un; omega)) (opd_inT false) ha hb hm
theorem jt_notInT (ha : JE g a Ta) (hb : JE g b Tb) (hm : behindInMarks .NotIn b = false := by rfl) : JT g (.Compare a [.NotIn] [b] pos) (tOf (eBin (inTF true) Ta Tb)) := jt_cmp (fun X hX => hX.K ▸ or_notInT (by have := hX.room.un; omega)) (opd_inT true) ha hb hm
end
/-! ### a property whose getter gives a field -/
def getAdr (K : PySem.W.Frag) (c m : Str) : Addr := match PySem.W.recIn K (He.fAd K (c, some m)) "property" with
  | some (.ref a :: _) => a
  | _ => 0
def selfArg : Arguments → Bool
  | ⟨[], [⟨a, none, _⟩], none, [], [], none, []⟩ => decide (a = "self")
  | _ => false
def retFld (f : Str) : FuncBody → Bool
  | .stmts [.Return (some (.Attribute (.Name x _) y _)) _] => decide (x = "self") && decide (y = f)
  | _ => false
def getB (K : PySem.W.Frag) (a : Addr) (f : Str) : Bool := match K.lookup a with
  | some ⟨_, _, .func fd, _⟩ => decide (fd.globals = mainGlobals) && (decide (fd.closure = []) && (decide (fd.builtins = builtinsNs) && (decide (fd.defaults = .none) && (PySem.W.codeIn K fd.code fd.qualname && (selfArg fd.params && (retFld f fd.body && decide (fd.scope = ⟨.function, [("self", .local)], false, false, []⟩)))))))
  | _ => false
def propB (c m f : String) (K : PySem.W.Frag) : Bool :=
  He.eqO (PySem.W.findIn K (.ref (He.ga K (enc c))) (enc m)) (some (some (.ref (He.fAd K (enc c, some (enc m)))))) && (He.eqO (PySem.W.specialIn K (.ref (He.fAd K (enc c, some (enc m)))) "__get__") (some (some (.builtin "property.__get__"))) &&
  (decide (PySem.W.takesIn K (.ref (He.fAd K (enc c, some (enc m)))) = some true) && ((match PySem.W.recIn K (He.fAd K (enc c, some (enc m))) "property" with
    | some (.ref _ :: _) => true
    | _ => false) && getB K (getAdr K (enc c) (enc m)) (enc f))))
theorem prop_of {K : PySem.W.Frag} {c m f : String} (h : propB c m f K = true) : PropOf K (He.ga K (enc c)) (enc m) (He.fAd K (enc c, some (enc m))) (getAdr K (enc c) (enc m)) ∧ getB K (getAdr K (enc c) (enc m)) (enc f) = true := by
  unfold propB at h
  obtain ⟨h1, h⟩ := He.ba h
  obtain ⟨h2, h⟩ := He.ba h
  obtain ⟨h3, h⟩ := He.ba h
  obtain ⟨h4, h5⟩ := He.ba h
  refine ⟨⟨He.eqO_ok h1, He.eqO_ok h2, of_decide_eq_true h3, ?_⟩, h5⟩
  split at h4
  · rename_i a r e
    refine ⟨r, ?_⟩
    unfold getAdr
    rw [e]
  · cases h4
theorem getter_of {CX : CXT} {P : Program} {w : World} {K : PySem.W.Frag} {mg : Str → Option Value} {base : Heap} {k : Nat} {a C : Addr} {f : Str} (h : getB K a f = true) (c : Cls K C) (n : NoAttr K C f) :
    ∃ fd, FnOk P w K mg base CX (k + 1) a fd ["self"] (getSp C f) ∧ Binds K fd ["self"] [] := by
  unfold getB at h
  split at h
  · rename_i oc od fd osl lk
    obtain ⟨n1, n2, n3, n4, n5, n6, n7, n8, n9, n10, n11, n12, n13, n14, n15⟩ := fd
    simp only [Bool.and_eq_true, decide_eq_true_eq] at h
    obtain ⟨rfl, rfl, rfl, rfl, h5, h6, h7, rfl⟩ := h
    unfold retFld at h7
    split at h7
    · rename_i x p1 y p2 p3
      simp only [Bool.and_eq_true, decide_eq_true_eq] at h7
      obtain ⟨rfl, rfl⟩ := h7
      unfold selfArg at h6
      split at h6
      · rename_i z q1
        have ez : z = "self" := of_decide_eq_true h6
        subst ez
        refine ⟨_, fn_getter (N := ["self"]) (p1 := p1) (p2 := p2) (p3 := p3) lk h5 ⟨rfl, rfl, rfl, by decide, rfl, fun x hx => .inl ?_, fun y hy => ?_⟩ rfl rfl c n, ?_⟩
        · have : x = "self" := by simpa using hx
          subst this; rfl
        · have : y = (("self" : Str), NameKind.local) := by simpa using hy
          subst this; decide
        · refine Binds.all fun us hl => ?_
          match us, hl with
          | [_], _ => rfl
      · cases h6
    · cases h7
  · cases h
section
variable {g : G} {pos : Pos} {e : Expr} {T : EV} {M : Str}
theorem je_prop (c m f : String) (hp : propB c m f g.K = true) (hc : Cls g.K (g.cls c)) (hn : NoAttr g.K (g.cls c) (enc f)) (hga : g.cls c = He.ga g.K (enc c)) (hk : 2 ≤ g.k) (he : JE g e T) (em : M = enc m := by decide +kernel) (hb : ∀ env, attributeBase e M env (eval e env) = eval e env := by intro _; rfl) : JE g (.Attribute e M pos) (eUn (fldF c f) T) := fun X hX W tk => by
  obtain ⟨pr, gb⟩ := prop_of hp
  obtain ⟨fd, F, bn⟩ := getter_of (CX := L2.CX g.P g.w) (P := g.P) (w := g.w) (mg := g.mg) (base := g.base) (k := 0) gb (hga ▸ hc) (hga ▸ hn)
  subst em
  have hx : Passes (L2.CX g.P g.w) X.nox (fun _ _ _ => False) := fun _ _ _ _ _ _ _ q => by
    obtain ⟨_, _, _, _, _, _, _, _, _, _, _, _, z⟩ := q
    exact z.elim
  refine (pe_prop (he X hX W tk) (C := g.cls c) (by rw [hX.K]; exact hc) (by rw [hX.K, hga]; exact pr) (FnOk.to hX F) (hX.room.mono hk) (by rw [hX.K]; exact bn) .nil hx (hb X.env)).imp fun σ H Q h => ?_
  refine un_read (r := fun x H1 Q => ∃ a dx fs, x = .ref a ∧ H1 a = some (.ins (g.cls c) dx fs) ∧ getSp (He.ga g.K (enc c)) (enc f) [.ref a] H1 Q (fun _ _ _ => False)) (fun W σ wd H S v x Q hh rv h' => ?_) h
  unfold fldF at h'
  split at h'
  · rename_i i
    split at h'
    · rename_i c' fs ei
      split at h'
      · rename_i ec
        subst ec
        split at h'
        · rename_i y ey
          simp only [RW, RD] at rv
          obtain ⟨a, rfl, ea⟩ := rv
          obtain ⟨a', ea', dx, vfs, hx, rf⟩ := hh.ob i _ ei
          rw [ea] at ea'; cases ea'
          obtain ⟨w, e1, e2⟩ := (rf.look (f := f)).1 y ey
          exact ⟨a, dx, vfs, rfl, hx, a, dx, vfs, w, rfl, hga ▸ hx, e1, h' wd _ H (.refl _) hh e2⟩
        · exact h'.elim
      · exact h'.elim
    · exact h'.elim
  · exact h'.elim
end
end Ev

set_option Elab.async false
set_option linter.all false
set_option maxRecDepth 100000
set_option maxHeartbeats 1000000
/-! Ew1: what is to be shown of a run, from its end backwards. -/
namespace Ev
open PySem PySem.Spec PyProof.Rows L2
open Classical
abbrev XP := String → XFs → Sta → Prop
abbrev XPS := String → XFs → Sl → Sta → Prop
def wp {α : Type} (o : Out α) (Q : α → Sta → Prop) (X : XP) : Prop := match o with
  | .ok a S => Q a S
  | .exc c fs S => X c fs S
  | .bad => False
def ws (o : SOut) (nx : Sl → Sta → Prop) (rt : Vl → Sta → Prop) (bk ct : Sl → Sta → Prop) (ex : XPS) : Prop := match o with
  | .nxt σ S => nx σ S
  | .ret v S => rt v S
  | .brk σ S => bk σ S
  | .cnt σ S => ct σ S
  | .exc c fs σ S => ex c fs σ S
  | .bad => False
def wE {α : Type} (T : Sl → Sta → Out α) (σ : Sl) (S : Sta) (Q : α → Sta → Prop) (X : XP) : Prop := wp (T σ S) Q X
def wS (T : SV) (σ : Sl) (S : Sta) (nx : Sl → Sta → Prop) (rt : Vl → Sta → Prop) (bk ct : Sl → Sta → Prop) (ex : XPS) : Prop := ws (T σ S) nx rt bk ct ex
/-- two ways -/
def br (k : Bool) (A B : Prop) : Prop := (k = true → A) ∧ (k = false → B)
def isB (v : Vl) (R : Bool → Prop) : Prop := ∃ k, v = .d (.bl k) ∧ R k
abbrev noX : XP := fun _ _ _ => False
theorem isB_bl {k : Bool} {R : Bool → Prop} (h : R k) : isB (.d (.bl k)) R := ⟨k, rfl, h⟩
section
variable {A B : Prop} {k : Bool} {p : Prop}
theorem br_true (h : A) : br true A B := ⟨fun _ => h, fun z => by cases z⟩
theorem br_false (h : B) : br false A B := ⟨fun z => (by cases z), fun _ => h⟩
theorem br_not (h : br k B A) : br (!k) A B := ⟨fun z => h.2 (by simpa using z), fun z => h.1 (by simpa using z)⟩
theorem br_dec [d : Decidable p] (h1 : p → A) (h2 : ¬ p → B) : br (@decide p d) A B := ⟨fun z => h1 (by simpa using z), fun z => h2 (by simpa using z)⟩
theorem br_decT [d : Decidable p] (hp : p) (h : A) : br (@decide p d) A B := ⟨fun _ => h, fun z => absurd hp (by simpa using z)⟩
theorem br_decF [d : Decidable p] (hp : ¬ p) (h : B) : br (@decide p d) A B := ⟨fun z => absurd (by simpa using z) hp, fun _ => h⟩
theorem br_T (e : k = true) (h : A) : br k A B := ⟨fun _ => h, fun z => by rw [e] at z; cases z⟩
theorem br_F (e : k = false) (h : B) : br k A B := ⟨fun z => (by rw [e] at z; cases z), fun _ => h⟩
theorem br_any (h1 : k = true → A) (h2 : k = false → B) : br k A B := ⟨h1, h2⟩
theorem br_both (h1 : A) (h2 : B) : br k A B := ⟨fun _ => h1, fun _ => h2⟩
end
section
variable {α β : Type} {o : Out α} {Q Q' : α → Sta → Prop} {X X' : XP}
theorem wp_bind {f : α → Sta → Out β} {Q : β → Sta → Prop} : wp (o.bind f) Q X ↔ wp o (fun a S => wp (f a S) Q X) X := by
  cases o <;> rfl
theorem wp_mono (h : wp o Q X) (q : ∀ a S, Q a S → Q' a S) (x : ∀ c fs S, X c fs S → X' c fs S) : wp o Q' X' := by
  cases o with
  | ok a S => exact q _ _ h
  | exc c fs S => exact x _ _ _ h
  | bad => exact h
theorem wp_monoQ (h : wp o Q X) (q : ∀ a S, Q a S → Q' a S) : wp o Q' X := wp_mono h q fun _ _ _ h => h
theorem wp_noX (h : wp o Q noX) : wp o Q X := wp_mono h (fun _ _ h => h) fun _ _ _ h => h.elim
theorem wp_ok {a : α} {S : Sta} (h : Q a S) : wp (.ok a S) Q X := h
theorem wp_exc {c fs} {S : Sta} (h : X c fs S) : wp (.exc c fs S : Out α) Q X := h
theorem wp_eq {o' : Out α} (e : o = o') (h : wp o' Q X) : wp o Q X := e ▸ h
theorem wp_of {a : α} {S : Sta} (e : o = .ok a S) (h : Q a S) : wp o Q X := by rw [e]; exact h
/-- it ends well -/
theorem ok_of_wp (h : wp o Q noX) : ∃ a S, o = .ok a S ∧ Q a S := by
  cases o with
  | ok a S => exact ⟨a, S, rfl, h⟩
  | exc c fs S => exact h.elim
  | bad => exact h.elim
theorem wE_def {T : Sl → Sta → Out α} {σ : Sl} {S : Sta} (h : wp (T σ S) Q X) : wE T σ S Q X := h
end
theorem ws_mono {o : SOut} {nx nx' : Sl → Sta → Prop} {rt rt' : Vl → Sta → Prop} {bk bk' ct ct' : Sl → Sta → Prop} {ex ex' : XPS} (h : ws o nx rt bk ct ex) (h1 : ∀ σ S, nx σ S → nx' σ S) (h2 : ∀ v S, rt v S → rt' v S) (h3 : ∀ σ S, bk σ S → bk' σ S)
    (h4 : ∀ σ S, ct σ S → ct' σ S) (h5 : ∀ c fs σ S, ex c fs σ S → ex' c fs σ S) : ws o nx' rt' bk' ct' ex' := by
  cases o with
  | nxt σ S => exact h1 _ _ h
  | ret v S => exact h2 _ _ h
  | brk σ S => exact h3 _ _ h
  | cnt σ S => exact h4 _ _ h
  | exc c fs σ S => exact h5 _ _ _ _ h
  | bad => exact h
/-! ### expressions -/
section
variable {σ : Sl} {S : Sta} {Q : Vl → Sta → Prop} {X : XP} {T Ta Tb To : EV} {Ts Tk : EVs} {TA TB : TV}
theorem wE_var {i : Nat} {v : Vl} (h : σ[i]? = some (some v)) (k : Q v S) : wE (eVar i) σ S Q X := by
  unfold wE eVar; rw [h]; exact k
theorem wE_c {x : D} (k : Q (.d x) S) : wE (eC x) σ S Q X := k
theorem wE_bin {f} (k : wE Ta σ S (fun v S1 => wE Tb σ S1 (fun u S2 => wp (f (frz v) (frz u) S2) Q X) X) X) : wE (eBin f Ta Tb) σ S Q X := by
  unfold wE eBin; rw [wp_bind]; refine wp_monoQ k fun v S1 h => ?_
  unfold wE at h; rw [wp_bind]; exact h
theorem wE_un {f} (k : wE T σ S (fun v S1 => wp (f (frz v) S1) Q X) X) : wE (eUn f T) σ S Q X := by
  unfold wE eUn; rw [wp_bind]; exact k
theorem wE_isTy {n : String} {X} (k : wE T σ S (fun v S1 => ∃ t b, tyN (frz v) S1 = some t ∧ isTab t n = some b ∧ Q (.d (.bl b)) S1) X) : wE (eIsTy n T) σ S Q X := by
  unfold eIsTy
  refine wE_un (wp_monoQ k fun v S1 h => ?_)
  obtain ⟨t, b, e1, e2, h⟩ := h
  rw [e1]; dsimp only; rw [e2]; exact h
theorem wE_call {f} (k : wE Ts σ S (fun vs S1 => wp (f vs S1) Q X) X) : wE (eCall f Ts) σ S Q X := by
  unfold wE eCall; rw [wp_bind]; exact k
theorem wE_callF {F : FV} (k : wE Ts σ S (fun vs S1 => wp (F vs S1) Q X) X) : wE (eCallF F [] Ts) σ S Q X := by
  unfold wE eCallF; rw [wp_bind]
  refine wp_monoQ k fun v S1 h => ?_
  rw [List.map_nil, List.append_nil]; exact h
theorem wE_callFd {F : FV} {dfl : List D} (k : wE Ts σ S (fun vs S1 => wp (F (vs ++ dfl.map .d) S1) Q X) X) : wE (eCallF F dfl Ts) σ S Q X := by
  unfold wE eCallF; rw [wp_bind]; exact k
theorem wE_meth {c m : String} {F : FV} (k : wE To σ S (fun v S1 => isIns c m (frz v) S1 = true ∧ wE Ts σ S1 (fun vs S2 => wp (F (frz v :: vs) S2) Q X) X) X) : wE (eMeth c m F [] To Ts) σ S Q X := by
  unfold wE eMeth; rw [wp_bind]
  refine wp_monoQ k fun v S1 h => ?_
  rw [if_pos h.1, wp_bind]
  refine wp_monoQ h.2 fun vs S2 h => ?_
  rw [List.map_nil, List.append_nil]; exact h
theorem wE_make {c : String} {F : FV} (k : wE Ts σ S (fun vs S1 => wp (mkF c F vs S1) Q X) X) : wE (eMake c F [] Ts) σ S Q X := by
  unfold wE eMake; rw [wp_bind]
  refine wp_monoQ k fun v S1 h => ?_
  rw [List.map_nil, List.append_nil]; exact h
theorem wE_makeD {c : String} {F : FV} {dfl : List D} (k : wE Ts σ S (fun vs S1 => wp (mkF c F (vs ++ dfl.map .d) S1) Q X) X) : wE (eMake c F dfl Ts) σ S Q X := by
  unfold wE eMake; rw [wp_bind]; exact k
theorem wE_makeK {c : String} {F : FV} {n m : Nat} {gP : List Vl → List Vl → List Vl} (k : wE Ts σ S (fun vs S1 => wE Tk σ S1 (fun zs S2 => vs.length = n ∧ zs.length = m ∧ wp (mkF c F (gP vs zs) S2) Q X) X) X) : wE (eMakeK c F n m gP Ts Tk) σ S Q X := by
  unfold wE eMakeK; rw [wp_bind]
  refine wp_monoQ k fun v S1 h => ?_
  rw [wp_bind]
  refine wp_monoQ h fun vs S2 h => ?_
  rw [if_pos ⟨h.1, h.2.1⟩]; exact h.2.2
theorem wp_mkF {c : String} {F : FV} {args : List Vl} (k : wp (F (.d (.obj S.P.length) :: args) { S with P := S.P ++ [.ins c []] }) (fun v S1 => v = .d .non ∧ Q (.d (.obj S.P.length)) S1) X) : wp (mkF c F args S) Q X := by
  unfold mkF
  cases e : F (.d (.obj S.P.length) :: args) { S with P := S.P ++ [.ins c []] } with
  | ok v S1 => rw [e] at k; obtain ⟨rfl, k⟩ := k; exact k
  | exc c fs S1 => rw [e] at k; exact k
  | bad => rw [e] at k; exact k
theorem wE_and (k : wE Ta σ S (fun v S1 => isB v fun b => br b (wE Tb σ S1 Q X) (Q (.d (.bl false)) S1)) X) : wE (eAnd Ta Tb) σ S Q X := by
  unfold wE eAnd; rw [wp_bind]; unfold tOf; rw [wp_bind]
  refine wp_monoQ k fun v S1 h => ?_
  obtain ⟨b, rfl, h⟩ := h
  cases b
  · exact h.2 rfl
  · exact h.1 rfl
theorem wE_or (k : wE Ta σ S (fun v S1 => isB v fun b => br b (Q (.d (.bl true)) S1) (wE Tb σ S1 Q X)) X) : wE (eOr Ta Tb) σ S Q X := by
  unfold wE eOr; rw [wp_bind]; unfold tOf; rw [wp_bind]
  refine wp_monoQ k fun v S1 h => ?_
  obtain ⟨b, rfl, h⟩ := h
  cases b
  · exact h.2 rfl
  · exact h.1 rfl
theorem wE_not (k : wE Ta σ S (fun v S1 => isB v fun b => Q (.d (.bl (!b))) S1) X) : wE (eNot Ta) σ S Q X := by
  unfold wE eNot; rw [wp_bind]; unfold tOf; rw [wp_bind]
  refine wp_monoQ k fun v S1 h => ?_
  obtain ⟨b, rfl, h⟩ := h
  exact h
theorem wE_if (k : wE TA σ S (fun b S1 => br b (wE Ta σ S1 Q X) (wE Tb σ S1 Q X)) X) : wE (eIf TA Ta Tb) σ S Q X := by
  unfold wE eIf; rw [wp_bind]
  refine wp_monoQ k fun b S1 h => ?_
  cases b
  · exact h.2 rfl
  · exact h.1 rfl
theorem wE_tup (k : wE Ts σ S (fun vs S1 => ∃ l S2, toDs vs S1 = some (l, S2) ∧ l.length ≤ sizeLine ∧ Q (.d (.tup l)) S2) X) : wE (eTup Ts) σ S Q X := by
  unfold wE eTup; rw [wp_bind]
  refine wp_monoQ k fun vs S1 h => ?_
  obtain ⟨l, S2, e, hl, h⟩ := h
  rw [e]; dsimp only; rw [if_pos hl]; exact h
theorem wE_lst (k : wE Ts σ S (fun vs S1 => ∃ l S2, toDs vs S1 = some (l, S2) ∧ l.length ≤ sizeLine ∧ Q (.new l) S2) X) : wE (eLst Ts) σ S Q X := by
  unfold wE eLst; rw [wp_bind]
  refine wp_monoQ k fun vs S1 h => ?_
  obtain ⟨l, S2, e, hl, h⟩ := h
  rw [e]; dsimp only; rw [if_pos hl]; exact h
theorem wE_dic0 (k : Q (.d (.obj S.P.length)) { S with P := S.P ++ [.dic []] }) : wE eDic0 σ S Q X := k
theorem wE_sl {L U : OV} (k : wE T σ S (fun v S1 => wE L σ S1 (fun lo S2 => wE U σ S2 (fun hi S3 => wp (slF (frz v) lo hi S3) Q X) X) X) X) : wE (eSl T L U) σ S Q X := by
  unfold wE eSl; rw [wp_bind]
  refine wp_monoQ k fun v S1 h => ?_
  rw [wp_bind]
  refine wp_monoQ h fun v S1 h => ?_
  rw [wp_bind]; exact h
theorem wE_lm {f} (k : wE To σ S (fun v S1 => boxOk v S1 = true ∧ wE T σ S1 (fun u S2 => wp (f (frz v) (frz u) S2) Q X) X) X) : wE (eLm f To T) σ S Q X := by
  unfold wE eLm; rw [wp_bind]
  refine wp_monoQ k fun v S1 h => ?_
  rw [if_pos h.1, wp_bind]; exact h.2
theorem wE_join (k : wE To σ S (fun v S1 => ∃ a, v = .d (.str a) ∧ wE T σ S1 (fun u S2 => wp (joinF (.d (.str a)) (frz u) S2) Q X) X) X) : wE (eJoin To T) σ S Q X := by
  unfold wE eJoin; rw [wp_bind]
  refine wp_monoQ k fun v S1 h => ?_
  obtain ⟨a, rfl, h⟩ := h
  dsimp only; rw [wp_bind]; exact h
theorem wE_up (k : wE To σ S (fun v S1 => wp (upperF v S1) Q X) X) : wE (eUp To) σ S Q X := by
  unfold wE eUp; rw [wp_bind]; exact k
end
section
variable {σ : Sl} {S : Sta} {X : XP} {T : EV} {Ts : EVs} {TA TB : TV}
theorem wE_oNone {Q : Option Int → Sta → Prop} (k : Q none S) : wE oNone σ S Q X := k
theorem wE_oSome {Q : Option Int → Sta → Prop} (k : wE T σ S (fun v S1 => ∃ i, v = .d (.int i) ∧ Q (some i) S1) X) : wE (oSome T) σ S Q X := by
  unfold wE oSome; rw [wp_bind]
  refine wp_monoQ k fun v S1 h => ?_
  obtain ⟨i, rfl, h⟩ := h
  exact h
theorem wA_nil {Q : List Vl → Sta → Prop} (k : Q [] S) : wE aNil σ S Q X := k
theorem wA_cons {Q : List Vl → Sta → Prop} (k : wE T σ S (fun v S1 => wE Ts σ S1 (fun vs S2 => Q (frz v :: vs) S2) X) X) : wE (aCons T Ts) σ S Q X := by
  unfold wE aCons; rw [wp_bind]
  refine wp_monoQ k fun v S1 h => ?_
  rw [wp_bind]; exact h
theorem wA_consB {Q : List Vl → Sta → Prop} (k : wE T σ S (fun v S1 => match v with
  | .new l => wE Ts σ { S1 with B := S1.B ++ [(true, l)] } (fun vs S2 => Q (.box S1.B.length :: vs) S2) X
  | v => wE Ts σ S1 (fun vs S2 => Q (v :: vs) S2) X) X) : wE (aConsB T Ts) σ S Q X := by
  unfold wE aConsB; rw [wp_bind]
  refine wp_monoQ k fun v S1 h => ?_
  cases v with
  | new l => dsimp only at h ⊢; rw [wp_bind]; exact h
  | d x => dsimp only at h ⊢; rw [wp_bind]; exact h
  | box i => dsimp only at h ⊢; rw [wp_bind]; exact h
theorem wT_of {Q : Bool → Sta → Prop} (k : wE T σ S (fun v S1 => isB v fun b => Q b S1) X) : wE (tOf T) σ S Q X := by
  unfold wE tOf; rw [wp_bind]
  refine wp_monoQ k fun v S1 h => ?_
  obtain ⟨b, rfl, h⟩ := h
  exact h
theorem wT_and {Q : Bool → Sta → Prop} (k : wE TA σ S (fun b S1 => br b (wE TB σ S1 Q X) (Q false S1)) X) : wE (tAndW TA TB) σ S Q X := by
  unfold wE tAndW; rw [wp_bind]
  refine wp_monoQ k fun b S1 h => ?_
  cases b
  · exact h.2 rfl
  · exact h.1 rfl
theorem wT_or {Q : Bool → Sta → Prop} (k : wE TA σ S (fun b S1 => br b (Q true S1) (wE TB σ S1 Q X)) X) : wE (tOrW TA TB) σ S Q X := by
  unfold wE tOrW; rw [wp_bind]
  refine wp_monoQ k fun b S1 h => ?_
  cases b
  · exact h.2 rfl
  · exact h.1 rfl
theorem wT_not {Q : Bool → Sta → Prop} (k : wE TA σ S (fun b S1 => Q (!b) S1) X) : wE (tNotW TA) σ S Q X := by
  unfold wE tNotW; rw [wp_bind]; exact k
theorem wT_true {Q : Bool → Sta → Prop} (k : Q true S) : wE tTrue σ S Q X := k
end
/-! ### statements -/
section
variable {σ : Sl} {S : Sta} {nx : Sl → Sta → Prop} {rt : Vl → Sta → Prop} {bk ct : Sl → Sta → Prop} {ex : XPS} {T To Ti : EV} {Ts : EVs} {TA : TV} {A B : SV}
theorem ws_st {o : Out Vl} {f : Vl → Sta → SOut} : ws (o.st σ f) nx rt bk ct ex ↔ wp o (fun v S1 => ws (f v S1) nx rt bk ct ex) (fun c fs S1 => ex c fs σ S1) := by
  cases o <;> rfl
theorem ws_stB {o : Out Bool} {f : Bool → Sta → SOut} : ws (o.stB σ f) nx rt bk ct ex ↔ wp o (fun v S1 => ws (f v S1) nx rt bk ct ex) (fun c fs S1 => ex c fs σ S1) := by
  cases o <;> rfl
theorem wS_seq (k : wS A σ S (fun σ S => wS B σ S nx rt bk ct ex) rt bk ct ex) : wS (sSeq A B) σ S nx rt bk ct ex := by
  unfold wS sSeq at *
  revert k
  cases A σ S <;> exact fun k => k
theorem wS_next (k : nx σ S) : wS sNext σ S nx rt bk ct ex := k
theorem wS_brk (k : bk σ S) : wS sBrk σ S nx rt bk ct ex := k
theorem wS_cnt (k : ct σ S) : wS sCnt σ S nx rt bk ct ex := k
theorem wS_retN (k : rt (.d .non) S) : wS sRetN σ S nx rt bk ct ex := k
theorem wS_expr (k : wE T σ S (fun _ S1 => nx σ S1) (fun c fs S1 => ex c fs σ S1)) : wS (sExpr T) σ S nx rt bk ct ex := by
  unfold wS sExpr; rw [ws_st]; exact k
theorem wS_ret (k : wE T σ S (fun v S1 => rt v S1) (fun c fs S1 => ex c fs σ S1)) : wS (sRet T) σ S nx rt bk ct ex := by
  unfold wS sRet; rw [ws_st]; exact k
theorem wS_if (k : wE TA σ S (fun b S1 => br b (wS A σ S1 nx rt bk ct ex) (wS B σ S1 nx rt bk ct ex)) (fun c fs S1 => ex c fs σ S1)) : wS (sIf TA A B) σ S nx rt bk ct ex := by
  unfold wS sIf; rw [ws_stB]
  refine wp_monoQ k fun b S1 h => ?_
  cases b
  · exact h.2 rfl
  · exact h.1 rfl
theorem wS_set {i : Nat} (k : wE T σ S (fun v S1 => nx (σ.set i (some (frz v))) S1) (fun c fs S1 => ex c fs σ S1)) : wS (sSet i T) σ S nx rt bk ct ex := by
  unfold wS sSet; rw [ws_st]; exact k
/-- what becomes of a value that is given a box -/
def inBox (v : Vl) (S : Sta) (Q : Vl → Sta → Prop) : Prop := match v with
  | .new l => Q (.box S.B.length) { S with B := S.B ++ [(true, l)] }
  | v => Q v S
theorem inBox_new {P : List Ob} {B : List (Bool × List D)} {l : List D} {Q : Vl → Sta → Prop} (k : Q (.box B.length) ⟨P, B ++ [(true, l)]⟩) : inBox (.new l) ⟨P, B⟩ Q := k
theorem inBox_d {x : D} {Q : Vl → Sta → Prop} (k : Q (.d x) S) : inBox (.d x) S Q := k
theorem inBox_box {i : Nat} {Q : Vl → Sta → Prop} (k : Q (.box i) S) : inBox (.box i) S Q := k
theorem wS_setB {i : Nat} (k : wE T σ S (fun v S1 => inBox v S1 fun v S2 => nx (σ.set i (some v)) S2) (fun c fs S1 => ex c fs σ S1)) : wS (sSetB i T) σ S nx rt bk ct ex := by
  unfold wS sSetB; rw [ws_st]
  refine wp_monoQ k fun v S1 h => ?_
  cases v <;> exact h
theorem wS_unp {G : GV} (k : wE T σ S (fun v S1 => ∃ x S2 σ1, toD (frz v) S1 = some (x, S2) ∧ G x σ = some σ1 ∧ nx σ1 S2) (fun c fs S1 => ex c fs σ S1)) : wS (sUnp G T) σ S nx rt bk ct ex := by
  unfold wS sUnp; rw [ws_st]
  refine wp_monoQ k fun v S1 h => ?_
  obtain ⟨x, S2, σ1, e1, e2, h⟩ := h
  rw [e1]; dsimp only; rw [e2]; exact h
theorem wS_fld {c f : String} (k : wE T σ S (fun v S1 => ∃ x S2, toD (frz v) S1 = some (x, S2) ∧ wE To σ S2 (fun o S3 => ws (setFld c f (frz o) x σ S3) nx rt bk ct ex) (fun c fs S1 => ex c fs σ S1)) (fun c fs S1 => ex c fs σ S1)) : wS (sFldS c f To T) σ S nx rt bk ct ex := by
  unfold wS sFldS; rw [ws_st]
  refine wp_monoQ k fun v S1 h => ?_
  obtain ⟨x, S2, e1, h⟩ := h
  rw [e1]; dsimp only; rw [ws_st]; exact h
theorem ws_setFld {c f : String} {i : Nat} {fs : List (String × D)} {x : D} (h : S.P[i]? = some (.ins c fs)) (hl : fs.length < 1000) (k : nx σ { S with P := S.P.set i (.ins c (putFs f x fs)) }) : ws (setFld c f (.d (.obj i)) x σ S) nx rt bk ct ex := by
  unfold setFld; dsimp only; rw [h]; dsimp only; rw [if_pos ⟨rfl, hl⟩]; exact k
theorem wS_sub (k : wE T σ S (fun v S1 => ∃ x S2, toD (frz v) S1 = some (x, S2) ∧ wE To σ S2 (fun o S3 => wE Ti σ S3 (fun i S4 => ws (putAt (frz o) (frz i) x σ S4) nx rt bk ct ex) (fun c fs S1 => ex c fs σ S1)) (fun c fs S1 => ex c fs σ S1)) (fun c fs S1 => ex c fs σ S1)) : wS (sSub To Ti T) σ S nx rt bk ct ex := by
  unfold wS sSub; rw [ws_st]
  refine wp_monoQ k fun v S1 h => ?_
  obtain ⟨x, S2, e1, h⟩ := h
  rw [e1]; dsimp only; rw [ws_st]
  refine wp_monoQ h fun v S1 h => ?_
  rw [ws_st]; exact h
theorem ws_putAt {b j : Nat} {k : Int} {l : List D} {x : D} (h : S.B[b]? = some (true, l)) (hj : ixN l.length k = some j) (q : nx σ { S with B := S.B.set b (true, l.set j x) }) : ws (putAt (.box b) (.d (.int k)) x σ S) nx rt bk ct ex := by
  unfold putAt; dsimp only; rw [h]; dsimp only; rw [hj]; exact q
theorem wS_raise {c : String} {names : List String} (k : wE Ts σ S (fun vs S1 => ∃ ds S2, toDs vs S1 = some (ds, S2) ∧ ds.length = names.length ∧ ex c (some (names.zip ds)) σ S2) (fun c fs S1 => ex c fs σ S1)) : wS (sRaise c names Ts) σ S nx rt bk ct ex := by
  unfold wS sRaise
  unfold wE at k
  revert k
  cases Ts σ S with
  | ok vs S1 =>
    intro k
    obtain ⟨ds, S2, e, hl, k⟩ := k
    dsimp only; rw [e]; dsimp only; rw [if_pos hl]; exact k
  | exc c fs S1 => exact fun k => k
  | bad => exact fun k => k
/-- how a clause ends: its name is taken away -/
def clr (i : Nat) (σ : Sl) : Sl := σ.set i none
theorem wS_try {test : String → Option Bool} {i : Nat} {T : XV} (k : wS B σ S nx rt bk ct (fun c fs σ1 S1 => ∃ b, test c = some b ∧ br b (ws (T c fs (σ1.set i none) S1) (fun σ2 S2 => nx (σ2.set i none) S2) rt (fun σ2 S2 => bk (σ2.set i none) S2) (fun σ2 S2 => ct (σ2.set i none) S2) (fun _ _ _ _ => False)) (ex c fs σ1 S1))) : wS (sTry B test i T) σ S nx rt bk ct ex := by
  unfold wS sTry at *
  revert k
  cases B σ S with
  | nxt σ1 S1 => exact fun k => k
  | ret v S1 => exact fun k => k
  | brk σ1 S1 => exact fun k => k
  | cnt σ1 S1 => exact fun k => k
  | bad => exact fun k => k
  | exc c fs σ1 S1 =>
    intro k
    obtain ⟨b, e, k⟩ := k
    dsimp only; rw [e]
    cases b with
    | false => exact k.2 rfl
    | true =>
      have k := k.1 rfl
      dsimp only
      revert k
      cases T c fs (σ1.set i none) S1 <;> exact fun k => k
/-! loops -/
def wFor (chk : Sta → Bool) (tg : GV) (body : SV) (items : List D) (σ : Sl) (S : Sta) (nx : Sl → Sta → Prop) (rt : Vl → Sta → Prop) (bk ct : Sl → Sta → Prop) (ex : XPS) : Prop := ws (forL chk tg body items σ S) nx rt bk ct ex
theorem wS_for {I : IV} {tg : GV} {body : SV} (k : wE I σ S (fun p S1 => wFor p.2 tg body p.1 σ S1 nx rt bk ct ex) (fun c fs S1 => ex c fs σ S1)) : wS (sFor I tg body) σ S nx rt bk ct ex := by
  unfold wS sFor
  unfold wE at k
  revert k
  cases I σ S with
  | ok p S1 => exact fun k => k
  | exc c fs S1 => exact fun k => k
  | bad => exact fun k => k
theorem wFor_nil {chk tg body} (h : chk S = true) (k : nx σ S) : wFor chk tg body [] σ S nx rt bk ct ex := by
  unfold wFor; rw [forL_nil, if_pos h]; exact k
theorem wFor_cons {chk tg body} {x : D} {r : List D} {σ1 : Sl} (h : chk S = true) (e : tg x σ = some σ1) (k : wS body σ1 S (fun σ2 S2 => wFor chk tg body r σ2 S2 nx rt bk ct ex) rt nx (fun σ2 S2 => wFor chk tg body r σ2 S2 nx rt bk ct ex) ex) : wFor chk tg body (x :: r) σ S nx rt bk ct ex := by
  unfold wFor; rw [forL_cons, if_pos h, e]; dsimp only
  unfold wS at k
  revert k
  cases body σ1 S <;> exact fun k => k
/-- by what holds ahead of each turn; the items that are left -/
theorem wFor_inv {chk tg body} {items : List D} (Inv : List D → Sl → Sta → Prop) (h0 : Inv items σ S) (hc : ∀ r σ S, Inv r σ S → chk S = true)
    (hs : ∀ x r σ S, Inv (x :: r) σ S → ∃ σ1, tg x σ = some σ1 ∧ wS body σ1 S (Inv r) rt nx (Inv r) ex) (he : ∀ σ S, Inv [] σ S → nx σ S) : wFor chk tg body items σ S nx rt bk ct ex := by
  induction items generalizing σ S with
  | nil => exact wFor_nil (hc _ _ _ h0) (he _ _ h0)
  | cons x r ih =>
    obtain ⟨σ1, e, k⟩ := hs x r σ S h0
    refine wFor_cons (hc _ _ _ h0) e ?_
    exact ws_mono k (fun σ S h => ih h) (fun _ _ h => h) (fun _ _ h => h) (fun σ S h => ih h) (fun _ _ _ _ h => h)
/-- .. and those that are done -/
theorem wFor_inv2 {chk tg body} {items : List D} (Inv : List D → List D → Sl → Sta → Prop) (h0 : Inv [] items σ S) (hc : ∀ d r σ S, Inv d r σ S → chk S = true)
    (hs : ∀ d x r σ S, items = d ++ x :: r → Inv d (x :: r) σ S → ∃ σ1, tg x σ = some σ1 ∧ wS body σ1 S (Inv (d ++ [x]) r) rt nx (Inv (d ++ [x]) r) ex) (he : ∀ σ S, Inv items [] σ S → nx σ S) : wFor chk tg body items σ S nx rt bk ct ex := by
  refine wFor_inv (fun r σ S => ∃ d, items = d ++ r ∧ Inv d r σ S) ⟨[], rfl, h0⟩ (fun r σ S ⟨d, _, h⟩ => hc d r σ S h) (fun x r σ S ⟨d, e, h⟩ => ?_) (fun σ S ⟨d, e, h⟩ => ?_)
  · obtain ⟨σ1, e1, k⟩ := hs d x r σ S e h
    have e' : items = (d ++ [x]) ++ r := by simpa using e
    exact ⟨σ1, e1, ws_mono k (fun σ S h => ⟨_, e', h⟩) (fun _ _ h => h) (fun _ _ h => h) (fun σ S h => ⟨_, e', h⟩) (fun _ _ _ _ h => h)⟩
  · have : d = items := by simpa using e.symm
    subst this; exact he _ _ h
theorem wS_while {TA : TV} {body : SV} (Inv : Nat → Sl → Sta → Prop) {n : Nat} (h0 : Inv n σ S)
    (hs : ∀ n σ S, Inv n σ S → wE TA σ S (fun b S1 => br b (wS body σ S1 (fun σ2 S2 => ∃ m, m < n ∧ Inv m σ2 S2) rt nx (fun σ2 S2 => ∃ m, m < n ∧ Inv m σ2 S2) ex) (nx σ S1)) (fun c fs S1 => ex c fs σ S1)) : wS (sWhile TA body) σ S nx rt bk ct ex := by
  have key : ∀ (n : Nat) (σ : Sl) (S : Sta), Inv n σ S → ∃ m, ws (whileN TA body m σ S) nx rt (fun _ _ => False) (fun _ _ => False) ex := by
    intro n
    induction n using Nat.strongRecOn with
    | _ n ih =>
      intro σ S h
      have k := hs n σ S h
      unfold wE at k
      cases e : TA σ S with
      | exc c fs S1 => rw [e] at k; exact ⟨1, by unfold whileN; rw [e]; exact k⟩
      | bad => rw [e] at k; exact k.elim
      | ok b S1 =>
        rw [e] at k
        cases b with
        | false => exact ⟨1, by unfold whileN; rw [e]; exact k.2 rfl⟩
        | true =>
          have k : wS body σ S1 _ _ _ _ _ := k.1 rfl
          unfold wS at k
          cases e2 : body σ S1 with
          | nxt σ2 S2 =>
            rw [e2] at k
            obtain ⟨m, hm, k⟩ := k
            obtain ⟨j, k⟩ := ih m hm σ2 S2 k
            exact ⟨j + 1, by unfold whileN; rw [e]; dsimp only [Out.stB]; rw [if_pos rfl, e2]; exact k⟩
          | cnt σ2 S2 =>
            rw [e2] at k
            obtain ⟨m, hm, k⟩ := k
            obtain ⟨j, k⟩ := ih m hm σ2 S2 k
            exact ⟨j + 1, by unfold whileN; rw [e]; dsimp only [Out.stB]; rw [if_pos rfl, e2]; exact k⟩
          | brk σ2 S2 => rw [e2] at k; exact ⟨1, by unfold whileN; rw [e]; dsimp only [Out.stB]; rw [if_pos rfl, e2]; exact k⟩
          | ret v S2 => rw [e2] at k; exact ⟨1, by unfold whileN; rw [e]; dsimp only [Out.stB]; rw [if_pos rfl, e2]; exact k⟩
          | exc c fs σ2 S2 => rw [e2] at k; exact ⟨1, by unfold whileN; rw [e]; dsimp only [Out.stB]; rw [if_pos rfl, e2]; exact k⟩
          | bad => rw [e2] at k; exact k.elim
  obtain ⟨m, k⟩ := key n σ S h0
  have nb : whileN TA body m σ S ≠ .bad := fun e => by rw [e] at k; exact k
  unfold wS
  rw [sWhile_eq TA body nb]
  revert k
  cases whileN TA body m σ S <;> first | exact fun k => k | exact fun k => k.elim
end
/-! ### comprehensions -/
section
variable {σ : Sl} {S : Sta} {Q : Vl → Sta → Prop} {X : XP} {T : EV} {TA TA1 : TV}
def wLoop (chk : Sta → Bool) (tg : GV) (step : Sl → List D → Sta → Out (List D)) (σ : Sl) (items acc : List D) (S : Sta) (Q : List D → Sta → Prop) : Prop := wp (loopL chk tg step σ items acc S) Q noX
theorem wE_iOf {f} {T : EV} {Q : List D × (Sta → Bool) → Sta → Prop} (k : wE T σ S (fun v S1 => wp (f (frz v) S1) Q X) X) : wE (iOf f T) σ S Q X := by
  unfold wE iOf; rw [wp_bind]; exact k
theorem wE_iRan1 {Ts : EVs} {Q : List D × (Sta → Bool) → Sta → Prop} (k : wE Ts σ S (fun vs S1 => wp (itemsR1 vs S1) Q X) X) : wE (iRan1 Ts) σ S Q X := by
  unfold wE iRan1; rw [wp_bind]; exact k
theorem wE_iRan2 {Ts : EVs} {Q : List D × (Sta → Bool) → Sta → Prop} (k : wE Ts σ S (fun vs S1 => wp (itemsR2 vs S1) Q X) X) : wE (iRan2 Ts) σ S Q X := by
  unfold wE iRan2; rw [wp_bind]; exact k
theorem wE_lc {vs : List Nat} {I : IV} {Gt : GV} (k : wE I σ S (fun p S1 => wLoop p.2 Gt (eltStep TA T) (wipeV σ vs) p.1 [] S1 fun l S2 => Q (.new l) S2) X) : wE (eLc vs I Gt TA T) σ S Q X := by
  unfold wE eLc
  unfold wE at k
  revert k
  cases I σ S with
  | exc c fs S1 => exact fun k => k
  | bad => exact fun k => k
  | ok p S1 =>
    intro k
    obtain ⟨l, S2, e, k⟩ := ok_of_wp k
    dsimp only; rw [e]; exact k
theorem wE_lc2 {vs vs1 : List Nat} {I I1 : IV} {Gt Gt1 : GV} (k : wE I σ S (fun p S1 => wLoop p.2 Gt (innerStep TA vs1 I1 Gt1 TA1 T) (wipeV σ vs) p.1 [] S1 fun l S2 => Q (.new l) S2) X) : wE (eLc2 vs I Gt TA vs1 I1 Gt1 TA1 T) σ S Q X := by
  unfold wE eLc2
  unfold wE at k
  revert k
  cases I σ S with
  | exc c fs S1 => exact fun k => k
  | bad => exact fun k => k
  | ok p S1 =>
    intro k
    obtain ⟨l, S2, e, k⟩ := ok_of_wp k
    dsimp only; rw [e]; exact k
theorem wLoop_nil {chk tg step} {acc : List D} {Q : List D → Sta → Prop} (h : chk S = true) (k : Q acc S) : wLoop chk tg step σ [] acc S Q := by
  unfold wLoop; rw [loopL_nil, if_pos h]; exact k
theorem wLoop_cons {chk tg step} {x : D} {r acc : List D} {σ1 : Sl} {Q : List D → Sta → Prop} (h : chk S = true) (e : tg x σ = some σ1) (k : wp (step σ1 acc S) (fun acc2 S2 => wLoop chk tg step σ r acc2 S2 Q) noX) : wLoop chk tg step σ (x :: r) acc S Q := by
  obtain ⟨a2, S2, e2, k⟩ := ok_of_wp k
  unfold wLoop; rw [loopL_cons, if_pos h, e]; dsimp only; rw [e2]; exact k
/-- one item of a comprehension -/
theorem wp_elt {σ1 : Sl} {acc : List D} {Q : List D → Sta → Prop} (k : wE TA σ1 S (fun b S1 => br b (wE T σ1 S1 (fun v S2 => ∃ y S3, toD (frz v) S2 = some (y, S3) ∧ acc.length < sizeLine ∧ Q (acc ++ [y]) S3) noX) (Q acc S1)) noX) : wp (eltStep TA T σ1 acc S) Q noX := by
  obtain ⟨b, S1, e, k⟩ := ok_of_wp k
  unfold eltStep; rw [e]
  cases b with
  | false => exact k.2 rfl
  | true =>
    obtain ⟨v, S2, e2, y, S3, e3, hl, k⟩ := ok_of_wp (k.1 rfl)
    dsimp only; rw [e2]; dsimp only [appD]; rw [e3]; dsimp only; rw [if_pos hl]; exact k
theorem wp_inner {σ1 : Sl} {acc : List D} {vs1 : List Nat} {I1 : IV} {Gt1 : GV} {Q : List D → Sta → Prop} (k : wE TA σ1 S (fun b S1 => br b (wE I1 σ1 S1 (fun p S2 => wLoop p.2 Gt1 (eltStep TA1 T) (wipeV σ1 vs1) p.1 acc S2 Q) noX) (Q acc S1)) noX) : wp (innerStep TA vs1 I1 Gt1 TA1 T σ1 acc S) Q noX := by
  obtain ⟨b, S1, e, k⟩ := ok_of_wp k
  unfold innerStep; rw [e]
  cases b with
  | false => exact k.2 rfl
  | true =>
    obtain ⟨p, S2, e2, k⟩ := ok_of_wp (k.1 rfl)
    dsimp only; rw [e2]; exact k
theorem wLoop_inv {chk tg step} {items acc : List D} {Q : List D → Sta → Prop} (Inv : List D → List D → Sta → Prop) (h0 : Inv items acc S) (hc : ∀ r acc S, Inv r acc S → chk S = true)
    (hs : ∀ x r acc S, Inv (x :: r) acc S → ∃ σ1, tg x σ = some σ1 ∧ wp (step σ1 acc S) (fun acc2 S2 => Inv r acc2 S2) noX) (he : ∀ acc S, Inv [] acc S → Q acc S) : wLoop chk tg step σ items acc S Q := by
  induction items generalizing acc S with
  | nil => exact wLoop_nil (hc _ _ _ h0) (he _ _ h0)
  | cons x r ih =>
    obtain ⟨σ1, e, k⟩ := hs x r acc S h0
    exact wLoop_cons (hc _ _ _ h0) e (wp_monoQ k fun a S h => ih h)
/-- each item gives its own list, and the state stays -/
theorem wLoop_flat {chk tg step} {items acc : List D} {Q : List D → Sta → Prop} (f : D → List D) (hc : chk S = true)
    (hs : ∀ x ∈ items, ∀ acc : List D, acc.length + (f x).length ≤ sizeLine → ∃ σ1, tg x σ = some σ1 ∧ wp (step σ1 acc S) (fun acc2 S2 => acc2 = acc ++ f x ∧ S2 = S) noX) (hl : (acc ++ items.flatMap f).length ≤ sizeLine) (he : Q (acc ++ items.flatMap f) S) : wLoop chk tg step σ items acc S Q := by
  induction items generalizing acc with
  | nil => exact wLoop_nil hc (by simpa using he)
  | cons x r ih =>
    have e1 : acc ++ (x :: r).flatMap f = (acc ++ f x) ++ r.flatMap f := by simp
    rw [e1] at hl he
    obtain ⟨σ1, e, k⟩ := hs x List.mem_cons_self acc (by simp only [List.length_append] at hl ⊢; omega)
    refine wLoop_cons hc e (wp_monoQ k ?_)
    rintro a S' ⟨rfl, rfl⟩
    exact ih (fun y hy => hs y (List.mem_cons_of_mem _ hy)) hl he
/-- one item for each -/
theorem wLoop_map {chk tg} {items : List D} {Q : List D → Sta → Prop} (f : D → D) (hc : chk S = true)
    (hs : ∀ x ∈ items, ∃ σ1, tg x σ = some σ1 ∧ wE TA σ1 S (fun b S1 => b = true ∧ wE T σ1 S1 (fun v S2 => toD (frz v) S2 = some (f x, S)) noX) noX) (hl : items.length ≤ sizeLine) (he : Q (items.map f) S) : wLoop chk tg (eltStep TA T) σ items [] S Q := by
  have e0 : items.flatMap (fun x => [f x]) = items.map f := by
    clear hs hl he
    induction items with
    | nil => rfl
    | cons x r ih => rw [List.flatMap_cons, ih]; rfl
  refine wLoop_flat (fun x => [f x]) hc (fun x hx acc ha => ?_) (by rw [e0]; simpa using hl) (by rw [e0]; exact he)
  obtain ⟨σ1, e, k⟩ := hs x hx
  refine ⟨σ1, e, wp_elt (wp_monoQ k ?_)⟩
  rintro b S1 ⟨rfl, k⟩
  refine br_true (wp_monoQ k fun v S2 h => ⟨_, _, h, ?_, rfl, rfl⟩)
  simp at ha; omega
/-- those that pass a test -/
theorem wLoop_filter {chk tg} {items : List D} {Q : List D → Sta → Prop} (p : D → Bool) (f : D → D) (hc : chk S = true)
    (hs : ∀ x ∈ items, ∃ σ1, tg x σ = some σ1 ∧ wE TA σ1 S (fun b S1 => b = p x ∧ S1 = S ∧ (p x = true → wE T σ1 S (fun v S2 => toD (frz v) S2 = some (f x, S)) noX)) noX) (hl : items.length ≤ sizeLine) (he : Q ((items.filter p).map f) S) : wLoop chk tg (eltStep TA T) σ items [] S Q := by
  have e0 : items.flatMap (fun x => if p x = true then [f x] else []) = (items.filter p).map f := by
    clear hs hl he
    induction items with
    | nil => rfl
    | cons x r ih => by_cases h : p x = true <;> simp [h, ih]
  refine wLoop_flat (fun x => if p x = true then [f x] else []) hc (fun x hx acc ha => ?_) ?_ (by rw [e0]; exact he)
  · obtain ⟨σ1, e, k⟩ := hs x hx
    refine ⟨σ1, e, wp_elt (wp_monoQ k ?_)⟩
    rintro b S1 ⟨rfl, rfl, k⟩
    refine br_any (fun h => wp_monoQ (k h) fun v S2 h2 => ⟨_, _, h2, ?_, ?_, rfl⟩) (fun h => ⟨?_, rfl⟩)
    · rw [if_pos h] at ha; simp at ha; omega
    · rw [if_pos h]
    · rw [if_neg (by simp [h])]; simp
  · rw [e0]
    have := List.length_filter_le p items
    simp; omega
end
/-! ### defs -/
section
variable {S : Sta} {Q : Vl → Sta → Prop} {X : XP} {P : List Ob} {B : List (Bool × List D)}
theorem wp_fn {n m : Nat} {T : SV} {args : List Vl} (h : args.length = n) (k : wS T (args.map some ++ List.replicate m none) S (fun _ S1 => Q (.d .non) (cutB S.B.length S1)) (fun v S1 => wp (fin S.B.length (.ret v S1)) Q X) (fun _ _ => False) (fun _ _ => False) (fun c fs _ S1 => X c fs (cutB S.B.length S1))) : wp (mkFn n m T args S) Q X := by
  rw [mkFn_eq h]
  unfold wS at k
  revert k
  cases T (args.map some ++ List.replicate m none) S <;> exact fun k => k
theorem wp_finD {n : Nat} {x : D} (k : Q (.d x) (cutB n S)) : wp (fin n (.ret (.d x) S)) Q X := k
theorem wp_finN {n : Nat} {l : List D} (k : Q (.new l) (cutB n S)) : wp (fin n (.ret (.new l) S)) Q X := k
theorem wp_finB {n i : Nat} {l : List D} (h : S.B[i]? = some (true, l)) (hn : n ≤ i) (k : Q (.new l) (cutB n S)) : wp (fin n (.ret (.box i) S)) Q X := by
  rw [fin_box (by omega) h]; exact k
end
/-- only the boxes of ms are changed -/
structure Ch (ms : List Nat) (B B' : List (Bool × List D)) : Prop where
  len : B'.length = B.length
  keep : ∀ j, j ∉ ms → B'[j]? = B[j]?
/-- .. and there may be more -/
structure Up (ms : List Nat) (B B' : List (Bool × List D)) : Prop where
  len : B.length ≤ B'.length
  keep : ∀ j, j < B.length → j ∉ ms → B'[j]? = B[j]?
section
variable {ms ms' : List Nat} {B B' B'' C : List (Bool × List D)}
theorem Ch.refl : Ch ms B B := ⟨rfl, fun _ _ => rfl⟩
theorem Ch.up (h : Ch ms B B') : Up ms B B' := ⟨by rw [h.len]; omega, fun j _ hj => h.keep j hj⟩
theorem Up.refl : Up ms B B := ⟨Nat.le_refl _, fun _ _ _ => rfl⟩
theorem Up.trans (h : Up ms B B') (k : Up ms B' B'') : Up ms B B'' := ⟨Nat.le_trans h.len k.len, fun j hj hm => by rw [k.keep j (Nat.lt_of_lt_of_le hj h.len) hm, h.keep j hj hm]⟩
theorem Ch.trans (h : Ch ms B B') (k : Ch ms B' B'') : Ch ms B B'' := ⟨by rw [k.len, h.len], fun j hm => by rw [k.keep j hm, h.keep j hm]⟩
theorem Up.push {x} : Up ms B (B ++ [x]) := ⟨by simp, fun j hj _ => List.getElem?_append_left hj⟩
theorem Up.mono (h : Up ms B B') (l : ∀ j ∈ ms, j < B.length → j ∈ ms') : Up ms' B B' := ⟨h.len, fun j hj hm => h.keep j hj fun z => hm (l j z hj)⟩
theorem Ch.mono (h : Ch ms B B') (l : ∀ j ∈ ms, j ∈ ms') : Ch ms' B B' := ⟨h.len, fun j hm => h.keep j fun z => hm (l j z)⟩
theorem Up.cut (h : Up ms B B') : Ch ms B (B'.take B.length) := ⟨by rw [List.length_take]; exact Nat.min_eq_left h.len, fun j hm => by
  by_cases hj : j < B.length
  · rw [List.getElem?_take_of_lt hj, h.keep j hj hm]
  · rw [List.getElem?_eq_none (by rw [List.length_take]; omega), List.getElem?_eq_none (by omega)]⟩
theorem Ch.set {i : Nat} {x} : Ch [i] B (B.set i x) := ⟨by simp, fun j hj => List.getElem?_set_ne fun e => hj (by rw [e]; exact List.mem_singleton.mpr rfl)⟩
theorem getS {i : Nat} {x y} (h : B[i]? = some y) : (B.set i x)[i]? = some x := List.getElem?_set_self (List.getElem?_eq_some_iff.mp h).1
theorem getP {x : Bool × List D} : (B ++ [x])[B.length]? = some x := by simp
theorem lt_of_get {i : Nat} {x} (h : B[i]? = some x) : i < B.length := (List.getElem?_eq_some_iff.mp h).1
/-- a change of new boxes alone is none -/
theorem Up.new (h : Up (i :: ms) B B') (hi : B.length ≤ i) : Up ms B B' := h.mono fun j hj hl => by
  rcases List.mem_cons.mp hj with rfl | hj
  · omega
  · exact hj
end
/-! ### operators, by what they are given -/
section
variable {S : Sta} {Q : Vl → Sta → Prop} {X : XP} {i j : Int} {x y : Str} {a b : D} {l m : List D} {v u : Vl}
theorem wp_add_int (k : Q (.d (.int (i + j))) S) : wp (addF (.d (.int i)) (.d (.int j)) S) Q X := k
theorem wp_add_str (h : x.length + y.length ≤ sizeLine) (k : Q (.d (.str (x ++ y))) S) : wp (addF (.d (.str x)) (.d (.str y)) S) Q X := by
  rw [addF_str, if_pos h]; exact k
theorem wp_add_tup (h : l.length + m.length ≤ sizeLine) (k : Q (.d (.tup (l ++ m))) S) : wp (addF (.d (.tup l)) (.d (.tup m)) S) Q X := by
  unfold addF; dsimp only; rw [if_pos h]; exact k
theorem wp_add_lst (h1 : lstOf v S = some l) (h2 : lstOf u S = some m) (h : l.length + m.length ≤ sizeLine) (k : Q (.new (l ++ m)) S) : wp (addF v u S) Q X := by
  unfold addF
  split
  · cases h1
  · cases h1
  · cases h1
  · rw [h1]; dsimp only; rw [h2]; dsimp only; rw [if_pos h]; exact k
theorem wp_sub (k : Q (.d (.int (i - j))) S) : wp (subF (.d (.int i)) (.d (.int j)) S) Q X := k
theorem wp_mul (h : CMulW i j) (k : Q (.d (.int (i * j))) S) : wp (mulF (.d (.int i)) (.d (.int j)) S) Q X := by
  rw [mulF_int, if_pos h]; exact k
theorem wp_mod (h : 0 < j) (k : Q (.d (.int (i % j))) S) : wp (modF (.d (.int i)) (.d (.int j)) S) Q X := by
  rw [modF_int, if_pos h]; exact k
theorem wp_div (h : CDivW i j) (k : Q (.d (.int (i / j))) S) : wp (divF (.d (.int i)) (.d (.int j)) S) Q X := by
  rw [divF_int, if_pos h]; exact k
theorem wp_pow (h : CPow i j) (k : Q (.d (.int (i ^ j.toNat))) S) : wp (powF (.d (.int i)) (.d (.int j)) S) Q X := by
  rw [powF_int, if_pos h]; exact k
theorem wp_neg (k : Q (.d (.int (-i))) S) : wp (negF (.d (.int i)) S) Q X := k
theorem wp_lt (k : Q (.d (.bl (decide (i < j)))) S) : wp (ltF (.d (.int i)) (.d (.int j)) S) Q X := k
theorem wp_le (k : Q (.d (.bl (decide (i ≤ j)))) S) : wp (leF (.d (.int i)) (.d (.int j)) S) Q X := k
theorem wp_gt (k : Q (.d (.bl (decide (j < i)))) S) : wp (gtF (.d (.int i)) (.d (.int j)) S) Q X := k
theorem wp_ge (k : Q (.d (.bl (decide (j ≤ i)))) S) : wp (geF (.d (.int i)) (.d (.int j)) S) Q X := k
theorem wp_eq_int (k : Q (.d (.bl (decide (i = j)))) S) : wp (eqF (.d (.int i)) (.d (.int j)) S) Q X := by rw [eqF_int]; exact k
theorem wp_ne_int (k : Q (.d (.bl (!decide (i = j)))) S) : wp (neF (.d (.int i)) (.d (.int j)) S) Q X := by rw [neF_int]; exact k
theorem wp_eq_str (k : Q (.d (.bl (decide (x = y)))) S) : wp (eqF (.d (.str x)) (.d (.str y)) S) Q X := by rw [eqF_str]; exact k
theorem wp_ne_str (k : Q (.d (.bl (!decide (x = y)))) S) : wp (neF (.d (.str x)) (.d (.str y)) S) Q X := by rw [neF_str]; exact k
theorem wp_eq_bl {p q : Bool} (k : Q (.d (.bl (decide (p = q)))) S) : wp (eqF (.d (.bl p)) (.d (.bl q)) S) Q X := by rw [eqF_bl]; exact k
theorem wp_ne_bl {p q : Bool} (k : Q (.d (.bl (!decide (p = q)))) S) : wp (neF (.d (.bl p)) (.d (.bl q)) S) Q X := by rw [neF_bl]; exact k
theorem wp_eq_d (h1 : datOf v S = some a) (h2 : datOf u S = some b) (ha : okD 60 a = true) (hb : okD 60 b = true) (k : Q (.d (.bl (eqD a b))) S) : wp (eqF v u S) Q X := by
  unfold eqF; rw [h1, h2]; dsimp only; rw [if_pos ⟨ha, hb⟩]; exact k
theorem wp_ne_d (h1 : datOf v S = some a) (h2 : datOf u S = some b) (ha : okD 60 a = true) (hb : okD 60 b = true) (k : Q (.d (.bl (!eqD a b))) S) : wp (neF v u S) Q X := by
  unfold neF; rw [h1, h2]; dsimp only; rw [if_pos ⟨ha, hb⟩]; exact k
theorem wp_int (k : Q (.d (.int i)) S) : wp (intF [.d (.int i)] S) Q X := k
theorem wp_int_bl {p : Bool} (k : Q (.d (.int (if p then 1 else 0))) S) : wp (intF [.d (.bl p)] S) Q X := k
theorem wp_len_str (h : x.length ≤ sizeLine) (k : Q (.d (.int x.length)) S) : wp (lenF [.d (.str x)] S) Q X := by
  rw [lenF_str, if_pos h]; exact k
theorem wp_len_tup (k : Q (.d (.int l.length)) S) : wp (lenF [.d (.tup l)] S) Q X := k
theorem wp_len (h : rdlOf v S = some l) (k : Q (.d (.int l.length)) S) : wp (lenF [v] S) Q X := by
  unfold lenF
  split
  · rename_i e
    cases e
    split
    · cases h
    · cases h
    · rw [h]; exact k
  · rename_i hn; exact absurd rfl (hn _)
theorem wp_tuple_tup (k : Q (.d (.tup l)) S) : wp (tupleF [.d (.tup l)] S) Q X := k
theorem wp_tuple (h : rdlOf v S = some l) (k : Q (.d (.tup l)) S) : wp (tupleF [v] S) Q X := by
  unfold tupleF
  split
  · rename_i e
    cases e
    split
    · cases h
    · rw [h]; exact k
  · rename_i hn; exact absurd rfl (hn _)
theorem wp_list_tup (k : Q (.new l) S) : wp (listF [.d (.tup l)] S) Q X := k
theorem wp_list (h : rdlOf v S = some l) (k : Q (.new l) S) : wp (listF [v] S) Q X := by
  unfold listF
  split
  · rename_i e
    cases e
    split
    · cases h
    · rw [h]; exact k
  · rename_i hn; exact absurd rfl (hn _)
theorem wp_all {bs : List Bool} (h : rdlOf v S = some l) (hb : blsOf l = some bs) (k : Q (.d (.bl (bs.all id))) S) : wp (allF [v] S) Q X := by
  unfold allF; dsimp only; rw [h]; dsimp only; rw [hb]; exact k
theorem wp_any {bs : List Bool} (h : rdlOf v S = some l) (hb : blsOf l = some bs) (k : Q (.d (.bl (bs.any id))) S) : wp (anyF [v] S) Q X := by
  unfold anyF; dsimp only; rw [h]; dsimp only; rw [hb]; exact k
theorem wp_ix_tup (h : atI l i = some a) (k : Q (.d a) S) : wp (ixF (.d (.tup l)) (.d (.int i)) S) Q X := by
  rw [ixF_tup, h]; exact k
theorem wp_ix (hl : rdlOf v S = some l) (h : atI l i = some a) (k : Q (.d a) S) : wp (ixF v (.d (.int i)) S) Q X := by
  unfold ixF; dsimp only
  split
  · cases hl
  · cases hl
  · rw [hl]; dsimp only; rw [h]; exact k
theorem wp_ix_str {c : Nat} (hx : x.length ≤ sizeLine) (h : atI x.cps.toList i = some c) (k : Q (.d (.str ⟨#[c]⟩)) S) : wp (ixF (.d (.str x)) (.d (.int i)) S) Q X := by
  rw [ixF_str, if_pos hx, h]; exact k
theorem wp_sl_str {lo hi : Option Int} (h : x.length ≤ sizeLine) (k : Q (.d (.str (cutS x lo hi))) S) : wp (slF (.d (.str x)) lo hi S) Q X := by
  unfold slF; dsimp only; rw [if_pos h]; exact k
theorem wp_sl_tup {lo hi : Option Int} (k : Q (.d (.tup (cut l lo hi))) S) : wp (slF (.d (.tup l)) lo hi S) Q X := k
theorem wp_sl {lo hi : Option Int} (hl : rdlOf v S = some l) (k : Q (.new (cut l lo hi)) S) : wp (slF v lo hi S) Q X := by
  unfold slF
  split
  · cases hl
  · cases hl
  · rw [hl]; exact k
theorem wp_itA {Q : List D × (Sta → Bool) → Sta → Prop} (hl : rdlOf v S = some l) (k : Q (l, fun S1 => decide (rdlOf v S1 = some l)) S) : wp (itemsA v S) Q X := by
  unfold itemsA
  split
  · cases hl
  · cases hl
  · unfold itemsL; rw [hl]; exact k
theorem wp_itA_tup {Q : List D × (Sta → Bool) → Sta → Prop} (k : Q (l, fun _ => true) S) : wp (itemsA (.d (.tup l)) S) Q X := k
theorem wp_itA_str {Q : List D × (Sta → Bool) → Sta → Prop} (k : Q (chrs x, fun _ => true) S) : wp (itemsA (.d (.str x)) S) Q X := k
theorem wp_itL {Q : List D × (Sta → Bool) → Sta → Prop} (hl : rdlOf v S = some l) (k : Q (l, fun S1 => decide (rdlOf v S1 = some l)) S) : wp (itemsL v S) Q X := by
  unfold itemsL; rw [hl]; exact k
theorem wp_ran1 {Q : List D × (Sta → Bool) → Sta → Prop} (h1 : -(2 ^ 62) ≤ j) (h2 : j < 2 ^ 62) (k : Q (rng j, fun _ => true) S) : wp (itemsR1 [.d (.int j)] S) Q X := by
  rw [itemsR1_eq j S h1 h2]; exact k
theorem wp_ran2 {Q : List D × (Sta → Bool) → Sta → Prop} (h1 : -(2 ^ 62) ≤ i) (h2 : i < 2 ^ 62) (h3 : -(2 ^ 62) ≤ j) (h4 : j < 2 ^ 62) (k : Q (rng2 i j, fun _ => true) S) : wp (itemsR2 [.d (.int i), .d (.int j)] S) Q X := by
  rw [itemsR2_eq i j S h1 h2 h3 h4]; exact k
theorem wp_fld {P : List Ob} {B : List (Bool × List D)} {c f : String} {n : Nat} {fs : List (String × D)} (h : P[n]? = some (.ins c fs)) (hf : fs.lookup f = some a) (k : Q (.d a) ⟨P, B⟩) : wp (fldF c f (.d (.obj n)) ⟨P, B⟩) Q X := by
  unfold fldF; dsimp only; rw [h]; dsimp only; rw [if_pos rfl, hf]; exact k
theorem ins_of {P : List Ob} {B : List (Bool × List D)} {c f : String} {n : Nat} {fs : List (String × D)} (h : P[n]? = some (.ins c fs)) (hf : fs.lookup f = none) : isIns c f (.d (.obj n)) ⟨P, B⟩ = true := by
  unfold isIns; dsimp only; rw [h]; dsimp only; rw [hf]; simp
theorem boxOk_of {P : List Ob} {B : List (Bool × List D)} {n : Nat} {p : Bool × List D} (h : B[n]? = some p) : boxOk (.box n) ⟨P, B⟩ = true := by
  unfold boxOk; dsimp only; rw [h]
theorem wp_append {P : List Ob} {B : List (Bool × List D)} {n : Nat} (h : B[n]? = some (true, l)) (hl : l.length < sizeLine) (k : ∀ B', Ch [n] B B' → B'[n]? = some (true, l ++ [a]) → Q (.d .non) ⟨P, B'⟩) : wp (appendF (.box n) (.d a) ⟨P, B⟩) Q X := by
  unfold appendF; dsimp only [toD_d]; rw [h]; dsimp only; rw [if_pos hl]
  exact k _ .set (getS h)
theorem wp_extend {P : List Ob} {B : List (Bool × List D)} {n : Nat} (hu : lstOf u ⟨P, B⟩ = some m) (h : B[n]? = some (true, l)) (hl : l.length + m.length ≤ sizeLine) (k : ∀ B', Ch [n] B B' → B'[n]? = some (true, l ++ m) → Q (.d .non) ⟨P, B'⟩) : wp (extendF (.box n) u ⟨P, B⟩) Q X := by
  unfold extendF; dsimp only; rw [hu]; dsimp only; rw [h]; dsimp only; rw [if_pos hl]
  exact k _ .set (getS h)
theorem wp_isN (k : Q (.d (.bl (isNon a))) S) : wp (isNF (.d a) (.d .non) S) Q X := k
theorem wp_notN (k : Q (.d (.bl (!isNon a))) S) : wp (notNF (.d a) (.d .non) S) Q X := k
theorem wp_in_tup (ha : flatD a = true) (hl : l.all flatD = true) (k : Q (.d (.bl (inD a l))) S) : wp (inF (.d a) (.d (.tup l)) S) Q X := by
  have e : inB (.d a) (.d (.tup l)) S = some (inD a l) := if_pos ⟨ha, hl⟩
  unfold inF; rw [e]; exact k
theorem wp_notIn_tup (ha : flatD a = true) (hl : l.all flatD = true) (k : Q (.d (.bl (!inD a l))) S) : wp (notInF (.d a) (.d (.tup l)) S) Q X := by
  have e : inB (.d a) (.d (.tup l)) S = some (inD a l) := if_pos ⟨ha, hl⟩
  unfold notInF; rw [e]; exact k
theorem inB_l (hu : rdlOf u S = some l) (ha : flatD a = true) (hl : l.all flatD = true) : inB (.d a) u S = some (inD a l) := by
  unfold inB
  dsimp only
  split
  · cases hu
  · cases hu
  · rw [hu]; dsimp only; rw [if_pos ⟨ha, hl⟩]
theorem wp_in (hu : rdlOf u S = some l) (ha : flatD a = true) (hl : l.all flatD = true) (k : Q (.d (.bl (inD a l))) S) : wp (inF (.d a) u S) Q X := by
  unfold inF; rw [inB_l hu ha hl]; exact k
theorem wp_notIn (hu : rdlOf u S = some l) (ha : flatD a = true) (hl : l.all flatD = true) (k : Q (.d (.bl (!inD a l))) S) : wp (notInF (.d a) u S) Q X := by
  unfold notInF; rw [inB_l hu ha hl]; exact k
theorem wp_in_sign {c : Nat} (k : Q (.d (.bl (decide (c ∈ x.cps.toList)))) S) : wp (inF (.d (.str ⟨#[c]⟩)) (.d (.str x)) S) Q X := k
theorem wp_notIn_sign {c : Nat} (k : Q (.d (.bl (!decide (c ∈ x.cps.toList)))) S) : wp (notInF (.d (.str ⟨#[c]⟩)) (.d (.str x)) S) Q X := k
end
end Ev

set_option Elab.async false
set_option linter.all false
set_option maxRecDepth 100000
set_option maxHeartbeats 1000000
/-! Ew2: what is to be shown of a run, for the newer operators. -/
namespace Ev
open PySem PySem.Spec PyProof.Rows L2
open Classical
section
variable {σ : Sl} {S : Sta} {Q : Vl → Sta → Prop} {X : XP} {T Ta Tb To : EV} {Ts Tk : EVs}
theorem wE_tm {f} (k : wE To σ S (fun v S1 => ∃ a, v = .d (.str a) ∧ wE T σ S1 (fun u S2 => wp (f (.d (.str a)) (frz u) S2) Q X) X) X) : wE (eTm f To T) σ S Q X := by
  unfold wE eTm; rw [wp_bind]
  refine wp_monoQ k fun v S1 h => ?_
  obtain ⟨a, rfl, h⟩ := h
  dsimp only; rw [wp_bind]; exact h
theorem wE_callG {F : FV} {n m : Nat} {pm : List Nat} {dfl : List D} (k : wE Ts σ S (fun vs S1 => wE Tk σ S1 (fun ws S2 => vs.length = n ∧ ws.length = m ∧ wp (F (pick pm (vs ++ (ws ++ dfl.map .d))) S2) Q X) X) X) : wE (eCallG F n m pm dfl Ts Tk) σ S Q X := by
  unfold wE eCallG; rw [wp_bind]
  refine wp_monoQ k fun v S1 h => ?_
  rw [wp_bind]
  refine wp_monoQ h fun vs S2 h => ?_
  rw [if_pos ⟨h.1, h.2.1⟩]; exact h.2.2
theorem wE_makeG {c : String} {F : FV} {n m : Nat} {pm : List Nat} {dfl : List D} (k : wE Ts σ S (fun vs S1 => wE Tk σ S1 (fun ws S2 => vs.length = n ∧ ws.length = m ∧ wp (mkF c F (pick pm (vs ++ (ws ++ dfl.map .d))) S2) Q X) X) X) : wE (eMakeG c F n m pm dfl Ts Tk) σ S Q X := by
  unfold wE eMakeG; rw [wp_bind]
  refine wp_monoQ k fun v S1 h => ?_
  rw [wp_bind]
  refine wp_monoQ h fun vs S2 h => ?_
  rw [if_pos ⟨h.1, h.2.1⟩]; exact h.2.2
theorem wE_own2 {c : String} {F : FV} {ok : Vl → Sta → Bool} (k : wE Ta σ S (fun v S1 => wE Tb σ S1 (fun u S2 => (isCls c (frz v) S2 = true ∧ ok (frz u) S2 = true) ∧ wp (F [frz v, frz u] S2) Q X) X) X) : wE (eOwn2 c F ok Ta Tb) σ S Q X := by
  unfold wE eOwn2; rw [wp_bind]
  refine wp_monoQ k fun v S1 h => ?_
  rw [wp_bind]
  refine wp_monoQ h fun u S2 h => ?_
  rw [if_pos h.1]; exact h.2
theorem wE_enumV {Q : List D × (Sta → Bool) → Sta → Prop} (k : wE Ts σ S (fun vs S1 => wp (itemsE vs S1) Q X) X) : wE (iEnumV Ts) σ S Q X := by
  unfold wE iEnumV; rw [wp_bind]; exact k
theorem wE_zipV {Q : List D × (Sta → Bool) → Sta → Prop} (k : wE Ts σ S (fun vs S1 => wp (itemsZ vs S1) Q X) X) : wE (iZipV Ts) σ S Q X := by
  unfold wE iZipV; rw [wp_bind]; exact k
end
theorem cmulW (i j : Int) (h1 : -(2 ^ 200) < i) (h2 : i < 2 ^ 200) (h3 : -(2 ^ 200) < j) (h4 : j < 2 ^ 200) : CMulW i j := by
  have key : ∀ z : Int, -(2 ^ 200) < z → z < 2 ^ 200 → z.natAbs.log2 < 200 := by
    intro z a b
    by_cases h : z.natAbs = 0
    · rw [h]; decide
    · exact (Nat.log2_lt h).mpr (by omega)
  have := key i h1 h2
  have := key j h3 h4
  unfold CMulW
  omega
theorem cmm {a b m n : Int} (hm : 0 < m) (hm2 : m < 2 ^ 200) (hn : 0 < n) (hn2 : n < 2 ^ 200) : CMulW (a % m) (b % n) := by
  have h1 := Int.emod_nonneg a (show m ≠ 0 by omega)
  have h2 := Int.emod_lt_of_pos a hm
  have h3 := Int.emod_nonneg b (show n ≠ 0 by omega)
  have h4 := Int.emod_lt_of_pos b hn
  exact cmulW _ _ (by omega) (by omega) (by omega) (by omega)
theorem cdivW (i : Int) (j : Int) (h : 0 < j) (h2 : j < 2 ^ 64) : CDivW i j := by
  refine ⟨h, ?_⟩
  have : j.natAbs < 2 ^ 64 := by omega
  have h3 : j.natAbs.log2 < 64 := (Nat.log2_lt (by omega)).mpr this
  omega
section
variable {S : Sta} {Q : Vl → Sta → Prop} {X : XP} {i j : Int} {x y : Str} {a b : D} {l m : List D} {v u : Vl}
theorem wp_max (k : Q (.d (.int (if j > i then j else i))) S) : wp (maxF [.d (.int i), .d (.int j)] S) Q X := k
theorem wp_rev (h : rdlOf v S = some l) (k : Q (.new l.reverse) S) : wp (revF v S) Q X := by
  unfold revF; rw [h]; exact k
theorem wp_split (h : (y.length == 0) = false ∧ x.length + 2 ≤ sizeLine ∧ (Txt.split x y).all PyData.strOk = true) (k : Q (.new ((Txt.split x y).map .str)) S) : wp (splitF (.d (.str x)) (.d (.str y)) S) Q X := by
  unfold splitF; dsimp only; rw [if_pos h]; exact k
theorem wp_part {p q r : Str} (e : Txt.partition x y = (p, q, r)) (h : (y.length == 0) = false ∧ x.length ≤ sizeLine ∧ PyData.strOk p = true ∧ PyData.strOk q = true ∧ PyData.strOk r = true) (k : Q (.d (.tup [.str p, .str q, .str r])) S) : wp (partF (.d (.str x)) (.d (.str y)) S) Q X := by
  unfold partF; dsimp only; rw [e]; dsimp only; rw [if_pos h]; exact k
theorem wp_enum_tup {Q : List D × (Sta → Bool) → Sta → Prop} (k : Q (enumD 0 l, fun _ => true) S) : wp (itemsE [.d (.tup l)] S) Q X := k
theorem wp_enum {Q : List D × (Sta → Bool) → Sta → Prop} (h : rdlOf v S = some l) (k : Q (enumD 0 l, fun S1 => decide (rdlOf v S1 = some l)) S) : wp (itemsE [v] S) Q X := by
  unfold itemsE
  dsimp only
  split
  · cases h
  · rw [h]; exact k
theorem wp_join {ys : List Str} (h : rdlOf v S = some (ys.map .str)) (hl : (ys.map (·.length)).sum + ys.length * x.length ≤ 16777216) (k : Q (.d (.str (Txt.join x ys))) S) : wp (joinF (.d (.str x)) v S) Q X := by
  unfold joinF; dsimp only; rw [h]; dsimp only; rw [strsOf_map]; dsimp only; rw [if_pos hl]; exact k
theorem wp_inNone (h : okDs 59 l = true) (k : Q (.d (.bl (inD .non l))) S) : wp (inG (.d .non) (.d (.lst l)) S) Q X := by
  have e : inGB (.d .non) (.d (.lst l)) S = some (inD .non l) := by
    unfold inGB
    show (match inB (.d .non) (.d (.lst l)) S with
      | some b => some b
      | none => _) = _
    split
    · rename_i b e
      have e2 : inB (.d .non) (.d (.lst l)) S = if flatD .non = true ∧ l.all flatD = true then some (inD .non l) else none := rfl
      rw [e2] at e
      split at e
      · exact e.symm
      · cases e
    · have h2 : okD 60 .non = true ∧ okD 60 (.lst l) = true := ⟨rfl, h⟩
      show (if okD 60 .non = true ∧ okD 60 (.lst l) = true then some (inD .non l) else none) = _
      rw [if_pos h2]
  unfold inG; rw [e]; exact k
theorem inD_none {l : List D} (h : ∀ x ∈ l, ∃ m, x = .tup m) : inD .non l = false := by
  unfold inD
  rw [List.any_eq_false]
  intro y hy
  obtain ⟨m, rfl⟩ := h y hy
  simp [eqD, toPy, PyData.eqv]
theorem isCls_of {P : List Ob} {B : List (Bool × List D)} {c : String} {n : Nat} {fs : List (String × D)} (h : P[n]? = some (.ins c fs)) : isCls c (.d (.obj n)) ⟨P, B⟩ = true := by
  unfold isCls; dsimp only; rw [h]; simp
theorem tyV_of {P : List Ob} {B : List (Bool × List D)} {c : String} {n : Nat} {fs : List (String × D)} (h : P[n]? = some (.ins c fs)) : tyV (.d (.obj n)) ⟨P, B⟩ = some (.c c) := by
  unfold tyV; dsimp only; rw [h]
theorem cutB_id {n : Nat} {P : List Ob} {B : List (Bool × List D)} (h : B.length ≤ n) : cutB n ⟨P, B⟩ = ⟨P, B⟩ := by
  unfold cutB; rw [List.take_of_length_le h]
theorem wp_listT_str (h : x.length ≤ sizeLine) (k : Q (.new (chrs x)) S) : wp (listT [.d (.str x)] S) Q X := by
  unfold listT; dsimp only; rw [if_pos h]; exact k
theorem wp_listT_tup (k : Q (.new l) S) : wp (listT [.d (.tup l)] S) Q X := k
theorem wp_listT_lst (k : Q (.new l) S) : wp (listT [.d (.lst l)] S) Q X := k
theorem ws_putC {P : List Ob} {B : List (Bool × List D)} {σ : Sl} {nx : Sl → Sta → Prop} {rt : Vl → Sta → Prop} {bk ct : Sl → Sta → Prop} {ex : XPS} {n q : Nat} {z : Int} {w : D} (h : B[n]? = some (true, l)) (hj : ixN l.length z = some q) (k : ∀ B', Ch [n] B B' → B'[n]? = some (true, l.set q w) → nx σ ⟨P, B'⟩) : ws (putAt (.box n) (.d (.int z)) w σ ⟨P, B⟩) nx rt bk ct ex :=
  ws_putAt h hj (k _ .set (getS h))
end
end Ev

set_option Elab.async false
set_option linter.all false
set_option maxRecDepth 100000
set_option maxHeartbeats 0
namespace Wk
open PySem PySem.Spec PyProof.Rows L2 Ev
noncomputable abbrev tb__law_draw_0 : SV := sRet (eVar 2)
noncomputable abbrev tb__law_draw_1 : SV := sSeq (sSub (eVar 0) (eC (.int 0)) (eBin divF (eBin ixF (eVar 0) (eC (.int 0))) (eVar 1))) (tb__law_draw_0)
noncomputable abbrev tb__law_draw_2 : SV := sSeq (sSet 2 (eBin modF (eCall intF (aCons (eBin ixF (eVar 0) (eC (.int 0))) (aNil))) (eVar 1))) (tb__law_draw_1)
noncomputable abbrev tb__law_draw_3 : SV := sRet (eBin modF (eBin divF (eBin modF (eCall intF (aCons (eBin mulF (eVar 3) (eVar 3)) (aNil))) (eC (.int 2147483647))) (eC (.int 32))) (eVar 1))
noncomputable abbrev tb__law_draw_4 : SV := sSeq (sSet 3 (eBin modF (eCall intF (aCons (eBin addF (eBin addF (eVar 3) (eBin ixF (eVar 0) (eC (.int 1)))) (eBin mulF (eC (.int 40014)) (eBin ixF (eVar 0) (eC (.int 2))))) (aNil))) (eC (.int 2147483549)))) (tb__law_draw_3)
noncomputable abbrev tb__law_draw_5 : SV := sSeq (sSet 3 (eBin modF (eCall intF (aCons (eBin mulF (eVar 3) (eVar 3)) (aNil))) (eC (.int 2147483563)))) (tb__law_draw_4)
noncomputable abbrev tb__law_draw_6 : SV := sSeq (sSet 3 (eBin modF (eCall intF (aCons (eBin addF (eBin ixF (eVar 0) (eC (.int 1))) (eBin mulF (eBin mulF (eC (.int 69621)) (eBin ixF (eVar 0) (eC (.int 2)))) (eBin ixF (eVar 0) (eC (.int 2))))) (aNil))) (eC (.int 2147483587)))) (tb__law_draw_5)
noncomputable abbrev tb__law_draw_7 : SV := sSeq (sSub (eVar 0) (eC (.int 2)) (eBin addF (eBin ixF (eVar 0) (eC (.int 2))) (eC (.int 1)))) (tb__law_draw_6)
noncomputable abbrev tb__law_draw_8 : SV := sSeq (sIf (tOf (eBin gtF (eBin ixF (eVar 0) (eC (.int 0))) (eC (.int 0)))) (tb__law_draw_2) (sNext)) (tb__law_draw_7)
noncomputable abbrev t__law_draw : SV := tb__law_draw_8
noncomputable def F__law_draw : FV := mkFn 2 2 t__law_draw
noncomputable abbrev tb__law_name_0 : SV := sSet 4 (eSl (eBin addF (eBin addF (eSl (eBin ixF (eVar 1) (eUn negF (eC (.int 1)))) (oNone) (oSome (eVar 6))) (eVar 8)) (eSl (eBin ixF (eVar 1) (eUn negF (eC (.int 1)))) (oSome (eBin addF (eVar 6) (eC (.int 1)))) (oNone))) (oNone) (oSome (eC (.int 8))))
noncomputable abbrev tb__law_name_1 : SV := sSeq (sSet 8 (eBin ixF (eLst (aCons (eVar 7) (aCons (eBin addF (eVar 7) (eBin ixF (eBin ixF (eVar 1) (eUn negF (eC (.int 1)))) (eVar 6))) (aCons (eC (.str "")) (aNil))))) (eBin subF (eVar 3) (eC (.int 2))))) (tb__law_name_0)
noncomputable abbrev tb__law_name_2 : SV := sSeq (sSet 7 (eBin ixF (eVar 2) (eCallF F__law_draw [] (aCons (eVar 0) (aCons (eC (.int 26)) (aNil)))))) (tb__law_name_1)
noncomputable abbrev tb__law_name_3 : SV := sSeq (sSet 6 (eCallF F__law_draw [] (aCons (eVar 0) (aCons (eCall lenF (aCons (eBin ixF (eVar 1) (eUn negF (eC (.int 1)))) (aNil))) (aNil))))) (tb__law_name_2)
noncomputable abbrev tb__law_name_4 : SV := sSet 4 (eBin ixF (eBin addF (eVar 9) (eLst (aCons (eC (.str "empty")) (aNil)))) (eCallF F__law_draw [] (aCons (eVar 0) (aCons (eC (.int 13)) (aNil)))))
noncomputable abbrev tb__law_name_5 : SV := sSeq (sSet 9 (eLst (aCons (eC (.str "load")) (aCons (eC (.str "raw")) (aCons (eC (.str "blank")) (aCons (eC (.str "refuse")) (aCons (eC (.str "match")) (aCons (eC (.str "patch")) (aCons (eC (.str "fill")) (aCons (eC (.str "sweep")) (aCons (eC (.str "kept")) (aCons (eC (.str "lost")) (aCons (eC (.str "any")) (aCons (eC (.str "unique")) (aNil))))))))))))))) (tb__law_name_4)
noncomputable abbrev tb__law_name_6 : SV := sRet (eVar 4)
noncomputable abbrev tb__law_name_7 : SV := sSeq (sIf (tOrW (tOf (eBin eqF (eVar 4) (eC (.str "")))) (tOf (eBin inF (eVar 4) (eVar 1)))) (sSet 4 (eBin ixF (eLc [7] (iOf itemsA (eCall listT (aCons (eVar 2) (aNil)))) (gNm 7) (tOf (eBin notInF (eVar 7) (eVar 1))) (eVar 7)) (eC (.int 0)))) (sNext)) (tb__law_name_6)
noncomputable abbrev tb__law_name_8 : SV := sSeq (sIf (tOrW (tOf (eBin ltF (eVar 3) (eC (.int 2)))) (tOf (eBin eqF (eVar 1) (eLst (aNil))))) (sSet 4 (eJoin (eC (.str "")) (eLc [5] (iRan1 (aCons (eBin addF (eC (.int 1)) (eCallF F__law_draw [] (aCons (eVar 0) (aCons (eC (.int 8)) (aNil))))) (aNil))) (gNm 5) (tTrue) (eBin ixF (eVar 2) (eCallF F__law_draw [] (aCons (eVar 0) (aCons (eC (.int 26)) (aNil)))))))) (sIf (tOf (eBin ltF (eVar 3) (eC (.int 5)))) (tb__law_name_3) (tb__law_name_5))) (tb__law_name_7)
noncomputable abbrev tb__law_name_9 : SV := sSeq (sSet 4 (eC (.str ""))) (tb__law_name_8)
noncomputable abbrev tb__law_name_10 : SV := sSeq (sSet 3 (eCallF F__law_draw [] (aCons (eVar 0) (aCons (eC (.int 6)) (aNil))))) (tb__law_name_9)
noncomputable abbrev tb__law_name_11 : SV := sSeq (sSet 2 (eC (.str "abcdefghijklmnopqrstuvwxyz"))) (tb__law_name_10)
noncomputable abbrev t__law_name : SV := tb__law_name_11
noncomputable def F__law_name : FV := mkFn 2 8 t__law_name
noncomputable abbrev tb__law_tables_0 : SV := sExpr (eLm appendF (eVar 6) (eTup (aCons (eVar 7) (aCons (eBin ixF (eVar 1) (eCallF F__law_draw [] (aCons (eVar 0) (aCons (eCall lenF (aCons (eVar 1) (aNil))) (aNil))))) (aNil)))))
noncomputable abbrev tb__law_tables_1 : SV := sSeq (sExpr (eLm appendF (eVar 5) (eVar 7))) (tb__law_tables_0)
noncomputable abbrev tb__law_tables_2 : SV := sSeq (sIf (tOrW (tOf (eBin inF (eVar 7) (eVar 5))) (tOf (eBin gtF (eCallF F__law_draw [] (aCons (eVar 0) (aCons (eC (.int 4)) (aNil)))) (eC (.int 0))))) (sSet 7 (eCallF F__law_name [] (aCons (eVar 0) (aCons (eVar 5) (aNil))))) (sNext)) (tb__law_tables_1)
noncomputable abbrev tb__law_tables_3 : SV := sSeq (sSet 7 (eBin ixF (eVar 1) (eCallF F__law_draw [] (aCons (eVar 0) (aCons (eCall lenF (aCons (eVar 1) (aNil))) (aNil)))))) (tb__law_tables_2)
noncomputable abbrev tb__law_tables_4 : SV := sExpr (eLm appendF (eVar 3) (eTup (aCons (eVar 4) (aCons (eBin eqF (eCallF F__law_draw [] (aCons (eVar 0) (aCons (eC (.int 2)) (aNil)))) (eC (.int 0))) (aCons (eCall tupleF (aCons (eVar 6) (aNil))) (aNil))))))
noncomputable abbrev tb__law_tables_5 : SV := sSeq (sFor (iRan1 (aCons (eCallF F__law_draw [] (aCons (eVar 0) (aCons (eC (.int 4)) (aNil)))) (aNil))) (gNm 2) (tb__law_tables_3)) (tb__law_tables_4)
noncomputable abbrev tb__law_tables_6 : SV := sSeq (sSetB 6 (eLst (aNil))) (tb__law_tables_5)
noncomputable abbrev tb__law_tables_7 : SV := sSeq (sSetB 5 (eLst (aNil))) (tb__law_tables_6)
noncomputable abbrev tb__law_tables_8 : SV := sRet (eCall tupleF (aCons (eVar 3) (aNil)))
noncomputable abbrev tb__law_tables_9 : SV := sSeq (sFor (iOf itemsA (eVar 1)) (gNm 4) (tb__law_tables_7)) (tb__law_tables_8)
noncomputable abbrev tb__law_tables_10 : SV := sSeq (sSetB 3 (eLst (aNil))) (tb__law_tables_9)
noncomputable abbrev tb__law_tables_11 : SV := sSeq (sFor (iRan1 (aCons (eBin addF (eC (.int 1)) (eCallF F__law_draw [] (aCons (eVar 0) (aCons (eC (.int 5)) (aNil))))) (aNil))) (gNm 2) (sExpr (eLm appendF (eVar 1) (eCallF F__law_name [] (aCons (eVar 0) (aCons (eVar 1) (aNil))))))) (tb__law_tables_10)
noncomputable abbrev tb__law_tables_12 : SV := sSeq (sSetB 1 (eLst (aNil))) (tb__law_tables_11)
noncomputable abbrev t__law_tables : SV := tb__law_tables_12
noncomputable def F__law_tables : FV := mkFn 1 7 t__law_tables
noncomputable def t__law_store : SV := sRet (eLst (aCons (eCall maxF (aCons (eC (.int 0)) (aCons (eBin subF (eVar 0) (eBin powF (eC (.int 10)) (eC (.int 18)))) (aNil)))) (aCons (eBin modF (eCall intF (aCons (eVar 0) (aNil))) (eC (.int 2147483629))) (aCons (eC (.int 0)) (aNil)))))
noncomputable def F__law_store : FV := mkFn 1 0 t__law_store
noncomputable abbrev tb__law_cell_at_0 : SV := sRet (eC (.int 0))
noncomputable abbrev tb__law_cell_at_1 : SV := sSeq (sIf (tOf (eBin ltF (eVar 1) (eCall lenF (aCons (eVar 0) (aNil))))) (sRet (eBin ixF (eVar 0) (eVar 1))) (sNext)) (tb__law_cell_at_0)
noncomputable abbrev t__law_cell_at : SV := tb__law_cell_at_1
noncomputable def F__law_cell_at : FV := mkFn 2 0 t__law_cell_at
noncomputable abbrev tb_is_name_0 : SV := sRet (eCall allF (aCons (eLc [1] (iOf itemsA (eVar 0)) (gNm 1) (tTrue) (eBin inF (eVar 1) (eC (.str "abcdefghijklmnopqrstuvwxyz")))) (aNil)))
noncomputable abbrev tb_is_name_1 : SV := sSeq (sIf (tOrW (tNotW (tOf (eIsTy "str" (eVar 0)))) (tOrW (tOf (eBin eqF (eVar 0) (eC (.str "")))) (tOf (eBin gtF (eCall lenF (aCons (eVar 0) (aNil))) (eC (.int 8)))))) (sRet (eC (.bl false))) (sNext)) (tb_is_name_0)
noncomputable abbrev t_is_name : SV := tb_is_name_1
noncomputable def F_is_name : FV := mkFn 1 1 t_is_name
noncomputable def t_is_reference : SV := sRet (eAnd (eIsTy "tuple" (eVar 0)) (eAnd (eBin eqF (eCall lenF (aCons (eVar 0) (aNil))) (eC (.int 2))) (eAnd (eCallF F_is_name [] (aCons (eBin ixF (eVar 0) (eC (.int 0))) (aNil))) (eCallF F_is_name [] (aCons (eBin ixF (eVar 0) (eC (.int 1))) (aNil))))))
noncomputable def F_is_reference : FV := mkFn 1 0 t_is_reference
noncomputable abbrev tb_is_table_0 : SV := sRet (eBin eqF (eUn lenSetF (eLc [4] (iOf itemsA (eVar 3)) (gNm 4) (tTrue) (eBin ixF (eVar 4) (eC (.int 0))))) (eCall lenF (aCons (eVar 3) (aNil))))
noncomputable abbrev tb_is_table_1 : SV := sSeq (sIf (tNotW (tOf (eCall allF (aCons (eLc [4] (iOf itemsA (eVar 3)) (gNm 4) (tTrue) (eCallF F_is_reference [] (aCons (eVar 4) (aNil)))) (aNil))))) (sRet (eC (.bl false))) (sNext)) (tb_is_table_0)
noncomputable abbrev tb_is_table_2 : SV := sSeq (sIf (tOrW (tNotW (tOf (eIsTy "tuple" (eVar 3)))) (tOf (eBin gtF (eCall lenF (aCons (eVar 3) (aNil))) (eC (.int 3))))) (sRet (eC (.bl false))) (sNext)) (tb_is_table_1)
noncomputable abbrev tb_is_table_3 : SV := sSeq (sIf (tOrW (tNotW (tOf (eCallF F_is_name [] (aCons (eVar 1) (aNil))))) (tNotW (tOf (eIsTy "bool" (eVar 2))))) (sRet (eC (.bl false))) (sNext)) (tb_is_table_2)
noncomputable abbrev tb_is_table_4 : SV := sSeq (sUnp (gTp 3 (gMore (gNm 1) (gMore (gNm 2) (gMore (gNm 3) (gNone))))) (eVar 0)) (tb_is_table_3)
noncomputable abbrev tb_is_table_5 : SV := sSeq (sIf (tOrW (tNotW (tOf (eIsTy "tuple" (eVar 0)))) (tOf (eBin neF (eCall lenF (aCons (eVar 0) (aNil))) (eC (.int 3))))) (sRet (eC (.bl false))) (sNext)) (tb_is_table_4)
noncomputable abbrev t_is_table : SV := tb_is_table_5
noncomputable def F_is_table : FV := mkFn 1 4 t_is_table
noncomputable abbrev tb_is_plan_0 : SV := sRet (eBin eqF (eUn lenSetF (eLc [1] (iOf itemsA (eVar 0)) (gNm 1) (tTrue) (eBin ixF (eVar 1) (eC (.int 0))))) (eCall lenF (aCons (eVar 0) (aNil))))
noncomputable abbrev tb_is_plan_1 : SV := sSeq (sIf (tNotW (tOf (eCall allF (aCons (eLc [1] (iOf itemsA (eVar 0)) (gNm 1) (tTrue) (eCallF F_is_table [] (aCons (eVar 1) (aNil)))) (aNil))))) (sRet (eC (.bl false))) (sNext)) (tb_is_plan_0)
noncomputable abbrev tb_is_plan_2 : SV := sSeq (sIf (tOrW (tNotW (tOf (eIsTy "tuple" (eVar 0)))) (tOrW (tOf (eBin eqF (eVar 0) (eTup (aNil)))) (tOf (eBin gtF (eCall lenF (aCons (eVar 0) (aNil))) (eC (.int 5)))))) (sRet (eC (.bl false))) (sNext)) (tb_is_plan_1)
noncomputable abbrev t_is_plan : SV := tb_is_plan_2
noncomputable def F_is_plan : FV := mkFn 1 1 t_is_plan
noncomputable abbrev tb_Schema_init_0 : SV := sFldS "Schema" "plan" (eVar 0) (eVar 1)
noncomputable abbrev tb_Schema_init_1 : SV := sSeq (sIf (tNotW (tOf (eCall allF (aCons (eLc [6] (iOf itemsA (eVar 4)) (gNm 6) (tTrue) (eBin inF (eVar 6) (eVar 2))) (aNil))))) (sRaise "NoSchema" ["part"] (aCons (eC (.str "references")) (aNil))) (sNext)) (tb_Schema_init_0)
noncomputable abbrev tb_Schema_init_2 : SV := sSeq (sSet 4 (eLc2 [3, 5, 6] (iOf itemsA (eVar 1)) (gNm 3) (tTrue) [5, 6] (iOf itemsA (eBin ixF (eVar 3) (eC (.int 2)))) (gTp 2 (gMore (gNm 5) (gMore (gNm 6) (gNone)))) (tTrue) (eVar 6))) (tb_Schema_init_1)
noncomputable abbrev tb_Schema_init_3 : SV := sSeq (sSet 2 (eLc [3] (iOf itemsA (eVar 1)) (gNm 3) (tTrue) (eBin ixF (eVar 3) (eC (.int 0))))) (tb_Schema_init_2)
noncomputable abbrev tb_Schema_init_4 : SV := sSeq (sIf (tNotW (tOf (eCallF F_is_plan [] (aCons (eVar 1) (aNil))))) (sRaise "NoSchema" ["part"] (aCons (eC (.str "tables")) (aNil))) (sNext)) (tb_Schema_init_3)
noncomputable abbrev t_Schema_init : SV := tb_Schema_init_4
noncomputable def F_Schema_init : FV := mkFn 2 5 t_Schema_init
noncomputable abbrev tb__law_step_0 : SV := sRet (eTup (aCons (eBin ixF (eLst (aCons (eC (.str "patch")) (aCons (eC (.str "fill")) (aCons (eC (.str "sweep")) (aNil))))) (eBin subF (eVar 5) (eC (.int 2)))) (aCons (eVar 2) (aCons (eBin ixF (eBin ixF (eVar 4) (eCallF F__law_draw [] (aCons (eVar 0) (aCons (eCall lenF (aCons (eVar 4) (aNil))) (aNil))))) (eC (.int 0))) (aNil)))))
noncomputable abbrev tb__law_step_1 : SV := sSeq (sIf (tOrW (tOf (eBin ltF (eVar 5) (eC (.int 2)))) (tOf (eBin eqF (eVar 4) (eTup (aNil))))) (sRet (eTup (aCons (eC (.str "load")) (aCons (eVar 2) (aCons (eBin ixF (eLst (aCons (eC (.str "raw")) (aCons (eC (.str "blank")) (aCons (eC (.str "refuse")) (aNil))))) (eCallF F__law_draw [] (aCons (eVar 0) (aCons (eC (.int 3)) (aNil))))) (aCons (eBin eqF (eCallF F__law_draw [] (aCons (eVar 0) (aCons (eC (.int 2)) (aNil)))) (eC (.int 1))) (aNil))))))) (sNext)) (tb__law_step_0)
noncomputable abbrev tb__law_step_2 : SV := sSeq (sSet 5 (eCallF F__law_draw [] (aCons (eVar 0) (aCons (eC (.int 5)) (aNil))))) (tb__law_step_1)
noncomputable abbrev tb__law_step_3 : SV := sSeq (sUnp (gTp 3 (gMore (gNm 2) (gMore (gNm 3) (gMore (gNm 4) (gNone))))) (eBin ixF (eVar 1) (eCallF F__law_draw [] (aCons (eVar 0) (aCons (eCall lenF (aCons (eVar 1) (aNil))) (aNil)))))) (tb__law_step_2)
noncomputable abbrev t__law_step : SV := tb__law_step_3
noncomputable def F__law_step : FV := mkFn 2 4 t__law_step
noncomputable def t_Schema_tables : SV := sRet (eUn (fldF "Schema" "plan") (eVar 0))
noncomputable def F_Schema_tables : FV := mkFn 1 0 t_Schema_tables
noncomputable abbrev tb_has_table_0 : SV := sRet (eBin inF (eVar 1) (eLc [2, 3, 4] (iOf itemsA (eMeth "Schema" "tables" F_Schema_tables [] (eVar 0) (aNil))) (gTp 3 (gMore (gNm 2) (gMore (gNm 3) (gMore (gNm 4) (gNone))))) (tTrue) (eVar 2)))
noncomputable abbrev tb_has_table_1 : SV := sSeq (sIf (tNotW (tOf (eIsTy "str" (eVar 1)))) (sRet (eC (.bl false))) (sNext)) (tb_has_table_0)
noncomputable abbrev t_has_table : SV := tb_has_table_1
noncomputable def F_has_table : FV := mkFn 2 3 t_has_table
noncomputable def t_is_flag : SV := sRet (eOr (eBin (isBF true false) (eVar 0) (eC (.bl true))) (eBin (isBF false false) (eVar 0) (eC (.bl false))))
noncomputable def F_is_flag : FV := mkFn 1 0 t_is_flag
noncomputable abbrev tb_is_load_0 : SV := sRet (eAnd (eBin inF (eBin ixF (eVar 1) (eC (.int 2))) (eC (.tup ([("raw" : Str), ("blank" : Str), ("refuse" : Str)].map .str)))) (eCallF F_is_flag [] (aCons (eBin ixF (eVar 1) (eC (.int 3))) (aNil))))
noncomputable abbrev tb_is_load_1 : SV := sSeq (sIf (tOrW (tNotW (tOf (eCallF F_has_table [] (aCons (eVar 0) (aCons (eBin ixF (eVar 1) (eC (.int 1))) (aNil)))))) (tNotW (tOf (eIsTy "str" (eBin ixF (eVar 1) (eC (.int 2))))))) (sRet (eC (.bl false))) (sNext)) (tb_is_load_0)
noncomputable abbrev t_is_load : SV := tb_is_load_1
noncomputable def F_is_load : FV := mkFn 2 0 t_is_load
noncomputable abbrev tb_Schema_found_0 : SV := sRaise "NoTable" ["name"] (aCons (eVar 1) (aNil))
noncomputable abbrev tb_Schema_found_1 : SV := sSeq (sFor (iOf itemsA (eUn (fldF "Schema" "plan") (eVar 0))) (gNm 2) (sIf (tOf (eBin eqF (eBin ixF (eVar 2) (eC (.int 0))) (eVar 1))) (sRet (eVar 2)) (sNext))) (tb_Schema_found_0)
noncomputable abbrev t_Schema_found : SV := tb_Schema_found_1
noncomputable def F_Schema_found : FV := mkFn 2 1 t_Schema_found
noncomputable def t_Schema_columns : SV := sRet (eCall tupleF (aCons (eLc [2, 3] (iOf itemsA (eBin ixF (eMeth "Schema" "found" F_Schema_found [] (eVar 0) (aCons (eVar 1) (aNil))) (eC (.int 2)))) (gTp 2 (gMore (gNm 2) (gMore (gNm 3) (gNone)))) (tTrue) (eVar 2)) (aNil)))
noncomputable def F_Schema_columns : FV := mkFn 2 2 t_Schema_columns
noncomputable abbrev tb_has_column_0 : SV := sRet (eBin inF (eVar 2) (eMeth "Schema" "columns" F_Schema_columns [] (eVar 0) (aCons (eVar 1) (aNil))))
noncomputable abbrev tb_has_column_1 : SV := sSeq (sIf (tOrW (tNotW (tOf (eCallF F_has_table [] (aCons (eVar 0) (aCons (eVar 1) (aNil)))))) (tNotW (tOf (eIsTy "str" (eVar 2))))) (sRet (eC (.bl false))) (sNext)) (tb_has_column_0)
noncomputable abbrev t_has_column : SV := tb_has_column_1
noncomputable def F_has_column : FV := mkFn 3 0 t_has_column
noncomputable abbrev tb_is_step_0 : SV := sRet (eAnd (eBin inF (eBin ixF (eVar 1) (eC (.int 0))) (eC (.tup ([("patch" : Str), ("fill" : Str), ("sweep" : Str)].map .str)))) (eAnd (eBin eqF (eCall lenF (aCons (eVar 1) (aNil))) (eC (.int 3))) (eCallF F_has_column [] (aCons (eVar 0) (aCons (eBin ixF (eVar 1) (eC (.int 1))) (aCons (eBin ixF (eVar 1) (eC (.int 2))) (aNil)))))))
noncomputable abbrev tb_is_step_1 : SV := sSeq (sIf (tOf (eBin eqF (eBin ixF (eVar 1) (eC (.int 0))) (eC (.str "load")))) (sRet (eAnd (eBin eqF (eCall lenF (aCons (eVar 1) (aNil))) (eC (.int 4))) (eCallF F_is_load [] (aCons (eVar 0) (aCons (eVar 1) (aNil)))))) (sNext)) (tb_is_step_0)
noncomputable abbrev tb_is_step_2 : SV := sSeq (sIf (tOrW (tNotW (tOf (eIsTy "tuple" (eVar 1)))) (tOrW (tOf (eBin ltF (eCall lenF (aCons (eVar 1) (aNil))) (eC (.int 3)))) (tNotW (tOf (eIsTy "str" (eBin ixF (eVar 1) (eC (.int 0)))))))) (sRet (eC (.bl false))) (sNext)) (tb_is_step_1)
noncomputable abbrev t_is_step : SV := tb_is_step_2
noncomputable def F_is_step : FV := mkFn 2 0 t_is_step
noncomputable abbrev tb_first_wrong_0 : SV := sRet (eC .non)
noncomputable abbrev tb_first_wrong_1 : SV := sSeq (sFor (iEnumV (aCons (eVar 1) (aNil))) (gTp 2 (gMore (gNm 2) (gMore (gNm 3) (gNone)))) (sIf (tOrW (tOf (eBin geF (eVar 2) (eC (.int 20)))) (tNotW (tOf (eCallF F_is_step [] (aCons (eVar 0) (aCons (eVar 3) (aNil))))))) (sRet (eVar 2)) (sNext))) (tb_first_wrong_0)
noncomputable abbrev tb_first_wrong_2 : SV := sSeq (sIf (tNotW (tOf (eIsTy "tuple" (eVar 1)))) (sRet (eC (.int 0))) (sNext)) (tb_first_wrong_1)
noncomputable abbrev t_first_wrong : SV := tb_first_wrong_2
noncomputable def F_first_wrong : FV := mkFn 2 2 t_first_wrong
noncomputable abbrev tb_Script_init_0 : SV := sFldS "Script" "keeping" (eVar 0) (eVar 3)
noncomputable abbrev tb_Script_init_1 : SV := sSeq (sFldS "Script" "sequence" (eVar 0) (eVar 2)) (tb_Script_init_0)
noncomputable abbrev tb_Script_init_2 : SV := sSeq (sFldS "Script" "frame" (eVar 0) (eVar 1)) (tb_Script_init_1)
noncomputable abbrev tb_Script_init_3 : SV := sSeq (sIf (tNotW (tOf (eCallF F_is_flag [] (aCons (eVar 3) (aNil))))) (sBad) (sNext)) (tb_Script_init_2)
noncomputable abbrev tb_Script_init_4 : SV := sSeq (sIf (tOf (eBin notNF (eVar 4) (eC .non))) (sRaise "NoStep" ["index"] (aCons (eVar 4) (aNil))) (sNext)) (tb_Script_init_3)
noncomputable abbrev tb_Script_init_5 : SV := sSeq (sSet 4 (eCallF F_first_wrong [] (aCons (eVar 1) (aCons (eVar 2) (aNil))))) (tb_Script_init_4)
noncomputable abbrev t_Script_init : SV := tb_Script_init_5
noncomputable def F_Script_init : FV := mkFn 4 1 t_Script_init
noncomputable abbrev tb__law_text_0 : SV := sIf (tAndW (tOf (eBin eqF (eBin ixF (eVar 3) (eC (.int 0))) (eC (.str "load")))) (tOf (eBin ixF (eVar 3) (eC (.int 3))))) (sSet 2 (eBin addF (eVar 2) (eC (.str " match")))) (sNext)
noncomputable abbrev tb__law_text_1 : SV := sSeq (sSet 2 (eBin addF (eBin addF (eBin addF (eBin addF (eBin addF (eBin addF (eVar 2) (eC (.str "; "))) (eBin ixF (eVar 3) (eC (.int 0)))) (eC (.str " "))) (eBin ixF (eVar 3) (eC (.int 1)))) (eC (.str " "))) (eBin ixF (eVar 3) (eC (.int 2))))) (tb__law_text_0)
noncomputable abbrev tb__law_text_2 : SV := sRet (eVar 2)
noncomputable abbrev tb__law_text_3 : SV := sSeq (sFor (iOf itemsA (eVar 0)) (gNm 3) (tb__law_text_1)) (tb__law_text_2)
noncomputable abbrev tb__law_text_4 : SV := sSeq (sSet 2 (eBin ixF (eLst (aCons (eC (.str "lost")) (aCons (eC (.str "kept")) (aNil)))) (eCall intF (aCons (eVar 1) (aNil))))) (tb__law_text_3)
noncomputable abbrev t__law_text : SV := tb__law_text_4
noncomputable def F__law_text : FV := mkFn 2 2 t__law_text
noncomputable def t_Script_steps : SV := sRet (eUn (fldF "Script" "sequence") (eVar 0))
noncomputable def F_Script_steps : FV := mkFn 1 0 t_Script_steps
noncomputable abbrev tb_step_text_0 : SV := sRet (eJoin (eC (.str " ")) (eVar 1))
noncomputable abbrev tb_step_text_1 : SV := sSeq (sIf (tOf (eBin ixF (eVar 0) (eC (.int 3)))) (sExpr (eLm appendF (eVar 1) (eC (.str "match")))) (sNext)) (tb_step_text_0)
noncomputable abbrev tb_step_text_2 : SV := sSeq (sSetB 1 (eLst (aCons (eBin ixF (eVar 0) (eC (.int 0))) (aCons (eBin ixF (eVar 0) (eC (.int 1))) (aCons (eBin ixF (eVar 0) (eC (.int 2))) (aNil)))))) (tb_step_text_1)
noncomputable abbrev tb_step_text_3 : SV := sRet (eJoin (eC (.str " ")) (eCall listT (aCons (eVar 0) (aNil))))
noncomputable abbrev tb_step_text_4 : SV := sSeq (sIf (tOf (eBin eqF (eBin ixF (eVar 0) (eC (.int 0))) (eC (.str "load")))) (tb_step_text_2) (sNext)) (tb_step_text_3)
noncomputable abbrev t_step_text : SV := tb_step_text_4
noncomputable def F_step_text : FV := mkFn 1 1 t_step_text
noncomputable abbrev tb_script_text_0 : SV := sRet (eJoin (eC (.str "; ")) (eVar 1))
noncomputable abbrev tb_script_text_1 : SV := sSeq (sFor (iOf itemsA (eMeth "Script" "steps" F_Script_steps [] (eVar 0) (aNil))) (gNm 2) (sExpr (eLm appendF (eVar 1) (eCallF F_step_text [] (aCons (eVar 2) (aNil)))))) (tb_script_text_0)
noncomputable abbrev tb_script_text_2 : SV := sSeq (sSetB 1 (eLst (aCons (eIf (tOf (eUn (fldF "Script" "keeping") (eVar 0))) (eC (.str "kept")) (eC (.str "lost"))) (aNil)))) (tb_script_text_1)
noncomputable abbrev t_script_text : SV := tb_script_text_2
noncomputable def F_script_text : FV := mkFn 1 2 t_script_text
noncomputable abbrev tb_step_of_0 : SV := sRet (eTup (aCons (eC (.str "load")) (aCons (eBin ixF (eVar 1) (eC (.int 1))) (aCons (eBin ixF (eVar 1) (eC (.int 2))) (aCons (eBin eqF (eCall lenF (aCons (eVar 1) (aNil))) (eC (.int 4))) (aNil))))))
noncomputable abbrev tb_step_of_1 : SV := sSeq (sIf (tOrW (tOf (eBin notInF (eBin ixF (eVar 1) (eC (.int 2))) (eC (.tup ([("raw" : Str), ("blank" : Str), ("refuse" : Str)].map .str))))) (tOf (eBin (inTF true) (eSl (eVar 1) (oSome (eC (.int 3))) (oNone)) (eTup (aCons (eLst (aNil)) (aCons (eLst (aCons (eC (.str "match")) (aNil))) (aNil))))))) (sRet (eC .non)) (sNext)) (tb_step_of_0)
noncomputable abbrev tb_step_of_2 : SV := sRet (eTup (aCons (eBin ixF (eVar 1) (eC (.int 0))) (aCons (eBin ixF (eVar 1) (eC (.int 1))) (aCons (eBin ixF (eVar 1) (eC (.int 2))) (aNil)))))
noncomputable abbrev tb_step_of_3 : SV := sSeq (sIf (tOrW (tOf (eBin notInF (eBin ixF (eVar 1) (eC (.int 0))) (eC (.tup ([("patch" : Str), ("fill" : Str), ("sweep" : Str)].map .str))))) (tOrW (tOf (eBin neF (eCall lenF (aCons (eVar 1) (aNil))) (eC (.int 3)))) (tNotW (tOf (eCallF F_is_name [] (aCons (eBin ixF (eVar 1) (eC (.int 2))) (aNil))))))) (sRet (eC .non)) (sNext)) (tb_step_of_2)
noncomputable abbrev tb_step_of_4 : SV := sSeq (sIf (tOf (eBin eqF (eBin ixF (eVar 1) (eC (.int 0))) (eC (.str "load")))) (tb_step_of_1) (sNext)) (tb_step_of_3)
noncomputable abbrev tb_step_of_5 : SV := sSeq (sIf (tOrW (tOf (eBin ltF (eCall lenF (aCons (eVar 1) (aNil))) (eC (.int 3)))) (tNotW (tOf (eCallF F_is_name [] (aCons (eBin ixF (eVar 1) (eC (.int 1))) (aNil)))))) (sRet (eC .non)) (sNext)) (tb_step_of_4)
noncomputable abbrev tb_step_of_6 : SV := sSeq (sSet 1 (eTm splitF (eVar 0) (eC (.str " ")))) (tb_step_of_5)
noncomputable abbrev t_step_of : SV := tb_step_of_6
noncomputable def F_step_of : FV := mkFn 1 1 t_step_of
noncomputable abbrev tb_read_script_0 : SV := sExpr (eLm appendF (eVar 3) (eVar 5))
noncomputable abbrev tb_read_script_1 : SV := sSeq (sIf (tOf (eBin isNF (eVar 5) (eC .non))) (sRaise "NoText" ["part"] (aCons (eVar 4) (aNil))) (sNext)) (tb_read_script_0)
noncomputable abbrev tb_read_script_2 : SV := sSeq (sSet 5 (eCallF F_step_of [] (aCons (eBin ixF (eVar 2) (eVar 4)) (aNil)))) (tb_read_script_1)
noncomputable abbrev tb_read_script_3 : SV := sRet (eMakeG "Script" F_Script_init 3 0 [0, 1, 2] [.bl true] (aCons (eVar 0) (aCons (eCall tupleF (aCons (eVar 3) (aNil))) (aCons (eBin eqF (eBin ixF (eVar 2) (eC (.int 0))) (eC (.str "kept"))) (aNil)))) (aNil))
noncomputable abbrev tb_read_script_4 : SV := sSeq (sFor (iRan2 (aCons (eC (.int 1)) (aCons (eCall lenF (aCons (eVar 2) (aNil))) (aNil)))) (gNm 4) (tb_read_script_2)) (tb_read_script_3)
noncomputable abbrev tb_read_script_5 : SV := sSeq (sSetB 3 (eLst (aNil))) (tb_read_script_4)
noncomputable abbrev tb_read_script_6 : SV := sSeq (sIf (tOf (eBin notInF (eBin ixF (eVar 2) (eC (.int 0))) (eTup (aCons (eC (.str "kept")) (aCons (eC (.str "lost")) (aNil)))))) (sRaise "NoText" ["part"] (aCons (eC (.int 0)) (aNil))) (sNext)) (tb_read_script_5)
noncomputable abbrev tb_read_script_7 : SV := sSeq (sSet 2 (eTm splitF (eVar 1) (eC (.str "; ")))) (tb_read_script_6)
noncomputable abbrev tb_read_script_8 : SV := sSeq (sIf (tNotW (tOf (eIsTy "str" (eVar 1)))) (sRaise "NoText" ["part"] (aCons (eC (.int 0)) (aNil))) (sNext)) (tb_read_script_7)
noncomputable abbrev t_read_script : SV := tb_read_script_8
noncomputable def F_read_script : FV := mkFn 2 4 t_read_script
noncomputable def t_Script_len : SV := sRet (eCall lenF (aCons (eUn (fldF "Script" "sequence") (eVar 0)) (aNil)))
noncomputable def F_Script_len : FV := mkFn 1 0 t_Script_len
noncomputable abbrev tb__law_holds_0 : SV := sRet (eAnd (eIsTy "bool" (eUn (fldF "Script" "keeping") (eVar 0))) (eBin eqF (eUn (fldF "Script" "keeping") (eVar 0)) (eVar 2)))
noncomputable abbrev tb__law_holds_1 : SV := sSeq (sFor (iOf itemsA (eMeth "Script" "steps" F_Script_steps [] (eVar 0) (aNil))) (gNm 3) (sIf (tAndW (tOf (eBin eqF (eCall lenF (aCons (eVar 3) (aNil))) (eC (.int 4)))) (tNotW (tOf (eIsTy "bool" (eBin ixF (eVar 3) (eC (.int 3))))))) (sRet (eC (.bl false))) (sNext))) (tb__law_holds_0)
noncomputable abbrev tb__law_holds_2 : SV := sSeq (sIf (tOrW (tNotW (tOf (eIsTy "tuple" (eMeth "Script" "steps" F_Script_steps [] (eVar 0) (aNil))))) (tOrW (tOf (eBin neF (eMeth "Script" "steps" F_Script_steps [] (eVar 0) (aNil)) (eVar 1))) (tOf (eBin neF (eOwnLen "Script" F_Script_len (eVar 0)) (eCall lenF (aCons (eVar 1) (aNil))))))) (sRet (eC (.bl false))) (sNext)) (tb__law_holds_1)
noncomputable abbrev t__law_holds : SV := tb__law_holds_2
noncomputable def F__law_holds : FV := mkFn 3 1 t__law_holds
noncomputable def t_Schema_eq : SV := sRet (eAnd (eUn (isTF (tabOwn "Schema" ["Schema", "Script"])) (eVar 1)) (eBin eqF (eUn (fldF "Schema" "plan") (eVar 0)) (eUn (fldF "Schema" "plan") (eVar 1))))
noncomputable def F_Schema_eq : FV := mkFn 2 0 t_Schema_eq
noncomputable abbrev tb_Script_eq_0 : SV := sRet (eAnd (eOwn2 "Schema" F_Schema_eq (tyOk (nfOwn ["Schema", "Script"])) (eUn (fldF "Script" "frame") (eVar 0)) (eUn (fldF "Script" "frame") (eVar 1))) (eAnd (eBin eqF (eUn (fldF "Script" "sequence") (eVar 0)) (eUn (fldF "Script" "sequence") (eVar 1))) (eBin eqF (eUn (fldF "Script" "keeping") (eVar 0)) (eUn (fldF "Script" "keeping") (eVar 1)))))
noncomputable abbrev tb_Script_eq_1 : SV := sSeq (sIf (tNotW (tOf (eUn (isTF (tabOwn "Script" ["Schema", "Script"])) (eVar 1)))) (sRet (eC (.bl false))) (sNext)) (tb_Script_eq_0)
noncomputable abbrev t_Script_eq : SV := tb_Script_eq_1
noncomputable def F_Script_eq : FV := mkFn 2 0 t_Script_eq
noncomputable def t_Script_schema : SV := sRet (eUn (fldF "Script" "frame") (eVar 0))
noncomputable def F_Script_schema : FV := mkFn 1 0 t_Script_schema
noncomputable abbrev tb__law_right_0 : SV := sIf (tOf (eBin neF (eCallF F_script_text [] (aCons (eVar 6) (aNil))) (eVar 4))) (sRet (eC (.bl false))) (sNext)
noncomputable abbrev tb__law_right_1 : SV := sSeq (sIf (tOrW (tNotW (tOf (eCallF F__law_holds [] (aCons (eVar 6) (aCons (eVar 2) (aCons (eVar 3) (aNil))))))) (tOrW (tNotW (tOf (eOwn2 "Script" F_Script_eq (tyOk (nfOwn ["Schema", "Script"])) (eVar 6) (eVar 1)))) (tNotW (tOf (eOwn2 "Schema" F_Schema_eq (tyOk (nfOwn ["Schema", "Script"])) (eMeth "Script" "schema" F_Script_schema [] (eVar 6) (aNil)) (eVar 0)))))) (sRet (eC (.bl false))) (sNext)) (tb__law_right_0)
noncomputable abbrev tb__law_right_2 : SV := sRet (eCallF F__law_holds [] (aCons (eVar 1) (aCons (eVar 2) (aCons (eVar 3) (aNil)))))
noncomputable abbrev tb__law_right_3 : SV := sSeq (sFor (iOf itemsA (eLst (aCons (eCallF F_read_script [] (aCons (eVar 0) (aCons (eVar 5) (aNil)))) (aCons (eCallG F_read_script 0 2 [1, 0] [] (aNil) (aCons (eVar 4) (aCons (eVar 0) (aNil)))) (aNil))))) (gNm 6) (tb__law_right_1)) (tb__law_right_2)
noncomputable abbrev tb__law_right_4 : SV := sSeq (sIf (tOrW (tNotW (tOf (eIsTy "str" (eVar 5)))) (tOf (eBin neF (eVar 5) (eVar 4)))) (sRet (eC (.bl false))) (sNext)) (tb__law_right_3)
noncomputable abbrev tb__law_right_5 : SV := sSeq (sSet 5 (eCallF F_script_text [] (aCons (eVar 1) (aNil)))) (tb__law_right_4)
noncomputable abbrev tb__law_right_6 : SV := sSeq (sSet 4 (eCallF F__law_text [] (aCons (eVar 2) (aCons (eVar 3) (aNil))))) (tb__law_right_5)
noncomputable abbrev t__law_right : SV := tb__law_right_6
noncomputable def F__law_right : FV := mkFn 4 3 t__law_right
noncomputable abbrev tb_law_0 : SV := sIf (tOf (eBin eqF (eVar 8) (eC (.int 0)))) (sExpr (eLm appendF (eVar 4) (eTup (aCons (eMakeG "Script" F_Script_init 2 0 [0, 1, 2] [.bl true] (aCons (eVar 2) (aCons (eVar 6) (aNil))) (aNil)) (aCons (eVar 6) (aCons (eC (.bl true)) (aNil))))))) (sExpr (eLm appendF (eVar 4) (eTup (aCons (eMakeG "Script" F_Script_init 3 0 [0, 1, 2] [.bl true] (aCons (eMake "Schema" F_Schema_init [] (aCons (eVar 1) (aNil))) (aCons (eVar 6) (aCons (eBin eqF (eVar 8) (eC (.int 1))) (aNil)))) (aNil)) (aCons (eVar 6) (aCons (eBin eqF (eVar 8) (eC (.int 1))) (aNil)))))))
noncomputable abbrev tb_law_1 : SV := sSeq (sSet 8 (eCallF F__law_draw [] (aCons (eVar 3) (aCons (eC (.int 3)) (aNil))))) (tb_law_0)
noncomputable abbrev tb_law_2 : SV := sSeq (sSet 6 (eCall tupleF (aCons (eLc [7] (iOf itemsA (eSl (eVar 0) (oSome (eBin addF (eC (.int 2)) (eBin mulF (eC (.int 20)) (eVar 5)))) (oSome (eBin addF (eC (.int 22)) (eBin mulF (eC (.int 20)) (eVar 5)))))) (gNm 7) (tTrue) (eCallF F__law_step [] (aConsB (eCallF F__law_store [] (aCons (eVar 7) (aNil))) (aCons (eVar 1) (aNil))))) (aNil)))) (tb_law_1)
noncomputable abbrev tb_law_3 : SV := sRet (eC (.bl true))
noncomputable abbrev tb_law_4 : SV := sSeq (sFor (iOf itemsA (eVar 4)) (gTp 3 (gMore (gNm 9) (gMore (gNm 6) (gMore (gNm 10) (gNone))))) (sIf (tOf (eBin neF (eBin eqF (eCallF F_script_text [] (aCons (eVar 9) (aNil))) (eCallF F_script_text [] (aCons (eBin ixF (eBin ixF (eVar 4) (eC (.int 0))) (eC (.int 0))) (aNil)))) (eBin eqF (eTup (aCons (eVar 6) (aCons (eVar 10) (aNil)))) (eTup (aCons (eBin ixF (eBin ixF (eVar 4) (eC (.int 0))) (eC (.int 1))) (aCons (eBin ixF (eBin ixF (eVar 4) (eC (.int 0))) (eC (.int 2))) (aNil))))))) (sRet (eC (.bl false))) (sNext))) (tb_law_3)
noncomputable abbrev tb_law_5 : SV := sSeq (sFor (iOf itemsA (eBin addF (eVar 4) (eUn revF (eVar 4)))) (gTp 3 (gMore (gNm 9) (gMore (gNm 6) (gMore (gNm 10) (gNone))))) (sIf (tNotW (tOf (eCallF F__law_right [] (aCons (eVar 2) (aCons (eVar 9) (aCons (eVar 6) (aCons (eVar 10) (aNil)))))))) (sRet (eC (.bl false))) (sNext))) (tb_law_4)
noncomputable abbrev tb_law_6 : SV := sSeq (sExpr (eLm appendF (eVar 4) (eTup (aCons (eMakeG "Script" F_Script_init 3 0 [0, 1, 2] [.bl true] (aCons (eVar 2) (aCons (eBin ixF (eBin ixF (eVar 4) (eC (.int 0))) (eC (.int 1))) (aCons (eNot (eBin ixF (eBin ixF (eVar 4) (eC (.int 0))) (eC (.int 2)))) (aNil)))) (aNil)) (aCons (eBin ixF (eBin ixF (eVar 4) (eC (.int 0))) (eC (.int 1))) (aCons (eNot (eBin ixF (eBin ixF (eVar 4) (eC (.int 0))) (eC (.int 2)))) (aNil))))))) (tb_law_5)
noncomputable abbrev tb_law_7 : SV := sSeq (sFor (iRan1 (aCons (eC (.int 3)) (aNil))) (gNm 5) (tb_law_2)) (tb_law_6)
noncomputable abbrev tb_law_8 : SV := sSeq (sSetB 4 (eLst (aNil))) (tb_law_7)
noncomputable abbrev tb_law_9 : SV := sSeq (sSetB 3 (eCallF F__law_store [] (aCons (eCallF F__law_cell_at [] (aCons (eVar 0) (aCons (eC (.int 1)) (aNil)))) (aNil)))) (tb_law_8)
noncomputable abbrev tb_law_10 : SV := sSeq (sSet 2 (eMake "Schema" F_Schema_init [] (aCons (eVar 1) (aNil)))) (tb_law_9)
noncomputable abbrev tb_law_11 : SV := sSeq (sSet 1 (eCallF F__law_tables [] (aConsB (eCallF F__law_store [] (aCons (eCallF F__law_cell_at [] (aCons (eVar 0) (aCons (eC (.int 0)) (aNil)))) (aNil))) (aNil)))) (tb_law_10)
noncomputable abbrev t_law : SV := tb_law_11
noncomputable def F_law : FV := mkFn 1 10 t_law
end Wk

set_option Elab.async false
set_option linter.all false
set_option maxRecDepth 100000
set_option maxHeartbeats 2000000
/-! what words, lists of words and plans are: the plain part of the helpers -/
namespace Wk
open PySem PySem.Spec PyProof.Rows L2 Ev
open Classical
abbrev Bx := List (Bool × List D)
theorem cdiv (i : Int) (j : Int) (h : 0 < j) (h2 : j < 2 ^ 64) : CDivW i j := by
  refine ⟨h, ?_⟩
  have : j.natAbs < 2 ^ 64 := by omega
  have h3 : j.natAbs.log2 < 64 := (Nat.log2_lt (by omega)).mpr this
  omega
theorem cmul (i j : Int) (h1 : -(2 ^ 200) < i) (h2 : i < 2 ^ 200) (h3 : -(2 ^ 200) < j) (h4 : j < 2 ^ 200) : CMulW i j := by
  have key : ∀ x : Int, -(2 ^ 200) < x → x < 2 ^ 200 → x.natAbs.log2 < 200 := by
    intro x a b
    by_cases h : x.natAbs = 0
    · rw [h]; decide
    · exact (Nat.log2_lt h).mpr (by omega)
  have := key i h1 h2
  have := key j h3 h4
  unfold CMulW
  omega
def ltrs : Str := "abcdefghijklmnopqrstuvwxyz"
def one (c : Nat) : Str := ⟨#[c]⟩
structure Word (w : Str) : Prop where
  lo : 1 ≤ w.length
  hi : w.length ≤ 8
  ch : ∀ c ∈ w.cps.toList, c ∈ ltrs.cps.toList
theorem ltrs_len : ltrs.cps.toList.length = 26 := by decide +kernel
theorem join_chars : ∀ cs : List Nat, Txt.join "" (cs.map one) = ⟨cs.toArray⟩ := by
  have key : ∀ (r : List Nat) (b : Array Nat), ((r.map one).foldl (fun acc p => acc ++ ("" : Str).cps ++ p.cps) b) = b ++ r.toArray := by
    intro r
    induction r with
    | nil => intro b; simp
    | cons c r ih =>
      intro b
      rw [List.map_cons, List.foldl_cons, ih]
      have e : ("" : Str).cps = #[] := by decide +kernel
      rw [e]
      apply Array.ext'
      simp [one]
  intro cs
  cases cs with
  | nil => rfl
  | cons c r =>
    show (⟨((r.map one).foldl (fun acc p => acc ++ ("" : Str).cps ++ p.cps) #[c])⟩ : Str) = _
    rw [key]
    simp
theorem strs_one (cs : List Nat) : strsOf (cs.map fun c => D.str (one c)) = some (cs.map one) := by
  have : (cs.map fun c => D.str (one c)) = (cs.map one).map D.str := by simp
  rw [this, strsOf_map]
theorem joinF_one (cs : List Nat) (S : Sta) (h : cs.length ≤ 16777216) : joinF (.d (.str "")) (.d (.lst (cs.map fun c => D.str (one c)))) S = .ok (.d (.str ⟨cs.toArray⟩)) S := by
  have e0 : ∀ l : List Nat, ((l.map one).map (·.length)).sum = l.length := by
    intro l
    induction l with
    | nil => rfl
    | cons c r ih =>
      simp only [List.map_cons, List.sum_cons, List.length_cons, ih]
      show 1 + r.length = r.length + 1
      omega
  have e2 : ("" : Str).length = 0 := by decide +kernel
  unfold joinF
  dsimp only
  rw [rdlOf_lst]
  dsimp only
  rw [strs_one]
  dsimp only
  rw [if_pos (by rw [e0, e2]; omega), join_chars]
/-! lists of texts in a box -/
theorem flats (ws : List Str) : (ws.map D.str).all flatD = true := by
  rw [List.all_map]; exact List.all_eq_true.mpr fun _ _ => rfl
theorem okStrs (n : Nat) (ws : List Str) : okDs n (ws.map D.str) = true := okDs_iff.mpr fun x hx => by
  obtain ⟨w, _, rfl⟩ := List.mem_map.mp hx
  cases n <;> rfl
theorem inD_strs (w : Str) (ws : List Str) : inD (.str w) (ws.map D.str) = decide (w ∈ ws) := by
  unfold inD
  induction ws with
  | nil => rfl
  | cons v r ih =>
    rw [List.map_cons, List.any_cons, ih, eqD_str]
    by_cases h : v = w
    · subst h; simp
    · have : w ≠ v := fun e => h e.symm
      simp [h, this]
theorem inF_box {k : Nat} {b : Bool} {ws : List Str} {S : Sta} (h : S.B[k]? = some (b, ws.map D.str)) (w : Str) : inF (.d (.str w)) (.box k) S = .ok (.d (.bl (decide (w ∈ ws)))) S := by
  have e : inB (.d (.str w)) (.box k) S = some (decide (w ∈ ws)) := by
    show (match rdlOf (.box k) S with | some l => (if flatD (.str w) = true ∧ l.all flatD = true then some (inD (.str w) l) else none) | none => none) = _
    rw [rdlOf_box h]
    dsimp only
    rw [if_pos ⟨rfl, flats ws⟩, inD_strs]
  unfold inF
  rw [e]
theorem notInF_box {k : Nat} {b : Bool} {ws : List Str} {S : Sta} (h : S.B[k]? = some (b, ws.map D.str)) (w : Str) : notInF (.d (.str w)) (.box k) S = .ok (.d (.bl (!decide (w ∈ ws)))) S := by
  have e : inB (.d (.str w)) (.box k) S = some (decide (w ∈ ws)) := by
    show (match rdlOf (.box k) S with | some l => (if flatD (.str w) = true ∧ l.all flatD = true then some (inD (.str w) l) else none) | none => none) = _
    rw [rdlOf_box h]
    dsimp only
    rw [if_pos ⟨rfl, flats ws⟩, inD_strs]
  unfold notInF
  rw [e]
theorem neF_boxNil {k : Nat} {b : Bool} {ws : List Str} {S : Sta} (h : S.B[k]? = some (b, ws.map D.str)) : neF (.box k) (.d (.lst [])) S = .ok (.d (.bl (!ws.isEmpty))) S := by
  unfold neF
  rw [datOf_box h]
  show (if okD 60 (.lst (ws.map D.str)) = true ∧ okD 60 (.lst []) = true then _ else _) = _
  rw [if_pos ⟨okStrs 59 ws, rfl⟩]
  cases ws <;> rfl
/-! cuts of texts -/
theorem str_len (w : Str) : w.length = w.cps.toList.length := by simp [Str.length]
theorem word_of {w : Str} (h1 : 1 ≤ w.cps.toList.length) (h2 : w.cps.toList.length ≤ 8) (h3 : ∀ c ∈ w.cps.toList, c ∈ ltrs.cps.toList) : Word w := ⟨by rw [str_len]; exact h1, by rw [str_len]; exact h2, h3⟩
theorem app_list (x y : Str) : (x ++ y).cps.toList = x.cps.toList ++ y.cps.toList := by
  show (x.cps ++ y.cps).toList = _
  simp
theorem cutS_pre (z : Str) (k : Nat) (h : k ≤ z.length) : (cutS z none (some (k : Int))).cps.toList = z.cps.toList.take k := by
  unfold cutS
  rw [HT.sIx_none, HT.sIx_nat, Nat.min_eq_left h]
  simp
theorem cutS_suf (z : Str) (k : Nat) (h : k ≤ z.length) : (cutS z (some (k : Int)) none).cps.toList = z.cps.toList.drop k := by
  unfold cutS
  rw [HT.sIx_none, HT.sIx_nat, Nat.min_eq_left h]
  have : z.length - k = (z.cps.toList.drop k).length := by rw [List.length_drop, str_len]
  rw [this, List.take_length]
theorem slF_str (z : Str) (lo hi : Option Int) (S : Sta) (h : z.length ≤ sizeLine) : slF (.d (.str z)) lo hi S = .ok (.d (.str (cutS z lo hi))) S := by
  unfold slF
  dsimp only
  rw [if_pos h]
/-! a letter that is not there yet -/
theorem filter_ne_len {α : Type} [DecidableEq α] (a : α) : ∀ l : List α, l.Nodup → l.length ≤ (l.filter fun x => decide (x ≠ a)).length + 1
  | [], _ => by simp
  | x :: r, h => by
    obtain ⟨h1, h2⟩ := List.nodup_cons.mp h
    by_cases e : x = a
    · subst e
      have : (r.filter fun y => decide (y ≠ x)) = r := List.filter_eq_self.mpr fun y hy => by
        have : y ≠ x := fun z => h1 (z ▸ hy)
        simpa using this
      rw [List.filter_cons_of_neg (by simp), this]
      simp
    · have := filter_ne_len a r h2
      simp [e] at this ⊢
      omega
theorem filter_out_len {α : Type} [DecidableEq α] (l : List α) (h : l.Nodup) : ∀ ws : List α, l.length ≤ (l.filter fun x => decide (x ∉ ws)).length + ws.length
  | [] => by
    have : (l.filter fun x => decide (x ∉ ([] : List α))) = l := List.filter_eq_self.mpr fun y hy => by simp
    rw [this]; simp
  | w :: r => by
    have ih := filter_out_len l h r
    have h2 : (l.filter fun x => decide (x ∉ r)).Nodup := h.sublist List.filter_sublist
    have h3 := filter_ne_len w _ h2
    rw [List.filter_filter] at h3
    have e : (l.filter fun x => decide (x ∉ w :: r)) = l.filter fun x => (decide (x ≠ w) && decide (x ∉ r)) := by
      congr 1; funext x
      by_cases a : x = w <;> by_cases b : x ∈ r <;> simp [a, b]
    rw [e]
    simp only [List.length_cons]
    omega
def alone : List Str := ltrs.cps.toList.map one
theorem alone_nodup : alone.Nodup := by decide +kernel
theorem fresh_letter (ws : List Str) (h : ws.length < 26) : ∃ w r, (alone.filter fun x => decide (x ∉ ws)) = w :: r ∧ w ∉ ws ∧ Word w := by
  have h1 := filter_out_len alone alone_nodup ws
  have h2 : alone.length = 26 := by decide +kernel
  cases e : alone.filter fun x => decide (x ∉ ws) with
  | nil => rw [e] at h1; simp at h1; omega
  | cons w r =>
    have hm : w ∈ alone.filter fun x => decide (x ∉ ws) := by rw [e]; exact List.mem_cons_self
    obtain ⟨m1, m2⟩ := List.mem_filter.mp hm
    obtain ⟨c, hc, rfl⟩ := List.mem_map.mp m1
    exact ⟨_, r, rfl, by simpa using m2, word_of (by simp [one]) (by simp [one]) fun d hd => by
      have : d = c := by simpa [one] using hd
      rw [this]; exact hc⟩
theorem chrs_ltrs : chrs ltrs = alone.map D.str := by
  unfold chrs alone
  rw [List.map_map]; rfl
structure Ent where
  name : Str
  uq : Bool
  refs : List (Str × Str)
def rD (r : Str × Str) : D := .tup [.str r.1, .str r.2]
def eD (e : Ent) : D := .tup [.str e.name, .bl e.uq, .tup (e.refs.map rD)]
def planD (p : List Ent) : D := .tup (p.map eD)
structure EntOk (names : List Str) (mc : Int) (e : Ent) : Prop where
  w : Word e.name
  len : (e.refs.length : Int) ≤ mc
  nd : (e.refs.map (·.1)).Nodup
  col : ∀ r ∈ e.refs, Word r.1 ∧ r.2 ∈ names
structure PlanOk (most mc : Int) (p : List Ent) : Prop where
  lo : 1 ≤ p.length
  hi : (p.length : Int) ≤ most
  nd : (p.map (·.name)).Nodup
  ent : ∀ e ∈ p, EntOk (p.map (·.name)) mc e
end Wk

set_option Elab.async false
set_option linter.all false
set_option maxRecDepth 100000
set_option maxHeartbeats 2000000
/-! the draws of the laws on texts and scripts -/
namespace Wk
open PySem PySem.Spec PyProof.Rows L2 Ev
open Classical
local macro_rules
  | `(tactic| ac_rfl) => `(tactic| (first | rfl | assumption | exact rdlOf_box (by assumption) | omega | exact Nat.le_of_ble_eq_true rfl | exact cmulW _ _ (by omega) (by omega) (by omega) (by omega) | exact cmm (by omega) (by omega) (by omega) (by omega) | exact cdivW _ _ (by omega) (by omega)))
local macro_rules
  | `(tactic| and_intros) => `(tactic| repeat first
    | with_reducible refine wE_bin ?_
    | with_reducible refine wE_un ?_
    | with_reducible refine wE_isTy ?_
    | with_reducible refine wE_call ?_
    | with_reducible refine wE_callF ?_
    | with_reducible refine wE_make ?_
    | with_reducible refine wE_and ?_
    | with_reducible refine wE_or ?_
    | with_reducible refine wE_not ?_
    | with_reducible refine wE_if ?_
    | with_reducible refine wE_tup ?_
    | with_reducible refine wE_lst ?_
    | with_reducible refine wE_dic0 ?_
    | with_reducible refine wE_sl ?_
    | with_reducible refine wE_lm ?_
    | with_reducible refine wE_up ?_
    | with_reducible refine wE_oNone ?_
    | with_reducible refine wE_oSome ?_
    | with_reducible refine wA_nil ?_
    | with_reducible refine wA_cons ?_
    | with_reducible refine wA_consB ?_
    | with_reducible refine wT_of ?_
    | with_reducible refine wT_and ?_
    | with_reducible refine wT_or ?_
    | with_reducible refine wT_not ?_
    | with_reducible refine wT_true ?_
    | with_reducible refine wS_seq ?_
    | with_reducible refine wS_next ?_
    | with_reducible refine wS_brk ?_
    | with_reducible refine wS_cnt ?_
    | with_reducible refine wS_retN ?_
    | with_reducible refine wS_expr ?_
    | with_reducible refine wS_ret ?_
    | with_reducible refine wS_if ?_
    | with_reducible refine wS_set ?_
    | with_reducible refine wS_setB ?_
    | with_reducible refine wS_sub ?_
    | with_reducible refine wS_unp ?_
    | with_reducible refine wS_fld ?_
    | with_reducible refine wS_raise ?_
    | with_reducible refine inBox_new ?_
    | with_reducible refine inBox_d ?_
    | with_reducible refine inBox_box ?_
    | with_reducible refine isB_bl ?_
    | with_reducible refine br_true ?_
    | with_reducible refine br_false ?_
    | with_reducible refine wE_c ?_
    | with_reducible refine wS_for ?_
    | with_reducible refine wE_iOf ?_
    | with_reducible refine wE_iRan1 ?_
    | with_reducible refine wE_iRan2 ?_
    | with_reducible refine wE_lc ?_
    | with_reducible refine wE_lc2 ?_
    | with_reducible refine wE_join ?_
    | with_reducible refine wE_tm ?_
    | with_reducible refine wp_add_int ?_
    | with_reducible refine wp_sub ?_
    | with_reducible refine wp_neg ?_
    | with_reducible refine wp_lt ?_
    | with_reducible refine wp_le ?_
    | with_reducible refine wp_gt ?_
    | with_reducible refine wp_ge ?_
    | with_reducible refine wp_eq_int ?_
    | with_reducible refine wp_ne_int ?_
    | with_reducible refine wp_eq_str ?_
    | with_reducible refine wp_ne_str ?_
    | with_reducible refine wp_eq_bl ?_
    | with_reducible refine wp_ne_bl ?_
    | with_reducible refine wp_int ?_
    | with_reducible refine wp_int_bl ?_
    | with_reducible refine wp_len_tup ?_
    | with_reducible refine wp_tuple_tup ?_
    | with_reducible refine wp_list_tup ?_
    | with_reducible refine wp_itA_tup ?_
    | with_reducible refine wp_itA_str ?_
    | with_reducible refine wp_isN ?_
    | with_reducible refine wp_notN ?_
    | with_reducible refine wp_in_sign ?_
    | with_reducible refine wp_notIn_sign ?_
    | with_reducible refine wp_sl_tup ?_
    | with_reducible refine wp_ok ?_
    | with_reducible refine br_not ?_
    | with_reducible refine wE_callG ?_
    | with_reducible refine wE_makeG ?_
    | with_reducible refine wE_own2 ?_
    | with_reducible refine wE_enumV ?_
    | with_reducible refine wE_zipV ?_
    | with_reducible refine wp_max ?_
    | with_reducible refine wp_listT_tup ?_
    | with_reducible refine wp_listT_lst ?_
    | with_reducible refine wp_enum_tup ?_
    | ((with_reducible apply wE_var); ac_rfl)
    | ((with_reducible apply wp_mod); ac_rfl)
    | ((with_reducible apply wp_div); ac_rfl)
    | ((with_reducible apply wp_mul); ac_rfl)
    | ((with_reducible apply wp_pow); ac_rfl)
    | ((with_reducible apply wp_add_str); ac_rfl)
    | ((with_reducible apply wp_add_tup); ac_rfl)
    | ((with_reducible apply wp_add_lst); ac_rfl; ac_rfl; ac_rfl)
    | ((with_reducible apply wp_len_str); ac_rfl)
    | ((with_reducible apply wp_len); ac_rfl)
    | ((with_reducible apply wp_tuple); ac_rfl)
    | ((with_reducible apply wp_list); ac_rfl)
    | ((with_reducible apply wp_ix_tup); ac_rfl)
    | ((with_reducible apply wp_ix); ac_rfl; ac_rfl)
    | ((with_reducible apply wp_ix_str); ac_rfl; ac_rfl)
    | ((with_reducible apply wp_sl_str); ac_rfl)
    | ((with_reducible apply wp_sl); ac_rfl)
    | ((with_reducible apply wp_itA); ac_rfl)
    | ((with_reducible apply wp_itL); ac_rfl)
    | ((with_reducible apply wp_ran1); ac_rfl; ac_rfl)
    | ((with_reducible apply wp_ran2); ac_rfl; ac_rfl; ac_rfl; ac_rfl)
    | ((with_reducible apply ws_putC); ac_rfl; ac_rfl)
    | ((with_reducible apply wp_fld); ac_rfl; ac_rfl)
    | ((with_reducible apply wp_in); ac_rfl; ac_rfl; ac_rfl)
    | ((with_reducible apply wp_notIn); ac_rfl; ac_rfl; ac_rfl)
    | ((with_reducible apply wp_rev); ac_rfl)
    | ((with_reducible apply wp_listT_str); ac_rfl)
    | ((with_reducible apply wp_enum); ac_rfl)
    | (refine ⟨rfl, rfl, ?_⟩)
    | (refine ⟨_, _, rfl, rfl, ?_⟩)
    | (refine ⟨_, _, rfl, Nat.le_of_ble_eq_true rfl, ?_⟩)
    | (refine ⟨_, _, _, rfl, rfl, ?_⟩)
    | (refine ⟨_, rfl, ?_⟩)
    | (refine ⟨_, _, rfl, ?_⟩)
    | (refine ⟨boxOk_of (by assumption), ?_⟩))
/-- box b is a store; n: how many draws at most have been -/
def Sto (B : Bx) (b : Nat) (n : Int) : Prop := ∃ s m c : Int, B[b]? = some (true, [.int s, .int m, .int c]) ∧ 0 ≤ m ∧ m < 2147483629 ∧ 0 ≤ c ∧ c ≤ n
theorem Sto.up {B B' : Bx} {b n ms} (h : Sto B b n) (u : Up ms B B') (hb : b ∉ ms) : Sto B' b n := by
  obtain ⟨s, m, c, h, r⟩ := h
  exact ⟨s, m, c, by rw [u.keep b (lt_of_get h) hb]; exact h, r⟩
theorem Sto.mono {B : Bx} {b n m} (h : Sto B b n) (l : n ≤ m) : Sto B b m := by
  obtain ⟨s, m, c, h, h1, h2, h3, h4⟩ := h
  exact ⟨s, m, c, h, h1, h2, h3, by omega⟩
theorem Sto.lt {B : Bx} {b n} (h : Sto B b n) : b < B.length := by
  obtain ⟨s, m, c, h, r⟩ := h
  exact lt_of_get h
theorem Sto.ch {B B' : Bx} {b n ms} (h : Sto B b n) (u : Ch ms B B') (hb : b ∉ ms) : Sto B' b n := h.up u.up hb
theorem fin_cut {P : List Ob} {B B' : Bx} {x : D} {ms : List Nat} {Q : Vl → Sta → Prop} {X : XP} (u : Ch ms B B') (k : Q (.d x) ⟨P, B'⟩) : wp (fin B.length (.ret (.d x) ⟨P, B'⟩)) Q X := by
  refine wp_finD ?_
  rw [cutB_id (by rw [u.len]; exact Nat.le_refl _)]; exact k
theorem draw_wp {P : List Ob} {B : Bx} {b : Nat} {n many : Int} {Q : Vl → Sta → Prop} {X : XP} (h : Sto B b n) (hn : n ≤ 2 ^ 30) (hm : 0 < many) (hm2 : many < 2 ^ 30) (k : ∀ d B', 0 ≤ d → d < many → Ch [b] B B' → Sto B' b (n + 1) → Q (.d (.int d)) ⟨P, B'⟩) :
    wp (F__law_draw [.box b, .d (.int many)] ⟨P, B⟩) Q X := by
  obtain ⟨s, m, c, h, h1, h2, h3, h4⟩ := h
  unfold F__law_draw
  refine wp_fn rfl ?_
  and_intros
  refine br_dec (fun hs => ?_) (fun hs => ?_)
  · and_intros
    intro B1 u1 h5
    and_intros
    exact fin_cut u1 (k _ _ (Int.emod_nonneg _ (by omega)) (Int.emod_lt_of_pos _ hm) u1 ⟨_, _, _, h5, h1, h2, h3, by omega⟩)
  · have hc : c ≤ 2 ^ 30 := by omega
    and_intros
    intro B1 u1 h5
    and_intros
    exact fin_cut u1 (k _ _ (Int.emod_nonneg _ (by omega)) (Int.emod_lt_of_pos _ hm) u1 ⟨_, _, _, h5, h1, h2, by omega, by omega⟩)
end Wk

set_option Elab.async false
set_option linter.all false
set_option maxRecDepth 100000
set_option maxHeartbeats 2000000
/-! names that are drawn -/
namespace Wk
open PySem PySem.Spec PyProof.Rows L2 Ev
open Classical
local macro_rules
  | `(tactic| ac_rfl) => `(tactic| (first | rfl | assumption | exact rdlOf_box (by assumption) | omega | exact Nat.le_of_ble_eq_true rfl | exact cmulW _ _ (by omega) (by omega) (by omega) (by omega) | exact cmm (by omega) (by omega) (by omega) (by omega) | exact cdivW _ _ (by omega) (by omega)))
local macro_rules
  | `(tactic| and_intros) => `(tactic| repeat first
    | with_reducible refine wE_bin ?_
    | with_reducible refine wE_un ?_
    | with_reducible refine wE_isTy ?_
    | with_reducible refine wE_call ?_
    | with_reducible refine wE_callF ?_
    | with_reducible refine wE_make ?_
    | with_reducible refine wE_and ?_
    | with_reducible refine wE_or ?_
    | with_reducible refine wE_not ?_
    | with_reducible refine wE_if ?_
    | with_reducible refine wE_tup ?_
    | with_reducible refine wE_lst ?_
    | with_reducible refine wE_dic0 ?_
    | with_reducible refine wE_sl ?_
    | with_reducible refine wE_lm ?_
    | with_reducible refine wE_up ?_
    | with_reducible refine wE_oNone ?_
    | with_reducible refine wE_oSome ?_
    | with_reducible refine wA_nil ?_
    | with_reducible refine wA_cons ?_
    | with_reducible refine wA_consB ?_
    | with_reducible refine wT_of ?_
    | with_reducible refine wT_and ?_
    | with_reducible refine wT_or ?_
    | with_reducible refine wT_not ?_
    | with_reducible refine wT_true ?_
    | with_reducible refine wS_seq ?_
    | with_reducible refine wS_next ?_
    | with_reducible refine wS_brk ?_
    | with_reducible refine wS_cnt ?_
    | with_reducible refine wS_retN ?_
    | with_reducible refine wS_expr ?_
    | with_reducible refine wS_ret ?_
    | with_reducible refine wS_if ?_
    | with_reducible refine wS_set ?_
    | with_reducible refine wS_setB ?_
    | with_reducible refine wS_sub ?_
    | with_reducible refine wS_unp ?_
    | with_reducible refine wS_fld ?_
    | with_reducible refine wS_raise ?_
    | with_reducible refine inBox_new ?_
    | with_reducible refine inBox_d ?_
    | with_reducible refine inBox_box ?_
    | with_reducible refine isB_bl ?_
    | with_reducible refine br_true ?_
    | with_reducible refine br_false ?_
    | with_reducible refine wE_c ?_
    | with_reducible refine wS_for ?_
    | with_reducible refine wE_iOf ?_
    | with_reducible refine wE_iRan1 ?_
    | with_reducible refine wE_iRan2 ?_
    | with_reducible refine wE_lc ?_
    | with_reducible refine wE_lc2 ?_
    | with_reducible refine wE_join ?_
    | with_reducible refine wE_tm ?_
    | with_reducible refine wp_add_int ?_
    | with_reducible refine wp_sub ?_
    | with_reducible refine wp_neg ?_
    | with_reducible refine wp_lt ?_
    | with_reducible refine wp_le ?_
    | with_reducible refine wp_gt ?_
    | with_reducible refine wp_ge ?_
    | with_reducible refine wp_eq_int ?_
    | with_reducible refine wp_ne_int ?_
    | with_reducible refine wp_eq_str ?_
    | with_reducible refine wp_ne_str ?_
    | with_reducible refine wp_eq_bl ?_
    | with_reducible refine wp_ne_bl ?_
    | with_reducible refine wp_int ?_
    | with_reducible refine wp_int_bl ?_
    | with_reducible refine wp_len_tup ?_
    | with_reducible refine wp_tuple_tup ?_
    | with_reducible refine wp_list_tup ?_
    | with_reducible refine wp_itA_tup ?_
    | with_reducible refine wp_itA_str ?_
    | with_reducible refine wp_isN ?_
    | with_reducible refine wp_notN ?_
    | with_reducible refine wp_in_sign ?_
    | with_reducible refine wp_notIn_sign ?_
    | with_reducible refine wp_sl_tup ?_
    | with_reducible refine wp_ok ?_
    | with_reducible refine br_not ?_
    | with_reducible refine wE_callG ?_
    | with_reducible refine wE_makeG ?_
    | with_reducible refine wE_own2 ?_
    | with_reducible refine wE_enumV ?_
    | with_reducible refine wE_zipV ?_
    | with_reducible refine wp_max ?_
    | with_reducible refine wp_listT_tup ?_
    | with_reducible refine wp_listT_lst ?_
    | with_reducible refine wp_enum_tup ?_
    | ((with_reducible apply wE_var); ac_rfl)
    | ((with_reducible apply wp_mod); ac_rfl)
    | ((with_reducible apply wp_div); ac_rfl)
    | ((with_reducible apply wp_mul); ac_rfl)
    | ((with_reducible apply wp_pow); ac_rfl)
    | ((with_reducible apply wp_add_str); ac_rfl)
    | ((with_reducible apply wp_add_tup); ac_rfl)
    | ((with_reducible apply wp_add_lst); ac_rfl; ac_rfl; ac_rfl)
    | ((with_reducible apply wp_len_str); ac_rfl)
    | ((with_reducible apply wp_len); ac_rfl)
    | ((with_reducible apply wp_tuple); ac_rfl)
    | ((with_reducible apply wp_list); ac_rfl)
    | ((with_reducible apply wp_ix_tup); ac_rfl)
    | ((with_reducible apply wp_ix); ac_rfl; ac_rfl)
    | ((with_reducible apply wp_ix_str); ac_rfl; ac_rfl)
    | ((with_reducible apply wp_sl_str); ac_rfl)
    | ((with_reducible apply wp_sl); ac_rfl)
    | ((with_reducible apply wp_itA); ac_rfl)
    | ((with_reducible apply wp_itL); ac_rfl)
    | ((with_reducible apply wp_ran1); ac_rfl; ac_rfl)
    | ((with_reducible apply wp_ran2); ac_rfl; ac_rfl; ac_rfl; ac_rfl)
    | ((with_reducible apply ws_putC); ac_rfl; ac_rfl)
    | ((with_reducible apply wp_fld); ac_rfl; ac_rfl)
    | ((with_reducible apply wp_in); ac_rfl; ac_rfl; ac_rfl)
    | ((with_reducible apply wp_notIn); ac_rfl; ac_rfl; ac_rfl)
    | ((with_reducible apply wp_rev); ac_rfl)
    | ((with_reducible apply wp_listT_str); ac_rfl)
    | ((with_reducible apply wp_enum); ac_rfl)
    | (refine ⟨rfl, rfl, ?_⟩)
    | (refine ⟨_, _, rfl, rfl, ?_⟩)
    | (refine ⟨_, _, rfl, Nat.le_of_ble_eq_true rfl, ?_⟩)
    | (refine ⟨_, _, _, rfl, rfl, ?_⟩)
    | (refine ⟨_, rfl, ?_⟩)
    | (refine ⟨_, _, rfl, ?_⟩)
    | (refine ⟨boxOk_of (by assumption), ?_⟩))
theorem ltr_eq : (Str.ofString "abcdefghijklmnopqrstuvwxyz") = ltrs := rfl
abbrev sln (b j : Nat) (a3 a4 a5 a6 a7 a8 a9 : Option Vl) : Sl := [some (.box b), some (.box j), some (.d (.str ltrs)), a3, a4, a5, a6, a7, a8, a9]
theorem word_not_nil {w : Str} (h : Word w) : w ≠ "" := fun e => by
  have := h.lo
  rw [e] at this
  exact absurd this (by decide +kernel)
theorem atI_head (x : D) (r : List D) : atI (x :: r) 0 = some x := by
  unfold atI ixN
  simp
def outB (ws : List Str) : D → Bool
  | .str w => decide (w ∉ ws)
  | _ => false
theorem outB_map (ws : List Str) (l : List Str) : ((l.map D.str).filter (outB ws)).map id = (l.filter fun x => decide (x ∉ ws)).map D.str := by
  rw [List.map_id, List.filter_map]; rfl
section
variable {P : List Ob} {B : Bx} {b j : Nat} {n : Int} {ws : List Str} {a3 a4 a5 a6 a7 a8 a9 : Option Vl} {nx : Sl → Sta → Prop} {rt : Vl → Sta → Prop} {bk ct : Sl → Sta → Prop} {ex : XPS}
/-- how it ends: a name that is there already, or none, gives way to a letter -/
theorem name_end {w : Str} (hj : B[j]? = some (true, ws.map D.str)) (hl : ws.length < 26) (hw : w = "" ∨ Word w) (k : ∀ v, Word v → v ∉ ws → rt (.d (.str v)) ⟨P, B⟩) :
    wS tb__law_name_7 (sln b j a3 (some (.d (.str w))) a5 a6 a7 a8 a9) ⟨P, B⟩ nx rt bk ct ex := by
  have alt : ∀ σ, σ = sln b j a3 (some (.d (.str w))) a5 a6 a7 a8 a9 → wE (eBin ixF (eLc [7] (iOf itemsA (eCall listT (aCons (eVar 2) (aNil)))) (gNm 7) (tOf (eBin notInF (eVar 7) (eVar 1))) (eVar 7)) (eC (.int 0))) σ ⟨P, B⟩ (fun v S1 => ∃ u, v = .d (.str u) ∧ S1 = ⟨P, B⟩ ∧ Word u ∧ u ∉ ws) noX := by
    rintro σ rfl
    obtain ⟨u, r, e1, e2, e3⟩ := fresh_letter ws hl
    and_intros
    dsimp only
    rw [chrs_ltrs]
    refine wLoop_filter (p := outB ws) (f := id) (decide_eq_true rfl) (fun x hx => ?_) (by rw [List.length_map]; decide +kernel) ?_
    · obtain ⟨v, _, rfl⟩ := List.mem_map.mp hx
      refine ⟨_, rfl, ?_⟩
      and_intros
      refine wp_of (notInF_box hj v) ?_
      and_intros
      refine ⟨by simp [outB], rfl, fun _ => ?_⟩
      and_intros
      rfl
    · rw [outB_map, e1]
      and_intros
      refine wp_ix rfl (atI_head _ _) ?_
      exact ⟨u, rfl, rfl, e3, e2⟩
  have body : wS (sSet 4 (eBin ixF (eLc [7] (iOf itemsA (eCall listT (aCons (eVar 2) (aNil)))) (gNm 7) (tOf (eBin notInF (eVar 7) (eVar 1))) (eVar 7)) (eC (.int 0)))) (sln b j a3 (some (.d (.str w))) a5 a6 a7 a8 a9) ⟨P, B⟩ (fun σ S => wS tb__law_name_6 σ S nx rt bk ct ex) rt bk ct ex := by
    refine wS_set (wp_mono (alt _ rfl) ?_ fun _ _ _ h => h.elim)
    rintro v S ⟨u, rfl, rfl, h1, h2⟩
    and_intros
    exact k u h1 h2
  have last : w ≠ "" → w ∉ ws → wS sNext (sln b j a3 (some (.d (.str w))) a5 a6 a7 a8 a9) ⟨P, B⟩ (fun σ S => wS tb__law_name_6 σ S nx rt bk ct ex) rt bk ct ex := fun h1 h2 => by
    and_intros
    exact k w (hw.resolve_left h1) h2
  and_intros
  refine br_dec (fun h => ?_) (fun h => ?_)
  · exact br_true body
  · and_intros
    refine wp_of (inF_box hj w) ?_
    and_intros
    refine br_dec (fun h2 => ?_) (fun h2 => ?_)
    · exact body
    · exact last h h2
end
end Wk

set_option Elab.async false
set_option linter.all false
set_option maxRecDepth 100000
set_option maxHeartbeats 2000000
/-! names that are drawn, whole -/
namespace Wk
open PySem PySem.Spec PyProof.Rows L2 Ev
open Classical
local macro_rules
  | `(tactic| ac_rfl) => `(tactic| (first | rfl | assumption | exact rdlOf_box (by assumption) | omega | exact Nat.le_of_ble_eq_true rfl | exact cmulW _ _ (by omega) (by omega) (by omega) (by omega) | exact cmm (by omega) (by omega) (by omega) (by omega) | exact cdivW _ _ (by omega) (by omega)))
local macro_rules
  | `(tactic| and_intros) => `(tactic| repeat first
    | with_reducible refine wE_bin ?_
    | with_reducible refine wE_un ?_
    | with_reducible refine wE_isTy ?_
    | with_reducible refine wE_call ?_
    | with_reducible refine wE_callF ?_
    | with_reducible refine wE_make ?_
    | with_reducible refine wE_and ?_
    | with_reducible refine wE_or ?_
    | with_reducible refine wE_not ?_
    | with_reducible refine wE_if ?_
    | with_reducible refine wE_tup ?_
    | with_reducible refine wE_lst ?_
    | with_reducible refine wE_dic0 ?_
    | with_reducible refine wE_sl ?_
    | with_reducible refine wE_lm ?_
    | with_reducible refine wE_up ?_
    | with_reducible refine wE_oNone ?_
    | with_reducible refine wE_oSome ?_
    | with_reducible refine wA_nil ?_
    | with_reducible refine wA_cons ?_
    | with_reducible refine wA_consB ?_
    | with_reducible refine wT_of ?_
    | with_reducible refine wT_and ?_
    | with_reducible refine wT_or ?_
    | with_reducible refine wT_not ?_
    | with_reducible refine wT_true ?_
    | with_reducible refine wS_seq ?_
    | with_reducible refine wS_next ?_
    | with_reducible refine wS_brk ?_
    | with_reducible refine wS_cnt ?_
    | with_reducible refine wS_retN ?_
    | with_reducible refine wS_expr ?_
    | with_reducible refine wS_ret ?_
    | with_reducible refine wS_if ?_
    | with_reducible refine wS_set ?_
    | with_reducible refine wS_setB ?_
    | with_reducible refine wS_sub ?_
    | with_reducible refine wS_unp ?_
    | with_reducible refine wS_fld ?_
    | with_reducible refine wS_raise ?_
    | with_reducible refine inBox_new ?_
    | with_reducible refine inBox_d ?_
    | with_reducible refine inBox_box ?_
    | with_reducible refine isB_bl ?_
    | with_reducible refine br_true ?_
    | with_reducible refine br_false ?_
    | with_reducible refine wE_c ?_
    | with_reducible refine wS_for ?_
    | with_reducible refine wE_iOf ?_
    | with_reducible refine wE_iRan1 ?_
    | with_reducible refine wE_iRan2 ?_
    | with_reducible refine wE_lc ?_
    | with_reducible refine wE_lc2 ?_
    | with_reducible refine wE_join ?_
    | with_reducible refine wE_tm ?_
    | with_reducible refine wp_add_int ?_
    | with_reducible refine wp_sub ?_
    | with_reducible refine wp_neg ?_
    | with_reducible refine wp_lt ?_
    | with_reducible refine wp_le ?_
    | with_reducible refine wp_gt ?_
    | with_reducible refine wp_ge ?_
    | with_reducible refine wp_eq_int ?_
    | with_reducible refine wp_ne_int ?_
    | with_reducible refine wp_eq_str ?_
    | with_reducible refine wp_ne_str ?_
    | with_reducible refine wp_eq_bl ?_
    | with_reducible refine wp_ne_bl ?_
    | with_reducible refine wp_int ?_
    | with_reducible refine wp_int_bl ?_
    | with_reducible refine wp_len_tup ?_
    | with_reducible refine wp_tuple_tup ?_
    | with_reducible refine wp_list_tup ?_
    | with_reducible refine wp_itA_tup ?_
    | with_reducible refine wp_itA_str ?_
    | with_reducible refine wp_isN ?_
    | with_reducible refine wp_notN ?_
    | with_reducible refine wp_in_sign ?_
    | with_reducible refine wp_notIn_sign ?_
    | with_reducible refine wp_sl_tup ?_
    | with_reducible refine wp_ok ?_
    | with_reducible refine br_not ?_
    | with_reducible refine wE_callG ?_
    | with_reducible refine wE_makeG ?_
    | with_reducible refine wE_own2 ?_
    | with_reducible refine wE_enumV ?_
    | with_reducible refine wE_zipV ?_
    | with_reducible refine wp_max ?_
    | with_reducible refine wp_listT_tup ?_
    | with_reducible refine wp_listT_lst ?_
    | with_reducible refine wp_enum_tup ?_
    | ((with_reducible apply wE_var); ac_rfl)
    | ((with_reducible apply wp_mod); ac_rfl)
    | ((with_reducible apply wp_div); ac_rfl)
    | ((with_reducible apply wp_mul); ac_rfl)
    | ((with_reducible apply wp_pow); ac_rfl)
    | ((with_reducible apply wp_add_str); ac_rfl)
    | ((with_reducible apply wp_add_tup); ac_rfl)
    | ((with_reducible apply wp_add_lst); ac_rfl; ac_rfl; ac_rfl)
    | ((with_reducible apply wp_len_str); ac_rfl)
    | ((with_reducible apply wp_len); ac_rfl)
    | ((with_reducible apply wp_tuple); ac_rfl)
    | ((with_reducible apply wp_list); ac_rfl)
    | ((with_reducible apply wp_ix_tup); ac_rfl)
    | ((with_reducible apply wp_ix); ac_rfl; ac_rfl)
    | ((with_reducible apply wp_ix_str); ac_rfl; ac_rfl)
    | ((with_reducible apply wp_sl_str); ac_rfl)
    | ((with_reducible apply wp_sl); ac_rfl)
    | ((with_reducible apply wp_itA); ac_rfl)
    | ((with_reducible apply wp_itL); ac_rfl)
    | ((with_reducible apply wp_ran1); ac_rfl; ac_rfl)
    | ((with_reducible apply wp_ran2); ac_rfl; ac_rfl; ac_rfl; ac_rfl)
    | ((with_reducible apply ws_putC); ac_rfl; ac_rfl)
    | ((with_reducible apply wp_fld); ac_rfl; ac_rfl)
    | ((with_reducible apply wp_in); ac_rfl; ac_rfl; ac_rfl)
    | ((with_reducible apply wp_notIn); ac_rfl; ac_rfl; ac_rfl)
    | ((with_reducible apply wp_rev); ac_rfl)
    | ((with_reducible apply wp_listT_str); ac_rfl)
    | ((with_reducible apply wp_enum); ac_rfl)
    | (refine ⟨rfl, rfl, ?_⟩)
    | (refine ⟨_, _, rfl, rfl, ?_⟩)
    | (refine ⟨_, _, rfl, Nat.le_of_ble_eq_true rfl, ?_⟩)
    | (refine ⟨_, _, _, rfl, rfl, ?_⟩)
    | (refine ⟨_, rfl, ?_⟩)
    | (refine ⟨_, _, rfl, ?_⟩)
    | (refine ⟨boxOk_of (by assumption), ?_⟩))
section
variable {P : List Ob} {B : Bx} {b j : Nat} {n : Int} {ws : List Str} {a3 a4 a5 a6 a7 a8 a9 : Option Vl} {nx : Sl → Sta → Prop} {rt : Vl → Sta → Prop} {bk ct : Sl → Sta → Prop} {ex : XPS} {Q : Vl → Sta → Prop} {X : XP}
theorem letter_at (d : Int) (h0 : 0 ≤ d) (h1 : d < 26) : ∃ c, atI ltrs.cps.toList d = some c ∧ c ∈ ltrs.cps.toList := atI_of ltrs.cps.toList d h0 (by rw [ltrs_len]; exact h1)
theorem ltrs_size : ltrs.length ≤ sizeLine := by decide +kernel
/-- a word of drawn letters -/
theorem name_free (hs : Sto B b n) (hn : n ≤ 2 ^ 29) (k : ∀ w B', Word w → Ch [b] B B' → Sto B' b (n + 9) → Q (.d (.str w)) ⟨P, B'⟩) :
    wE (eJoin (eC (.str "")) (eLc [5] (iRan1 (aCons (eBin addF (eC (.int 1)) (eCallF F__law_draw [] (aCons (eVar 0) (aCons (eC (.int 8)) (aNil))))) (aNil))) (gNm 5) (tTrue) (eBin ixF (eVar 2) (eCallF F__law_draw [] (aCons (eVar 0) (aCons (eC (.int 26)) (aNil))))))) (sln b j a3 a4 a5 a6 a7 a8 a9) ⟨P, B⟩ Q X := by
  and_intros
  refine draw_wp hs (by omega) (by omega) (by omega) fun d B1 h0 h1 u1 s1 => ?_
  and_intros
  refine wLoop_inv (fun r acc S => ∃ B' cs, S = ⟨P, B'⟩ ∧ Ch [b] B B' ∧ Sto B' b (n + 1 + (cs.length : Nat)) ∧ acc = cs.map (fun c => D.str (one c)) ∧ (∀ c ∈ cs, c ∈ ltrs.cps.toList) ∧ (cs.length : Int) + (r.length : Nat) = 1 + d) ⟨B1, [], rfl, u1, by simpa using s1, rfl, by simp, by simp; omega⟩ (fun _ _ _ _ => rfl) ?_ ?_
  · rintro x r acc S ⟨B2, cs, rfl, u2, s2, rfl, cc, hl⟩
    have hl' : (cs.length : Int) + ((r.length : Nat) + 1) = 1 + d := by simpa using hl
    refine ⟨_, rfl, wp_elt ?_⟩
    and_intros
    refine draw_wp s2 (by omega) (by omega) (by omega) fun e B3 e0 e1 u3 s3 => ?_
    obtain ⟨c, c1, c2⟩ := letter_at e e0 e1
    and_intros
    refine ⟨by rw [List.length_map]; unfold sizeLine; omega, B3, cs ++ [c], rfl, u2.trans u3, ?_, by simp [one], ?_, by simp; omega⟩
    · have e : n + 1 + (cs.length : Int) + 1 = n + 1 + ((cs ++ [c]).length : Nat) := by simp; omega
      rw [← e]; exact s3
    · intro z hz
      rcases List.mem_append.mp hz with hz | hz
      · exact cc z hz
      · rw [List.mem_singleton.mp hz]; exact c2
  · rintro acc S ⟨B2, cs, rfl, u2, s2, rfl, cc, hl⟩
    have hl' : (cs.length : Int) = 1 + d := by simpa using hl
    refine wp_of (joinF_one cs ⟨P, B2⟩ (by omega)) ?_
    exact k _ _ ⟨by show 1 ≤ cs.toArray.size; simp; omega, by show cs.toArray.size ≤ 8; simp; omega, by simpa using cc⟩ u2 (s2.mono (by omega))
end
end Wk

set_option Elab.async false
set_option linter.all false
set_option maxRecDepth 100000
set_option maxHeartbeats 2000000
/-! names near the last one; names, whole -/
namespace Wk
open PySem PySem.Spec PyProof.Rows L2 Ev
open Classical
local macro_rules
  | `(tactic| ac_rfl) => `(tactic| (first | rfl | assumption | exact rdlOf_box (by assumption) | omega | exact Nat.le_of_ble_eq_true rfl | exact cmulW _ _ (by omega) (by omega) (by omega) (by omega) | exact cmm (by omega) (by omega) (by omega) (by omega) | exact cdivW _ _ (by omega) (by omega)))
local macro_rules
  | `(tactic| and_intros) => `(tactic| repeat first
    | with_reducible refine wE_bin ?_
    | with_reducible refine wE_un ?_
    | with_reducible refine wE_isTy ?_
    | with_reducible refine wE_call ?_
    | with_reducible refine wE_callF ?_
    | with_reducible refine wE_make ?_
    | with_reducible refine wE_and ?_
    | with_reducible refine wE_or ?_
    | with_reducible refine wE_not ?_
    | with_reducible refine wE_if ?_
    | with_reducible refine wE_tup ?_
    | with_reducible refine wE_lst ?_
    | with_reducible refine wE_dic0 ?_
    | with_reducible refine wE_sl ?_
    | with_reducible refine wE_lm ?_
    | with_reducible refine wE_up ?_
    | with_reducible refine wE_oNone ?_
    | with_reducible refine wE_oSome ?_
    | with_reducible refine wA_nil ?_
    | with_reducible refine wA_cons ?_
    | with_reducible refine wA_consB ?_
    | with_reducible refine wT_of ?_
    | with_reducible refine wT_and ?_
    | with_reducible refine wT_or ?_
    | with_reducible refine wT_not ?_
    | with_reducible refine wT_true ?_
    | with_reducible refine wS_seq ?_
    | with_reducible refine wS_next ?_
    | with_reducible refine wS_brk ?_
    | with_reducible refine wS_cnt ?_
    | with_reducible refine wS_retN ?_
    | with_reducible refine wS_expr ?_
    | with_reducible refine wS_ret ?_
    | with_reducible refine wS_if ?_
    | with_reducible refine wS_set ?_
    | with_reducible refine wS_setB ?_
    | with_reducible refine wS_sub ?_
    | with_reducible refine wS_unp ?_
    | with_reducible refine wS_fld ?_
    | with_reducible refine wS_raise ?_
    | with_reducible refine inBox_new ?_
    | with_reducible refine inBox_d ?_
    | with_reducible refine inBox_box ?_
    | with_reducible refine isB_bl ?_
    | with_reducible refine br_true ?_
    | with_reducible refine br_false ?_
    | with_reducible refine wE_c ?_
    | with_reducible refine wS_for ?_
    | with_reducible refine wE_iOf ?_
    | with_reducible refine wE_iRan1 ?_
    | with_reducible refine wE_iRan2 ?_
    | with_reducible refine wE_lc ?_
    | with_reducible refine wE_lc2 ?_
    | with_reducible refine wE_join ?_
    | with_reducible refine wE_tm ?_
    | with_reducible refine wp_add_int ?_
    | with_reducible refine wp_sub ?_
    | with_reducible refine wp_neg ?_
    | with_reducible refine wp_lt ?_
    | with_reducible refine wp_le ?_
    | with_reducible refine wp_gt ?_
    | with_reducible refine wp_ge ?_
    | with_reducible refine wp_eq_int ?_
    | with_reducible refine wp_ne_int ?_
    | with_reducible refine wp_eq_str ?_
    | with_reducible refine wp_ne_str ?_
    | with_reducible refine wp_eq_bl ?_
    | with_reducible refine wp_ne_bl ?_
    | with_reducible refine wp_int ?_
    | with_reducible refine wp_int_bl ?_
    | with_reducible refine wp_len_tup ?_
    | with_reducible refine wp_tuple_tup ?_
    | with_reducible refine wp_list_tup ?_
    | with_reducible refine wp_itA_tup ?_
    | with_reducible refine wp_itA_str ?_
    | with_reducible refine wp_isN ?_
    | with_reducible refine wp_notN ?_
    | with_reducible refine wp_in_sign ?_
    | with_reducible refine wp_notIn_sign ?_
    | with_reducible refine wp_sl_tup ?_
    | with_reducible refine wp_ok ?_
    | with_reducible refine br_not ?_
    | with_reducible refine wE_callG ?_
    | with_reducible refine wE_makeG ?_
    | with_reducible refine wE_own2 ?_
    | with_reducible refine wE_enumV ?_
    | with_reducible refine wE_zipV ?_
    | with_reducible refine wp_max ?_
    | with_reducible refine wp_listT_tup ?_
    | with_reducible refine wp_listT_lst ?_
    | with_reducible refine wp_enum_tup ?_
    | ((with_reducible apply wE_var); ac_rfl)
    | ((with_reducible apply wp_mod); ac_rfl)
    | ((with_reducible apply wp_div); ac_rfl)
    | ((with_reducible apply wp_mul); ac_rfl)
    | ((with_reducible apply wp_pow); ac_rfl)
    | ((with_reducible apply wp_add_str); ac_rfl)
    | ((with_reducible apply wp_add_tup); ac_rfl)
    | ((with_reducible apply wp_add_lst); ac_rfl; ac_rfl; ac_rfl)
    | ((with_reducible apply wp_len_str); ac_rfl)
    | ((with_reducible apply wp_len); ac_rfl)
    | ((with_reducible apply wp_tuple); ac_rfl)
    | ((with_reducible apply wp_list); ac_rfl)
    | ((with_reducible apply wp_ix_tup); ac_rfl)
    | ((with_reducible apply wp_ix); ac_rfl; ac_rfl)
    | ((with_reducible apply wp_ix_str); ac_rfl; ac_rfl)
    | ((with_reducible apply wp_sl_str); ac_rfl)
    | ((with_reducible apply wp_sl); ac_rfl)
    | ((with_reducible apply wp_itA); ac_rfl)
    | ((with_reducible apply wp_itL); ac_rfl)
    | ((with_reducible apply wp_ran1); ac_rfl; ac_rfl)
    | ((with_reducible apply wp_ran2); ac_rfl; ac_rfl; ac_rfl; ac_rfl)
    | ((with_reducible apply ws_putC); ac_rfl; ac_rfl)
    | ((with_reducible apply wp_fld); ac_rfl; ac_rfl)
    | ((with_reducible apply wp_in); ac_rfl; ac_rfl; ac_rfl)
    | ((with_reducible apply wp_notIn); ac_rfl; ac_rfl; ac_rfl)
    | ((with_reducible apply wp_rev); ac_rfl)
    | ((with_reducible apply wp_listT_str); ac_rfl)
    | ((with_reducible apply wp_enum); ac_rfl)
    | (refine ⟨rfl, rfl, ?_⟩)
    | (refine ⟨_, _, rfl, rfl, ?_⟩)
    | (refine ⟨_, _, rfl, Nat.le_of_ble_eq_true rfl, ?_⟩)
    | (refine ⟨_, _, _, rfl, rfl, ?_⟩)
    | (refine ⟨_, rfl, ?_⟩)
    | (refine ⟨_, _, rfl, ?_⟩)
    | (refine ⟨boxOk_of (by assumption), ?_⟩))
def Ltr (x : Str) : Prop := ∀ c ∈ x.cps.toList, c ∈ ltrs.cps.toList
theorem Ltr.app {x y : Str} (h : Ltr x) (k : Ltr y) : Ltr (x ++ y) := fun c hc => by
  rw [app_list] at hc
  rcases List.mem_append.mp hc with hc | hc
  · exact h c hc
  · exact k c hc
theorem cutS_top (z : Str) (k : Nat) : (cutS z none (some (k : Int))).cps.toList = z.cps.toList.take k := by
  unfold cutS
  rw [HT.sIx_none, HT.sIx_nat]
  simp [str_len, List.take_take]
theorem Ltr.top {z : Str} (h : Ltr z) (k : Nat) : Ltr (cutS z none (some (k : Int))) := fun c hc => by
  rw [cutS_top] at hc
  exact h c (List.mem_of_mem_take hc)
theorem Ltr.suf {z : Str} (h : Ltr z) (k : Nat) (hk : k ≤ z.length) : Ltr (cutS z (some (k : Int)) none) := fun c hc => by
  rw [cutS_suf z k hk] at hc
  exact h c (List.mem_of_mem_drop hc)
theorem Ltr.word {z : Str} (h : Ltr z) (hl : z.length ≤ 8) : z = "" ∨ Word z := by
  by_cases e : z.length = 0
  · left
    have e1 : z.cps = #[] := by
      have : z.cps.size = 0 := e
      exact Array.eq_empty_of_size_eq_zero this
    have e2 : ("" : Str).cps = #[] := by decide +kernel
    cases z with
    | mk cps =>
      have e3 : (Str.ofString "") = ⟨(Str.ofString "").cps⟩ := rfl
      show (⟨cps⟩ : Str) = Str.ofString ""
      have e1' : cps = #[] := e1
      have e2' : (Str.ofString "").cps = #[] := e2
      rw [e3, e1', e2']
  · exact .inr ⟨by omega, hl, h⟩
theorem ltr_one {c : Nat} (h : c ∈ ltrs.cps.toList) : Ltr ⟨#[c]⟩ := fun d hd => by
  have : d = c := by simpa using hd
  rw [this]; exact h
theorem ltr_nil : Ltr "" := fun c hc => by
  have e2 : ("" : Str).cps.toList = [] := by decide +kernel
  rw [e2] at hc; cases hc
section
variable {P : List Ob} {B : Bx} {b j : Nat} {n : Int} {ws : List Str} {a3 a4 a5 a6 a7 a8 a9 : Option Vl} {nx : Sl → Sta → Prop} {rt : Vl → Sta → Prop} {bk ct : Sl → Sta → Prop} {ex : XPS} {Q : Vl → Sta → Prop} {X : XP}
theorem near_end {style d : Int} {z mid : Str} (hj : B[j]? = some (true, ws.map D.str)) (hz : atI (ws.map D.str) (-1) = some (.str z)) (Wz : Word z) (h0 : 0 ≤ d) (h1 : d < z.length) (hm : Ltr mid) (hm2 : mid.length ≤ 2)
    (k : ∀ w : Str, (w = "" ∨ Word w) → nx (sln b j (some (.d (.int style))) (some (.d (.str w))) a5 (some (.d (.int d))) a7 (some (.d (.str mid))) a9) ⟨P, B⟩) :
    wS tb__law_name_0 (sln b j (some (.d (.int style))) a4 a5 (some (.d (.int d))) a7 (some (.d (.str mid))) a9) ⟨P, B⟩ nx rt bk ct ex := by
  obtain ⟨q, rfl⟩ := Int.eq_ofNat_of_zero_le h0
  have zl : z.length ≤ sizeLine := by have := Wz.hi; unfold sizeLine; omega
  have l1 : (cutS z none (some (q : Int))).length ≤ 8 := by
    rw [str_len, cutS_top, List.length_take, ← str_len]; have := Wz.hi; omega
  have e8 : ((q : Int) + 1) = ((q + 1 : Nat) : Int) := by omega
  have l2 : (cutS z (some ((q : Int) + 1)) none).length ≤ 8 := by
    rw [e8, str_len, cutS_suf z _ (by omega), List.length_drop, ← str_len]; have := Wz.hi; omega
  have L1 : Ltr (cutS z none (some (q : Int))) := Ltr.top Wz.ch q
  have L2 : Ltr (cutS z (some ((q : Int) + 1)) none) := by rw [e8]; exact Ltr.suf Wz.ch _ (by omega)
  have sm : (cutS z none (some (q : Int))).length + mid.length ≤ sizeLine := by unfold sizeLine; omega
  have la : ∀ x y : Str, (x ++ y).length = x.length + y.length := fun x y => by rw [str_len, app_list, List.length_append, ← str_len, ← str_len]
  have sm2 : ((cutS z none (some (q : Int))) ++ mid).length + (cutS z (some ((q : Int) + 1)) none).length ≤ sizeLine := by rw [la]; unfold sizeLine; omega
  have sm3 : ((cutS z none (some (q : Int))) ++ mid ++ (cutS z (some ((q : Int) + 1)) none)).length ≤ sizeLine := by rw [la]; exact sm2
  and_intros
  refine k _ (Ltr.word (Ltr.top ((L1.app hm).app L2) 8) ?_)
  rw [str_len]
  show (cutS _ none (some ((8 : Nat) : Int))).cps.toList.length ≤ 8
  rw [cutS_top, List.length_take]; omega
theorem near_wp {style : Int} {z : Str} (hs : Sto B b n) (hn : n ≤ 2 ^ 29) (hbj : j ≠ b) (h2 : 2 ≤ style) (h5 : style < 5) (hj : B[j]? = some (true, ws.map D.str)) (hz : atI (ws.map D.str) (-1) = some (.str z)) (Wz : Word z)
    (k : ∀ (w : Str) (B' : Bx) (c6 c7 c8 : Option Vl), (w = "" ∨ Word w) → Ch [b] B B' → Sto B' b (n + 2) → nx (sln b j (some (.d (.int style))) (some (.d (.str w))) a5 c6 c7 c8 a9) ⟨P, B'⟩) :
    wS tb__law_name_3 (sln b j (some (.d (.int style))) a4 a5 a6 a7 a8 a9) ⟨P, B⟩ nx rt bk ct ex := by
  have zl : z.length ≤ sizeLine := by have := Wz.hi; unfold sizeLine; omega
  have lo := Wz.lo
  have hi := Wz.hi
  and_intros
  refine draw_wp hs (by omega) (by omega) (by omega) fun d B1 d0 d1 u1 s1 => ?_
  have hj1 : B1[j]? = some (true, ws.map D.str) := by rw [u1.keep j (by simpa using hbj)]; exact hj
  and_intros
  refine draw_wp s1 (by omega) (by omega) (by omega) fun e B2 e0 e1 u2 s2 => ?_
  have hj2 : B2[j]? = some (true, ws.map D.str) := by rw [u2.keep j (by simpa using hbj)]; exact hj1
  obtain ⟨c, c1, c2⟩ := letter_at e e0 e1
  obtain ⟨c', c3, c4⟩ := atI_of z.cps.toList d d0 (by rw [← str_len]; exact d1)
  have lz := ltrs_size
  have s2' : Sto B2 b (n + 2) := s2.mono (by omega)
  and_intros
  have fin : ∀ mid, Ltr mid → mid.length ≤ 2 → wS tb__law_name_0 (sln b j (some (.d (.int style))) a4 a5 (some (.d (.int d))) (some (.d (.str ⟨#[c]⟩))) (some (.d (.str mid))) a9) ⟨P, B2⟩ nx rt bk ct ex := fun mid hm hm2 =>
    near_end hj2 hz Wz d0 d1 hm hm2 fun w hw => k w B2 _ _ _ hw (u1.trans u2) s2'
  rcases (by omega : style = 2 ∨ style = 3 ∨ style = 4) with rfl | rfl | rfl
  · exact wp_ix rfl rfl (fin _ (ltr_one c2) (Nat.le_of_ble_eq_true rfl))
  · exact wp_ix rfl rfl (fin _ ((ltr_one c2).app (ltr_one (Wz.ch c' c4))) (Nat.le_of_ble_eq_true rfl))
  · exact wp_ix rfl rfl (fin _ ltr_nil (by decide +kernel))
end
end Wk

set_option Elab.async false
set_option linter.all false
set_option maxRecDepth 100000
set_option maxHeartbeats 2000000
/-! names, whole -/
namespace Wk
open PySem PySem.Spec PyProof.Rows L2 Ev
open Classical
local macro_rules
  | `(tactic| ac_rfl) => `(tactic| (first | rfl | assumption | exact rdlOf_box (by assumption) | omega | exact Nat.le_of_ble_eq_true rfl | exact cmulW _ _ (by omega) (by omega) (by omega) (by omega) | exact cmm (by omega) (by omega) (by omega) (by omega) | exact cdivW _ _ (by omega) (by omega)))
local macro_rules
  | `(tactic| and_intros) => `(tactic| repeat first
    | with_reducible refine wE_bin ?_
    | with_reducible refine wE_un ?_
    | with_reducible refine wE_isTy ?_
    | with_reducible refine wE_call ?_
    | with_reducible refine wE_callF ?_
    | with_reducible refine wE_make ?_
    | with_reducible refine wE_and ?_
    | with_reducible refine wE_or ?_
    | with_reducible refine wE_not ?_
    | with_reducible refine wE_if ?_
    | with_reducible refine wE_tup ?_
    | with_reducible refine wE_lst ?_
    | with_reducible refine wE_dic0 ?_
    | with_reducible refine wE_sl ?_
    | with_reducible refine wE_lm ?_
    | with_reducible refine wE_up ?_
    | with_reducible refine wE_oNone ?_
    | with_reducible refine wE_oSome ?_
    | with_reducible refine wA_nil ?_
    | with_reducible refine wA_cons ?_
    | with_reducible refine wA_consB ?_
    | with_reducible refine wT_of ?_
    | with_reducible refine wT_and ?_
    | with_reducible refine wT_or ?_
    | with_reducible refine wT_not ?_
    | with_reducible refine wT_true ?_
    | with_reducible refine wS_seq ?_
    | with_reducible refine wS_next ?_
    | with_reducible refine wS_brk ?_
    | with_reducible refine wS_cnt ?_
    | with_reducible refine wS_retN ?_
    | with_reducible refine wS_expr ?_
    | with_reducible refine wS_ret ?_
    | with_reducible refine wS_if ?_
    | with_reducible refine wS_set ?_
    | with_reducible refine wS_setB ?_
    | with_reducible refine wS_sub ?_
    | with_reducible refine wS_unp ?_
    | with_reducible refine wS_fld ?_
    | with_reducible refine wS_raise ?_
    | with_reducible refine inBox_new ?_
    | with_reducible refine inBox_d ?_
    | with_reducible refine inBox_box ?_
    | with_reducible refine isB_bl ?_
    | with_reducible refine br_true ?_
    | with_reducible refine br_false ?_
    | with_reducible refine wE_c ?_
    | with_reducible refine wS_for ?_
    | with_reducible refine wE_iOf ?_
    | with_reducible refine wE_iRan1 ?_
    | with_reducible refine wE_iRan2 ?_
    | with_reducible refine wE_lc ?_
    | with_reducible refine wE_lc2 ?_
    | with_reducible refine wE_join ?_
    | with_reducible refine wE_tm ?_
    | with_reducible refine wp_add_int ?_
    | with_reducible refine wp_sub ?_
    | with_reducible refine wp_neg ?_
    | with_reducible refine wp_lt ?_
    | with_reducible refine wp_le ?_
    | with_reducible refine wp_gt ?_
    | with_reducible refine wp_ge ?_
    | with_reducible refine wp_eq_int ?_
    | with_reducible refine wp_ne_int ?_
    | with_reducible refine wp_eq_str ?_
    | with_reducible refine wp_ne_str ?_
    | with_reducible refine wp_eq_bl ?_
    | with_reducible refine wp_ne_bl ?_
    | with_reducible refine wp_int ?_
    | with_reducible refine wp_int_bl ?_
    | with_reducible refine wp_len_tup ?_
    | with_reducible refine wp_tuple_tup ?_
    | with_reducible refine wp_list_tup ?_
    | with_reducible refine wp_itA_tup ?_
    | with_reducible refine wp_itA_str ?_
    | with_reducible refine wp_isN ?_
    | with_reducible refine wp_notN ?_
    | with_reducible refine wp_in_sign ?_
    | with_reducible refine wp_notIn_sign ?_
    | with_reducible refine wp_sl_tup ?_
    | with_reducible refine wp_ok ?_
    | with_reducible refine br_not ?_
    | with_reducible refine wE_callG ?_
    | with_reducible refine wE_makeG ?_
    | with_reducible refine wE_own2 ?_
    | with_reducible refine wE_enumV ?_
    | with_reducible refine wE_zipV ?_
    | with_reducible refine wp_max ?_
    | with_reducible refine wp_listT_tup ?_
    | with_reducible refine wp_listT_lst ?_
    | with_reducible refine wp_enum_tup ?_
    | ((with_reducible apply wE_var); ac_rfl)
    | ((with_reducible apply wp_mod); ac_rfl)
    | ((with_reducible apply wp_div); ac_rfl)
    | ((with_reducible apply wp_mul); ac_rfl)
    | ((with_reducible apply wp_pow); ac_rfl)
    | ((with_reducible apply wp_add_str); ac_rfl)
    | ((with_reducible apply wp_add_tup); ac_rfl)
    | ((with_reducible apply wp_add_lst); ac_rfl; ac_rfl; ac_rfl)
    | ((with_reducible apply wp_len_str); ac_rfl)
    | ((with_reducible apply wp_len); ac_rfl)
    | ((with_reducible apply wp_tuple); ac_rfl)
    | ((with_reducible apply wp_list); ac_rfl)
    | ((with_reducible apply wp_ix_tup); ac_rfl)
    | ((with_reducible apply wp_ix); ac_rfl; ac_rfl)
    | ((with_reducible apply wp_ix_str); ac_rfl; ac_rfl)
    | ((with_reducible apply wp_sl_str); ac_rfl)
    | ((with_reducible apply wp_sl); ac_rfl)
    | ((with_reducible apply wp_itA); ac_rfl)
    | ((with_reducible apply wp_itL); ac_rfl)
    | ((with_reducible apply wp_ran1); ac_rfl; ac_rfl)
    | ((with_reducible apply wp_ran2); ac_rfl; ac_rfl; ac_rfl; ac_rfl)
    | ((with_reducible apply ws_putC); ac_rfl; ac_rfl)
    | ((with_reducible apply wp_fld); ac_rfl; ac_rfl)
    | ((with_reducible apply wp_in); ac_rfl; ac_rfl; ac_rfl)
    | ((with_reducible apply wp_notIn); ac_rfl; ac_rfl; ac_rfl)
    | ((with_reducible apply wp_rev); ac_rfl)
    | ((with_reducible apply wp_listT_str); ac_rfl)
    | ((with_reducible apply wp_enum); ac_rfl)
    | (refine ⟨rfl, rfl, ?_⟩)
    | (refine ⟨_, _, rfl, rfl, ?_⟩)
    | (refine ⟨_, _, rfl, Nat.le_of_ble_eq_true rfl, ?_⟩)
    | (refine ⟨_, _, _, rfl, rfl, ?_⟩)
    | (refine ⟨_, rfl, ?_⟩)
    | (refine ⟨_, _, rfl, ?_⟩)
    | (refine ⟨boxOk_of (by assumption), ?_⟩))
def fixedW : List Str := ["load", "raw", "blank", "refuse", "match", "patch", "fill", "sweep", "kept", "lost", "any", "unique", "empty"]
def wordB (w : Str) : Bool := decide (1 ≤ w.length) && decide (w.length ≤ 8) && w.cps.toList.all fun c => decide (c ∈ ltrs.cps.toList)
theorem word_B {w : Str} (h : wordB w = true) : Word w := by
  unfold wordB at h
  simp only [Bool.and_eq_true, decide_eq_true_eq, List.all_eq_true] at h
  exact ⟨h.1.1, h.1.2, h.2⟩
theorem fixed_ok : ∀ w ∈ fixedW, Word w := fun w hw => word_B (by
  have h : fixedW.all wordB = true := by decide +kernel
  exact List.all_eq_true.mp h w hw)
section
variable {P : List Ob} {B : Bx} {b j : Nat} {n : Int} {ws : List Str} {a3 a4 a5 a6 a7 a8 a9 : Option Vl} {nx : Sl → Sta → Prop} {rt : Vl → Sta → Prop} {bk ct : Sl → Sta → Prop} {ex : XPS} {Q : Vl → Sta → Prop} {X : XP}
theorem name_wp (hs : Sto B b n) (hn : n ≤ 2 ^ 28) (hbj : j ≠ b) (hj : B[j]? = some (true, ws.map D.str)) (hl : ws.length < 26) (ww : ∀ w ∈ ws, Word w) (k : ∀ (w : Str) (B' : Bx), Word w → w ∉ ws → Ch [b] B B' → Sto B' b (n + 12) → Q (.d (.str w)) ⟨P, B'⟩) :
    wp (F__law_name [.box b, .box j] ⟨P, B⟩) Q X := by
  unfold F__law_name
  refine wp_fn rfl ?_
  and_intros
  refine draw_wp hs (by omega) (by omega) (by omega) fun style B1 d0 d1 u1 s1 => ?_
  have hj1 : B1[j]? = some (true, ws.map D.str) := by rw [u1.keep j (by simpa using hbj)]; exact hj
  have last : ∀ (w : Str) (B2 : Bx) (b5 b6 b7 b8 b9 : Option Vl), (w = "" ∨ Word w) → Ch [b] B1 B2 → Sto B2 b (n + 12) →
      wS tb__law_name_7 (sln b j (some (.d (.int style))) (some (.d (.str w))) b5 b6 b7 b8 b9) ⟨P, B2⟩ (fun _ S1 => Q (.d .non) (cutB B.length S1)) (fun v S1 => wp (fin B.length (.ret v S1)) Q X) (fun _ _ => False) (fun _ _ => False) (fun c fs _ S1 => X c fs (cutB B.length S1)) := fun w B2 b5 b6 b7 b8 b9 hw u2 s2 => by
    have hj2 : B2[j]? = some (true, ws.map D.str) := by rw [u2.keep j (by simpa using hbj)]; exact hj1
    exact name_end hj2 hl hw fun v W nin => fin_cut (u1.trans u2) (k v B2 W nin (u1.trans u2) s2)
  and_intros
  have free : ∀ (nx : Sl → Sta → Prop), (∀ (w : Str) (B2 : Bx), Word w → Ch [b] B1 B2 → Sto B2 b (n + 12) → nx (sln b j (some (.d (.int style))) (some (.d (.str w))) none none none none none) ⟨P, B2⟩) →
      wS (sSet 4 (eJoin (eC (.str "")) (eLc [5] (iRan1 (aCons (eBin addF (eC (.int 1)) (eCallF F__law_draw [] (aCons (eVar 0) (aCons (eC (.int 8)) (aNil))))) (aNil))) (gNm 5) (tTrue) (eBin ixF (eVar 2) (eCallF F__law_draw [] (aCons (eVar 0) (aCons (eC (.int 26)) (aNil)))))))) (sln b j (some (.d (.int style))) (some (.d (.str ""))) none none none none none) ⟨P, B1⟩ nx (fun v S1 => wp (fin B.length (.ret v S1)) Q X) (fun _ _ => False) (fun _ _ => False) (fun c fs _ S1 => X c fs (cutB B.length S1)) := fun nx hk =>
    wS_set (name_free s1 (by omega) fun w B2 W u2 s2 => hk w B2 W u2 (s2.mono (by omega)))
  refine br_dec (fun h => ?_) (fun h => ?_)
  · exact br_true (free _ fun w B2 W u2 s2 => last w B2 _ _ _ _ _ (.inr W) u2 s2)
  · and_intros
    refine wp_eq_d (datOf_box hj1) rfl (okStrs 59 ws) rfl ?_
    and_intros
    refine br_any (fun e => ?_) (fun e => ?_)
    · exact free _ fun w B2 W u2 s2 => last w B2 _ _ _ _ _ (.inr W) u2 s2
    · have wne : ws ≠ [] := fun z => by subst z; cases e
      obtain ⟨ini, z, rfl⟩ : ∃ ini z, ws = ini ++ [z] := ⟨_, _, (List.dropLast_concat_getLast wne).symm⟩
      and_intros
      refine br_dec (fun h5 => ?_) (fun h5 => ?_)
      · refine near_wp (z := z) s1 (by omega) hbj (by omega) h5 hj1 (by rw [List.map_append]; exact Ev.atI_last _ _) (ww z (by simp)) fun w B2 c6 c7 c8 hw u2 s2 => ?_
        exact last w B2 _ _ _ _ _ hw u2 (s2.mono (by omega))
      · and_intros
        refine draw_wp s1 (by omega) (by omega) (by omega) fun e B2 e0 e1 u2 s2 => ?_
        and_intros
        obtain ⟨x, x1, x2⟩ := atI_of (fixedW.map D.str) e e0 (by rw [List.length_map]; exact e1)
        obtain ⟨w, hw, rfl⟩ := List.mem_map.mp x2
        refine wp_ix (l := fixedW.map D.str) rfl x1 ?_
        exact last w B2 _ _ _ _ _ (.inr (fixed_ok w hw)) u2 (s2.mono (by omega))
end
end Wk

set_option Elab.async false
set_option linter.all false
set_option maxRecDepth 100000
set_option maxHeartbeats 2000000
/-! the tables that are drawn -/
namespace Wk
open PySem PySem.Spec PyProof.Rows L2 Ev
open Classical
local macro_rules
  | `(tactic| ac_rfl) => `(tactic| (first | rfl | assumption | exact rdlOf_box (by assumption) | omega | exact Nat.le_of_ble_eq_true rfl | exact cmulW _ _ (by omega) (by omega) (by omega) (by omega) | exact cmm (by omega) (by omega) (by omega) (by omega) | exact cdivW _ _ (by omega) (by omega)))
local macro_rules
  | `(tactic| and_intros) => `(tactic| repeat first
    | with_reducible refine wE_bin ?_
    | with_reducible refine wE_un ?_
    | with_reducible refine wE_isTy ?_
    | with_reducible refine wE_call ?_
    | with_reducible refine wE_callF ?_
    | with_reducible refine wE_make ?_
    | with_reducible refine wE_and ?_
    | with_reducible refine wE_or ?_
    | with_reducible refine wE_not ?_
    | with_reducible refine wE_if ?_
    | with_reducible refine wE_tup ?_
    | with_reducible refine wE_lst ?_
    | with_reducible refine wE_dic0 ?_
    | with_reducible refine wE_sl ?_
    | with_reducible refine wE_lm ?_
    | with_reducible refine wE_up ?_
    | with_reducible refine wE_oNone ?_
    | with_reducible refine wE_oSome ?_
    | with_reducible refine wA_nil ?_
    | with_reducible refine wA_cons ?_
    | with_reducible refine wA_consB ?_
    | with_reducible refine wT_of ?_
    | with_reducible refine wT_and ?_
    | with_reducible refine wT_or ?_
    | with_reducible refine wT_not ?_
    | with_reducible refine wT_true ?_
    | with_reducible refine wS_seq ?_
    | with_reducible refine wS_next ?_
    | with_reducible refine wS_brk ?_
    | with_reducible refine wS_cnt ?_
    | with_reducible refine wS_retN ?_
    | with_reducible refine wS_expr ?_
    | with_reducible refine wS_ret ?_
    | with_reducible refine wS_if ?_
    | with_reducible refine wS_set ?_
    | with_reducible refine wS_setB ?_
    | with_reducible refine wS_sub ?_
    | with_reducible refine wS_unp ?_
    | with_reducible refine wS_fld ?_
    | with_reducible refine wS_raise ?_
    | with_reducible refine inBox_new ?_
    | with_reducible refine inBox_d ?_
    | with_reducible refine inBox_box ?_
    | with_reducible refine isB_bl ?_
    | with_reducible refine br_true ?_
    | with_reducible refine br_false ?_
    | with_reducible refine wE_c ?_
    | with_reducible refine wS_for ?_
    | with_reducible refine wE_iOf ?_
    | with_reducible refine wE_iRan1 ?_
    | with_reducible refine wE_iRan2 ?_
    | with_reducible refine wE_lc ?_
    | with_reducible refine wE_lc2 ?_
    | with_reducible refine wE_join ?_
    | with_reducible refine wE_tm ?_
    | with_reducible refine wp_add_int ?_
    | with_reducible refine wp_sub ?_
    | with_reducible refine wp_neg ?_
    | with_reducible refine wp_lt ?_
    | with_reducible refine wp_le ?_
    | with_reducible refine wp_gt ?_
    | with_reducible refine wp_ge ?_
    | with_reducible refine wp_eq_int ?_
    | with_reducible refine wp_ne_int ?_
    | with_reducible refine wp_eq_str ?_
    | with_reducible refine wp_ne_str ?_
    | with_reducible refine wp_eq_bl ?_
    | with_reducible refine wp_ne_bl ?_
    | with_reducible refine wp_int ?_
    | with_reducible refine wp_int_bl ?_
    | with_reducible refine wp_len_tup ?_
    | with_reducible refine wp_tuple_tup ?_
    | with_reducible refine wp_list_tup ?_
    | with_reducible refine wp_itA_tup ?_
    | with_reducible refine wp_itA_str ?_
    | with_reducible refine wp_isN ?_
    | with_reducible refine wp_notN ?_
    | with_reducible refine wp_in_sign ?_
    | with_reducible refine wp_notIn_sign ?_
    | with_reducible refine wp_sl_tup ?_
    | with_reducible refine wp_ok ?_
    | with_reducible refine br_not ?_
    | with_reducible refine wE_callG ?_
    | with_reducible refine wE_makeG ?_
    | with_reducible refine wE_own2 ?_
    | with_reducible refine wE_enumV ?_
    | with_reducible refine wE_zipV ?_
    | with_reducible refine wp_max ?_
    | with_reducible refine wp_listT_tup ?_
    | with_reducible refine wp_listT_lst ?_
    | with_reducible refine wp_enum_tup ?_
    | ((with_reducible apply wE_var); ac_rfl)
    | ((with_reducible apply wp_mod); ac_rfl)
    | ((with_reducible apply wp_div); ac_rfl)
    | ((with_reducible apply wp_mul); ac_rfl)
    | ((with_reducible apply wp_pow); ac_rfl)
    | ((with_reducible apply wp_add_str); ac_rfl)
    | ((with_reducible apply wp_add_tup); ac_rfl)
    | ((with_reducible apply wp_add_lst); ac_rfl; ac_rfl; ac_rfl)
    | ((with_reducible apply wp_len_str); ac_rfl)
    | ((with_reducible apply wp_len); ac_rfl)
    | ((with_reducible apply wp_tuple); ac_rfl)
    | ((with_reducible apply wp_list); ac_rfl)
    | ((with_reducible apply wp_ix_tup); ac_rfl)
    | ((with_reducible apply wp_ix); ac_rfl; ac_rfl)
    | ((with_reducible apply wp_ix_str); ac_rfl; ac_rfl)
    | ((with_reducible apply wp_sl_str); ac_rfl)
    | ((with_reducible apply wp_sl); ac_rfl)
    | ((with_reducible apply wp_itA); ac_rfl)
    | ((with_reducible apply wp_itL); ac_rfl)
    | ((with_reducible apply wp_ran1); ac_rfl; ac_rfl)
    | ((with_reducible apply wp_ran2); ac_rfl; ac_rfl; ac_rfl; ac_rfl)
    | ((with_reducible apply ws_putC); ac_rfl; ac_rfl)
    | ((with_reducible apply wp_fld); ac_rfl; ac_rfl)
    | ((with_reducible apply wp_in); ac_rfl; ac_rfl; ac_rfl)
    | ((with_reducible apply wp_notIn); ac_rfl; ac_rfl; ac_rfl)
    | ((with_reducible apply wp_rev); ac_rfl)
    | ((with_reducible apply wp_listT_str); ac_rfl)
    | ((with_reducible apply wp_enum); ac_rfl)
    | (refine ⟨rfl, rfl, ?_⟩)
    | (refine ⟨_, _, rfl, rfl, ?_⟩)
    | (refine ⟨_, _, rfl, Nat.le_of_ble_eq_true rfl, ?_⟩)
    | (refine ⟨_, _, _, rfl, rfl, ?_⟩)
    | (refine ⟨_, rfl, ?_⟩)
    | (refine ⟨_, _, rfl, ?_⟩)
    | (refine ⟨boxOk_of (by assumption), ?_⟩))
theorem keepB {B B' : Bx} {ms : List Nat} {j : Nat} {y} (u : Ch ms B B') (h : B[j]? = some y) (hj : j ∉ ms) : B'[j]? = some y := by rw [u.keep j hj]; exact h
theorem keepU {B B' : Bx} {ms : List Nat} {j : Nat} {y} (u : Up ms B B') (h : B[j]? = some y) (hj : j ∉ ms) : B'[j]? = some y := by rw [u.keep j (lt_of_get h) hj]; exact h
abbrev slt (b i : Nat) (a2 a3 a4 a5 a6 a7 : Option Vl) : Sl := [some (.box b), some (.box i), a2, a3, a4, a5, a6, a7]
section
variable {P : List Ob} {B B0 : Bx} {b i : Nat} {n d : Int} {a2 a3 a4 a5 a6 a7 : Option Vl} {nx : Sl → Sta → Prop} {rt : Vl → Sta → Prop} {bk ct : Sl → Sta → Prop} {ex : XPS} {Q : Vl → Sta → Prop} {X : XP}
theorem names_wp (hs : Sto B b n) (hn : n ≤ 2 ^ 27) (h0 : 0 ≤ d) (h1 : d < 20) (hi : B[i]? = some (true, [])) (hbi : b ≠ i)
    (k : ∀ (ws : List Str) (B' : Bx) (c2 : Option Vl), (ws.length : Int) = 1 + d → ws.Nodup → (∀ w ∈ ws, Word w) → Ch [b, i] B B' → Sto B' b (n + 300) → B'[i]? = some (true, ws.map D.str) → nx (slt b i c2 a3 a4 a5 a6 a7) ⟨P, B'⟩) :
    wFor (fun _ => true) (gNm 2) (sExpr (eLm appendF (eVar 1) (eCallF F__law_name [] (aCons (eVar 0) (aCons (eVar 1) (aNil)))))) (rng (1 + d)) (slt b i a2 a3 a4 a5 a6 a7) ⟨P, B⟩ nx rt bk ct ex := by
  refine wFor_inv (fun r σ S => ∃ (B' : Bx) (ws : List Str) (c2 : Option Vl), S = ⟨P, B'⟩ ∧ σ = slt b i c2 a3 a4 a5 a6 a7 ∧ Ch [b, i] B B' ∧ Sto B' b (n + 12 * (ws.length : Nat)) ∧ B'[i]? = some (true, ws.map D.str) ∧ ws.Nodup ∧ (∀ w ∈ ws, Word w) ∧ (ws.length : Int) + (r.length : Nat) = 1 + d)
    ⟨B, [], a2, rfl, rfl, .refl, by simpa using hs, hi, List.nodup_nil, by simp, by simp; omega⟩ (fun _ _ _ _ => rfl) ?_ ?_
  · rintro x r σ S ⟨B1, ws, c2, rfl, rfl, u1, s1, hi1, nd, ww, hl⟩
    have hl' : (ws.length : Int) + ((r.length : Nat) + 1) = 1 + d := by simpa using hl
    refine ⟨_, rfl, ?_⟩
    and_intros
    refine name_wp s1 (by omega) hbi.symm hi1 (by omega) ww fun w B2 W nin u2 s2 => ?_
    have hi2 := keepB u2 hi1 (by simpa using hbi.symm)
    and_intros
    refine wp_append hi2 (by rw [List.length_map]; unfold sizeLine; omega) fun B3 u3 hi3 => ?_
    refine ⟨B3, ws ++ [w], _, rfl, rfl, (u1.trans (u2.mono (by simp))).trans (u3.mono (by simp)), (s2.ch u3 (by simpa using hbi)).mono (by simp; omega), by rw [hi3]; simp, ?_, ?_, by simp; omega⟩
    · exact List.nodup_append.mpr ⟨nd, by simp, fun a ha b hb z => by
        have : b = w := by simpa using hb
        subst this; subst z; exact nin ha⟩
    · intro v hv
      rcases List.mem_append.mp hv with hv | hv
      · exact ww v hv
      · rw [List.mem_singleton.mp hv]; exact W
  · rintro σ S ⟨B1, ws, c2, rfl, rfl, u1, s1, hi1, nd, ww, hl⟩
    have hl' : (ws.length : Int) = 1 + d := by simpa using hl
    exact k ws B1 c2 hl' nd ww u1 (s1.mono (by omega)) hi1
end
end Wk

set_option Elab.async false
set_option linter.all false
set_option maxRecDepth 100000
set_option maxHeartbeats 2000000
/-! the references of a table that are drawn -/
namespace Wk
open PySem PySem.Spec PyProof.Rows L2 Ev
open Classical
local macro_rules
  | `(tactic| ac_rfl) => `(tactic| (first | rfl | assumption | exact rdlOf_box (by assumption) | omega | exact Nat.le_of_ble_eq_true rfl | exact cmulW _ _ (by omega) (by omega) (by omega) (by omega) | exact cmm (by omega) (by omega) (by omega) (by omega) | exact cdivW _ _ (by omega) (by omega)))
local macro_rules
  | `(tactic| and_intros) => `(tactic| repeat first
    | with_reducible refine wE_bin ?_
    | with_reducible refine wE_un ?_
    | with_reducible refine wE_isTy ?_
    | with_reducible refine wE_call ?_
    | with_reducible refine wE_callF ?_
    | with_reducible refine wE_make ?_
    | with_reducible refine wE_and ?_
    | with_reducible refine wE_or ?_
    | with_reducible refine wE_not ?_
    | with_reducible refine wE_if ?_
    | with_reducible refine wE_tup ?_
    | with_reducible refine wE_lst ?_
    | with_reducible refine wE_dic0 ?_
    | with_reducible refine wE_sl ?_
    | with_reducible refine wE_lm ?_
    | with_reducible refine wE_up ?_
    | with_reducible refine wE_oNone ?_
    | with_reducible refine wE_oSome ?_
    | with_reducible refine wA_nil ?_
    | with_reducible refine wA_cons ?_
    | with_reducible refine wA_consB ?_
    | with_reducible refine wT_of ?_
    | with_reducible refine wT_and ?_
    | with_reducible refine wT_or ?_
    | with_reducible refine wT_not ?_
    | with_reducible refine wT_true ?_
    | with_reducible refine wS_seq ?_
    | with_reducible refine wS_next ?_
    | with_reducible refine wS_brk ?_
    | with_reducible refine wS_cnt ?_
    | with_reducible refine wS_retN ?_
    | with_reducible refine wS_expr ?_
    | with_reducible refine wS_ret ?_
    | with_reducible refine wS_if ?_
    | with_reducible refine wS_set ?_
    | with_reducible refine wS_setB ?_
    | with_reducible refine wS_sub ?_
    | with_reducible refine wS_unp ?_
    | with_reducible refine wS_fld ?_
    | with_reducible refine wS_raise ?_
    | with_reducible refine inBox_new ?_
    | with_reducible refine inBox_d ?_
    | with_reducible refine inBox_box ?_
    | with_reducible refine isB_bl ?_
    | with_reducible refine br_true ?_
    | with_reducible refine br_false ?_
    | with_reducible refine wE_c ?_
    | with_reducible refine wS_for ?_
    | with_reducible refine wE_iOf ?_
    | with_reducible refine wE_iRan1 ?_
    | with_reducible refine wE_iRan2 ?_
    | with_reducible refine wE_lc ?_
    | with_reducible refine wE_lc2 ?_
    | with_reducible refine wE_join ?_
    | with_reducible refine wE_tm ?_
    | with_reducible refine wp_add_int ?_
    | with_reducible refine wp_sub ?_
    | with_reducible refine wp_neg ?_
    | with_reducible refine wp_lt ?_
    | with_reducible refine wp_le ?_
    | with_reducible refine wp_gt ?_
    | with_reducible refine wp_ge ?_
    | with_reducible refine wp_eq_int ?_
    | with_reducible refine wp_ne_int ?_
    | with_reducible refine wp_eq_str ?_
    | with_reducible refine wp_ne_str ?_
    | with_reducible refine wp_eq_bl ?_
    | with_reducible refine wp_ne_bl ?_
    | with_reducible refine wp_int ?_
    | with_reducible refine wp_int_bl ?_
    | with_reducible refine wp_len_tup ?_
    | with_reducible refine wp_tuple_tup ?_
    | with_reducible refine wp_list_tup ?_
    | with_reducible refine wp_itA_tup ?_
    | with_reducible refine wp_itA_str ?_
    | with_reducible refine wp_isN ?_
    | with_reducible refine wp_notN ?_
    | with_reducible refine wp_in_sign ?_
    | with_reducible refine wp_notIn_sign ?_
    | with_reducible refine wp_sl_tup ?_
    | with_reducible refine wp_ok ?_
    | with_reducible refine br_not ?_
    | with_reducible refine wE_callG ?_
    | with_reducible refine wE_makeG ?_
    | with_reducible refine wE_own2 ?_
    | with_reducible refine wE_enumV ?_
    | with_reducible refine wE_zipV ?_
    | with_reducible refine wp_max ?_
    | with_reducible refine wp_listT_tup ?_
    | with_reducible refine wp_listT_lst ?_
    | with_reducible refine wp_enum_tup ?_
    | ((with_reducible apply wE_var); ac_rfl)
    | ((with_reducible apply wp_mod); ac_rfl)
    | ((with_reducible apply wp_div); ac_rfl)
    | ((with_reducible apply wp_mul); ac_rfl)
    | ((with_reducible apply wp_pow); ac_rfl)
    | ((with_reducible apply wp_add_str); ac_rfl)
    | ((with_reducible apply wp_add_tup); ac_rfl)
    | ((with_reducible apply wp_add_lst); ac_rfl; ac_rfl; ac_rfl)
    | ((with_reducible apply wp_len_str); ac_rfl)
    | ((with_reducible apply wp_len); ac_rfl)
    | ((with_reducible apply wp_tuple); ac_rfl)
    | ((with_reducible apply wp_list); ac_rfl)
    | ((with_reducible apply wp_ix_tup); ac_rfl)
    | ((with_reducible apply wp_ix); ac_rfl; ac_rfl)
    | ((with_reducible apply wp_ix_str); ac_rfl; ac_rfl)
    | ((with_reducible apply wp_sl_str); ac_rfl)
    | ((with_reducible apply wp_sl); ac_rfl)
    | ((with_reducible apply wp_itA); ac_rfl)
    | ((with_reducible apply wp_itL); ac_rfl)
    | ((with_reducible apply wp_ran1); ac_rfl; ac_rfl)
    | ((with_reducible apply wp_ran2); ac_rfl; ac_rfl; ac_rfl; ac_rfl)
    | ((with_reducible apply ws_putC); ac_rfl; ac_rfl)
    | ((with_reducible apply wp_fld); ac_rfl; ac_rfl)
    | ((with_reducible apply wp_in); ac_rfl; ac_rfl; ac_rfl)
    | ((with_reducible apply wp_notIn); ac_rfl; ac_rfl; ac_rfl)
    | ((with_reducible apply wp_rev); ac_rfl)
    | ((with_reducible apply wp_listT_str); ac_rfl)
    | ((with_reducible apply wp_enum); ac_rfl)
    | (refine ⟨rfl, rfl, ?_⟩)
    | (refine ⟨_, _, rfl, rfl, ?_⟩)
    | (refine ⟨_, _, rfl, Nat.le_of_ble_eq_true rfl, ?_⟩)
    | (refine ⟨_, _, _, rfl, rfl, ?_⟩)
    | (refine ⟨_, rfl, ?_⟩)
    | (refine ⟨_, _, rfl, ?_⟩)
    | (refine ⟨boxOk_of (by assumption), ?_⟩))
section
variable {P : List Ob} {B B0 : Bx} {b i c r : Nat} {n d : Int} {names : List Str} {a2 a3 a4 a5 a6 a7 : Option Vl} {nx : Sl → Sta → Prop} {rt : Vl → Sta → Prop} {bk ct : Sl → Sta → Prop} {ex : XPS} {Q : Vl → Sta → Prop} {X : XP}
/-- the end of a turn: the column and its reference are put behind -/
theorem ref_end {rs : List (Str × Str)} {w : Str} (hs : Sto B b n) (hn : n ≤ 2 ^ 28) (l1 : 1 ≤ names.length) (l2 : names.length ≤ 100) (hbc : b ≠ c) (hbr : b ≠ r) (hic : i ≠ c) (hib : i ≠ b) (hcr : c ≠ r) (hl : rs.length ≤ 1000)
    (hi : B[i]? = some (true, names.map D.str)) (hc : B[c]? = some (true, (rs.map (·.1)).map D.str)) (hr : B[r]? = some (true, rs.map rD))
    (k : ∀ (v : Str) (B' : Bx), v ∈ names → Ch [b, c, r] B B' → Sto B' b (n + 1) → B'[c]? = some (true, ((rs ++ [(w, v)]).map (·.1)).map D.str) → B'[r]? = some (true, (rs ++ [(w, v)]).map rD) → nx (slt b i a2 a3 a4 (some (.box c)) (some (.box r)) (some (.d (.str w)))) ⟨P, B'⟩) :
    wS tb__law_tables_1 (slt b i a2 a3 a4 (some (.box c)) (some (.box r)) (some (.d (.str w)))) ⟨P, B⟩ nx rt bk ct ex := by
  and_intros
  refine wp_append hc (by simp; unfold sizeLine; omega) fun B1 u1 hc1 => ?_
  have hi1 := keepB u1 hi (by simpa using hic)
  have hr1 := keepB u1 hr (by simpa using hcr.symm)
  have s1 := hs.ch u1 (by simpa using hbc)
  and_intros
  refine draw_wp s1 (by omega) (by simp; omega) (by simp; omega) fun e B2 e0 e1 u2 s2 => ?_
  have hi2 := keepB u2 hi1 (by simpa using hib)
  have hr2 := keepB u2 hr1 (by simpa using hbr.symm)
  have hc2 := keepB u2 hc1 (by simpa using hbc.symm)
  and_intros
  obtain ⟨y, y1, y2⟩ := atI_of (names.map D.str) e e0 e1
  obtain ⟨v, hv, rfl⟩ := List.mem_map.mp y2
  refine wp_ix (rdlOf_box hi2) y1 ?_
  and_intros
  refine wp_append hr2 (by simp; unfold sizeLine; omega) fun B3 u3 hr3 => ?_
  have hc3 := keepB u3 hc2 (by simpa using hcr)
  exact k v B3 hv (((u1.mono (by simp)).trans (u2.mono (by simp))).trans (u3.mono (by simp))) (s2.ch u3 (by simpa using hbr)) (by rw [hc3]; simp) (by rw [hr3]; simp [rD])
theorem refs_wp (hs : Sto B b n) (hn : n ≤ 2 ^ 27) (h0 : 0 ≤ d) (h1 : d < 20) (l1 : 1 ≤ names.length) (l2 : names.length ≤ 100) (ww : ∀ w ∈ names, Word w) (hbc : b ≠ c) (hbr : b ≠ r) (hic : i ≠ c) (hir : i ≠ r) (hib : i ≠ b) (hcr : c ≠ r)
    (hi : B[i]? = some (true, names.map D.str)) (hc : B[c]? = some (true, [])) (hr : B[r]? = some (true, []))
    (k : ∀ (rs : List (Str × Str)) (B' : Bx) (c2 c7 : Option Vl), (rs.length : Int) = d → (rs.map (·.1)).Nodup → (∀ q ∈ rs, Word q.1 ∧ q.2 ∈ names) → Ch [b, c, r] B B' → Sto B' b (n + 400) → B'[r]? = some (true, rs.map rD) → nx (slt b i c2 a3 a4 (some (.box c)) (some (.box r)) c7) ⟨P, B'⟩) :
    wFor (fun _ => true) (gNm 2) tb__law_tables_3 (rng d) (slt b i a2 a3 a4 (some (.box c)) (some (.box r)) a7) ⟨P, B⟩ nx rt bk ct ex := by
  refine wFor_inv (fun rest σ S => ∃ (B' : Bx) (rs : List (Str × Str)) (c2 c7 : Option Vl), S = ⟨P, B'⟩ ∧ σ = slt b i c2 a3 a4 (some (.box c)) (some (.box r)) c7 ∧ Ch [b, c, r] B B' ∧ Sto B' b (n + 20 * (rs.length : Nat)) ∧ B'[i]? = some (true, names.map D.str) ∧ B'[c]? = some (true, (rs.map (·.1)).map D.str) ∧ B'[r]? = some (true, rs.map rD) ∧ (rs.map (·.1)).Nodup ∧ (∀ q ∈ rs, Word q.1 ∧ q.2 ∈ names) ∧ (rs.length : Int) + (rest.length : Nat) = d)
    ⟨B, [], a2, a7, rfl, rfl, .refl, by simpa using hs, hi, hc, hr, List.nodup_nil, by simp, by simp; omega⟩ (fun _ _ _ _ => rfl) ?_ ?_
  · rintro x rest σ S ⟨B1, rs, c2, c7, rfl, rfl, u1, s1, hi1, hc1, hr1, nd, ok, hl⟩
    have hl' : (rs.length : Int) + ((rest.length : Nat) + 1) = d := by simpa using hl
    refine ⟨_, rfl, ?_⟩
    and_intros
    refine draw_wp s1 (by omega) (by simp; omega) (by simp; omega) fun e B2 e0 e1 u2 s2 => ?_
    have hi2 := keepB u2 hi1 (by simpa using hib)
    have hr2 := keepB u2 hr1 (by simpa using hbr.symm)
    have hc2 := keepB u2 hc1 (by simpa using hbc.symm)
    and_intros
    obtain ⟨y, y1, y2⟩ := atI_of (names.map D.str) e e0 e1
    obtain ⟨w, hw, rfl⟩ := List.mem_map.mp y2
    refine wp_ix (rdlOf_box hi2) y1 ?_
    -- a column of this name is put behind
    have fin : ∀ (w : Str) (B3 : Bx), Word w → w ∉ rs.map (·.1) → Ch [b] B2 B3 → Sto B3 b (n + 20 * (rs.length : Nat) + 14) →
        wS tb__law_tables_1 (slt b i (some (.d x)) a3 a4 (some (.box c)) (some (.box r)) (some (.d (.str w)))) ⟨P, B3⟩ (fun σ S => ∃ (B' : Bx) (rs : List (Str × Str)) (c2 c7 : Option Vl), S = ⟨P, B'⟩ ∧ σ = slt b i c2 a3 a4 (some (.box c)) (some (.box r)) c7 ∧ Ch [b, c, r] B B' ∧ Sto B' b (n + 20 * (rs.length : Nat)) ∧ B'[i]? = some (true, names.map D.str) ∧ B'[c]? = some (true, (rs.map (·.1)).map D.str) ∧ B'[r]? = some (true, rs.map rD) ∧ (rs.map (·.1)).Nodup ∧ (∀ q ∈ rs, Word q.1 ∧ q.2 ∈ names) ∧ (rs.length : Int) + (rest.length : Nat) = d) rt nx
          (fun σ S => ∃ (B' : Bx) (rs : List (Str × Str)) (c2 c7 : Option Vl), S = ⟨P, B'⟩ ∧ σ = slt b i c2 a3 a4 (some (.box c)) (some (.box r)) c7 ∧ Ch [b, c, r] B B' ∧ Sto B' b (n + 20 * (rs.length : Nat)) ∧ B'[i]? = some (true, names.map D.str) ∧ B'[c]? = some (true, (rs.map (·.1)).map D.str) ∧ B'[r]? = some (true, rs.map rD) ∧ (rs.map (·.1)).Nodup ∧ (∀ q ∈ rs, Word q.1 ∧ q.2 ∈ names) ∧ (rs.length : Int) + (rest.length : Nat) = d) ex := by
      intro w B3 W nin u3 s3
      have hi3 := keepB u3 hi2 (by simpa using hib)
      have hr3 := keepB u3 hr2 (by simpa using hbr.symm)
      have hc3 := keepB u3 hc2 (by simpa using hbc.symm)
      refine ref_end s3 (by omega) l1 l2 hbc hbr hic hib hcr (by omega) hi3 hc3 hr3 fun v B4 hv u4 s4 hc4 hr4 => ?_
      refine ⟨B4, rs ++ [(w, v)], _, _, rfl, rfl, ((u1.trans (u2.mono (by simp))).trans (u3.mono (by simp))).trans u4, s4.mono (by simp; omega), keepB u4 hi3 (by simp; exact ⟨hib, hic, hir⟩), hc4, hr4, ?_, ?_, by simp; omega⟩
      · rw [List.map_append]
        exact List.nodup_append.mpr ⟨nd, by simp, fun a ha b hb z => by
          have : b = w := by simpa using hb
          subst this; subst z; exact nin ha⟩
      · intro q hq
        rcases List.mem_append.mp hq with hq | hq
        · exact ok q hq
        · rw [List.mem_singleton.mp hq]; exact ⟨W, hv⟩
    and_intros
    refine wp_of (inF_box hc2 w) ?_
    have other : ∀ (B3 : Bx), Ch [b] B2 B3 → Sto B3 b (n + 20 * (rs.length : Nat) + 2) → wS (sSet 7 (eCallF F__law_name [] (aCons (eVar 0) (aCons (eVar 5) (aNil))))) (slt b i (some (.d x)) a3 a4 (some (.box c)) (some (.box r)) (some (.d (.str w)))) ⟨P, B3⟩ (fun σ S => wS tb__law_tables_1 σ S (fun σ S => ∃ (B' : Bx) (rs : List (Str × Str)) (c2 c7 : Option Vl), S = ⟨P, B'⟩ ∧ σ = slt b i c2 a3 a4 (some (.box c)) (some (.box r)) c7 ∧ Ch [b, c, r] B B' ∧ Sto B' b (n + 20 * (rs.length : Nat)) ∧ B'[i]? = some (true, names.map D.str) ∧ B'[c]? = some (true, (rs.map (·.1)).map D.str) ∧ B'[r]? = some (true, rs.map rD) ∧ (rs.map (·.1)).Nodup ∧ (∀ q ∈ rs, Word q.1 ∧ q.2 ∈ names) ∧ (rs.length : Int) + (rest.length : Nat) = d) rt nx
          (fun σ S => ∃ (B' : Bx) (rs : List (Str × Str)) (c2 c7 : Option Vl), S = ⟨P, B'⟩ ∧ σ = slt b i c2 a3 a4 (some (.box c)) (some (.box r)) c7 ∧ Ch [b, c, r] B B' ∧ Sto B' b (n + 20 * (rs.length : Nat)) ∧ B'[i]? = some (true, names.map D.str) ∧ B'[c]? = some (true, (rs.map (·.1)).map D.str) ∧ B'[r]? = some (true, rs.map rD) ∧ (rs.map (·.1)).Nodup ∧ (∀ q ∈ rs, Word q.1 ∧ q.2 ∈ names) ∧ (rs.length : Int) + (rest.length : Nat) = d) ex) rt nx
          (fun σ S => ∃ (B' : Bx) (rs : List (Str × Str)) (c2 c7 : Option Vl), S = ⟨P, B'⟩ ∧ σ = slt b i c2 a3 a4 (some (.box c)) (some (.box r)) c7 ∧ Ch [b, c, r] B B' ∧ Sto B' b (n + 20 * (rs.length : Nat)) ∧ B'[i]? = some (true, names.map D.str) ∧ B'[c]? = some (true, (rs.map (·.1)).map D.str) ∧ B'[r]? = some (true, rs.map rD) ∧ (rs.map (·.1)).Nodup ∧ (∀ q ∈ rs, Word q.1 ∧ q.2 ∈ names) ∧ (rs.length : Int) + (rest.length : Nat) = d) ex := by
      intro B3 u3 s3
      have hc3 := keepB u3 hc2 (by simpa using hbc.symm)
      and_intros
      refine name_wp s3 (by omega) hbc.symm hc3 (by simp; omega) (fun v hv => by
        obtain ⟨q, hq, rfl⟩ := List.mem_map.mp hv
        exact (ok q hq).1) fun v B4 V nin u4 s4 => ?_
      exact fin v B4 V nin (u3.trans u4) (s4.mono (by omega))
    and_intros
    refine br_dec (fun h => ?_) (fun h => ?_)
    · exact br_true (other B2 .refl (s2.mono (by omega)))
    · and_intros
      refine draw_wp s2 (by omega) (by omega) (by omega) fun f B3 f0 f1 u3 s3 => ?_
      and_intros
      refine br_dec (fun h2 => ?_) (fun h2 => ?_)
      · exact other B3 u3 (s3.mono (by omega))
      · exact fin w B3 (ww w hw) h u3 (s3.mono (by omega))
  · rintro σ S ⟨B1, rs, c2, c7, rfl, rfl, u1, s1, hi1, hc1, hr1, nd, ok, hl⟩
    have hl' : (rs.length : Int) = d := by simpa using hl
    exact k rs B1 c2 c7 hl' nd ok u1 (s1.mono (by omega)) hr1
end
end Wk

set_option Elab.async false
set_option linter.all false
set_option maxRecDepth 100000
set_option maxHeartbeats 2000000
/-! the tables that are drawn, whole -/
namespace Wk
open PySem PySem.Spec PyProof.Rows L2 Ev
open Classical
local macro_rules
  | `(tactic| ac_rfl) => `(tactic| (first | rfl | assumption | exact rdlOf_box (by assumption) | omega | exact Nat.le_of_ble_eq_true rfl | exact cmulW _ _ (by omega) (by omega) (by omega) (by omega) | exact cmm (by omega) (by omega) (by omega) (by omega) | exact cdivW _ _ (by omega) (by omega)))
local macro_rules
  | `(tactic| and_intros) => `(tactic| repeat first
    | with_reducible refine wE_bin ?_
    | with_reducible refine wE_un ?_
    | with_reducible refine wE_isTy ?_
    | with_reducible refine wE_call ?_
    | with_reducible refine wE_callF ?_
    | with_reducible refine wE_make ?_
    | with_reducible refine wE_and ?_
    | with_reducible refine wE_or ?_
    | with_reducible refine wE_not ?_
    | with_reducible refine wE_if ?_
    | with_reducible refine wE_tup ?_
    | with_reducible refine wE_lst ?_
    | with_reducible refine wE_dic0 ?_
    | with_reducible refine wE_sl ?_
    | with_reducible refine wE_lm ?_
    | with_reducible refine wE_up ?_
    | with_reducible refine wE_oNone ?_
    | with_reducible refine wE_oSome ?_
    | with_reducible refine wA_nil ?_
    | with_reducible refine wA_cons ?_
    | with_reducible refine wA_consB ?_
    | with_reducible refine wT_of ?_
    | with_reducible refine wT_and ?_
    | with_reducible refine wT_or ?_
    | with_reducible refine wT_not ?_
    | with_reducible refine wT_true ?_
    | with_reducible refine wS_seq ?_
    | with_reducible refine wS_next ?_
    | with_reducible refine wS_brk ?_
    | with_reducible refine wS_cnt ?_
    | with_reducible refine wS_retN ?_
    | with_reducible refine wS_expr ?_
    | with_reducible refine wS_ret ?_
    | with_reducible refine wS_if ?_
    | with_reducible refine wS_set ?_
    | with_reducible refine wS_setB ?_
    | with_reducible refine wS_sub ?_
    | with_reducible refine wS_unp ?_
    | with_reducible refine wS_fld ?_
    | with_reducible refine wS_raise ?_
    | with_reducible refine inBox_new ?_
    | with_reducible refine inBox_d ?_
    | with_reducible refine inBox_box ?_
    | with_reducible refine isB_bl ?_
    | with_reducible refine br_true ?_
    | with_reducible refine br_false ?_
    | with_reducible refine wE_c ?_
    | with_reducible refine wS_for ?_
    | with_reducible refine wE_iOf ?_
    | with_reducible refine wE_iRan1 ?_
    | with_reducible refine wE_iRan2 ?_
    | with_reducible refine wE_lc ?_
    | with_reducible refine wE_lc2 ?_
    | with_reducible refine wE_join ?_
    | with_reducible refine wE_tm ?_
    | with_reducible refine wp_add_int ?_
    | with_reducible refine wp_sub ?_
    | with_reducible refine wp_neg ?_
    | with_reducible refine wp_lt ?_
    | with_reducible refine wp_le ?_
    | with_reducible refine wp_gt ?_
    | with_reducible refine wp_ge ?_
    | with_reducible refine wp_eq_int ?_
    | with_reducible refine wp_ne_int ?_
    | with_reducible refine wp_eq_str ?_
    | with_reducible refine wp_ne_str ?_
    | with_reducible refine wp_eq_bl ?_
    | with_reducible refine wp_ne_bl ?_
    | with_reducible refine wp_int ?_
    | with_reducible refine wp_int_bl ?_
    | with_reducible refine wp_len_tup ?_
    | with_reducible refine wp_tuple_tup ?_
    | with_reducible refine wp_list_tup ?_
    | with_reducible refine wp_itA_tup ?_
    | with_reducible refine wp_itA_str ?_
    | with_reducible refine wp_isN ?_
    | with_reducible refine wp_notN ?_
    | with_reducible refine wp_in_sign ?_
    | with_reducible refine wp_notIn_sign ?_
    | with_reducible refine wp_sl_tup ?_
    | with_reducible refine wp_ok ?_
    | with_reducible refine br_not ?_
    | with_reducible refine wE_callG ?_
    | with_reducible refine wE_makeG ?_
    | with_reducible refine wE_own2 ?_
    | with_reducible refine wE_enumV ?_
    | with_reducible refine wE_zipV ?_
    | with_reducible refine wp_max ?_
    | with_reducible refine wp_listT_tup ?_
    | with_reducible refine wp_listT_lst ?_
    | with_reducible refine wp_enum_tup ?_
    | ((with_reducible apply wE_var); ac_rfl)
    | ((with_reducible apply wp_mod); ac_rfl)
    | ((with_reducible apply wp_div); ac_rfl)
    | ((with_reducible apply wp_mul); ac_rfl)
    | ((with_reducible apply wp_pow); ac_rfl)
    | ((with_reducible apply wp_add_str); ac_rfl)
    | ((with_reducible apply wp_add_tup); ac_rfl)
    | ((with_reducible apply wp_add_lst); ac_rfl; ac_rfl; ac_rfl)
    | ((with_reducible apply wp_len_str); ac_rfl)
    | ((with_reducible apply wp_len); ac_rfl)
    | ((with_reducible apply wp_tuple); ac_rfl)
    | ((with_reducible apply wp_list); ac_rfl)
    | ((with_reducible apply wp_ix_tup); ac_rfl)
    | ((with_reducible apply wp_ix); ac_rfl; ac_rfl)
    | ((with_reducible apply wp_ix_str); ac_rfl; ac_rfl)
    | ((with_reducible apply wp_sl_str); ac_rfl)
    | ((with_reducible apply wp_sl); ac_rfl)
    | ((with_reducible apply wp_itA); ac_rfl)
    | ((with_reducible apply wp_itL); ac_rfl)
    | ((with_reducible apply wp_ran1); ac_rfl; ac_rfl)
    | ((with_reducible apply wp_ran2); ac_rfl; ac_rfl; ac_rfl; ac_rfl)
    | ((with_reducible apply ws_putC); ac_rfl; ac_rfl)
    | ((with_reducible apply wp_fld); ac_rfl; ac_rfl)
    | ((with_reducible apply wp_in); ac_rfl; ac_rfl; ac_rfl)
    | ((with_reducible apply wp_notIn); ac_rfl; ac_rfl; ac_rfl)
    | ((with_reducible apply wp_rev); ac_rfl)
    | ((with_reducible apply wp_listT_str); ac_rfl)
    | ((with_reducible apply wp_enum); ac_rfl)
    | (refine ⟨rfl, rfl, ?_⟩)
    | (refine ⟨_, _, rfl, rfl, ?_⟩)
    | (refine ⟨_, _, rfl, Nat.le_of_ble_eq_true rfl, ?_⟩)
    | (refine ⟨_, _, _, rfl, rfl, ?_⟩)
    | (refine ⟨_, rfl, ?_⟩)
    | (refine ⟨_, _, rfl, ?_⟩)
    | (refine ⟨boxOk_of (by assumption), ?_⟩))
theorem upTo {B0 B1 B2 : Bx} {ms ns : List Nat} (h : Up ms B0 B1) (k : Ch ns B1 B2) (hm : ∀ j ∈ ns, j ∈ ms ∨ B0.length ≤ j) : Up ms B0 B2 :=
  ⟨by rw [k.len]; exact h.len, fun j hj hn => by
    rw [k.keep j (fun z => (hm j z).elim hn (by omega)), h.keep j hj hn]⟩
theorem Sto.take {B : Bx} {b m : Nat} {n : Int} (h : Sto B b n) (hb : b < m) : Sto (B.take m) b n := by
  obtain ⟨s, q, c, h, r⟩ := h
  exact ⟨s, q, c, by rw [List.getElem?_take_of_lt hb]; exact h, r⟩
theorem Sto.push {B : Bx} {b : Nat} {n : Int} {x} (h : Sto B b n) : Sto (B ++ [x]) b n := h.up (Up.push (ms := [])) (by simp)
theorem getPush {B : Bx} {j : Nat} {x y} (h : B[j]? = some y) : (B ++ [x])[j]? = some y := by rw [List.getElem?_append_left (lt_of_get h)]; exact h
section
variable {P : List Ob} {B B0 : Bx} {b i t : Nat} {n d : Int} {names : List Str} {a2 a3 a4 a5 a6 a7 : Option Vl} {nx : Sl → Sta → Prop} {rt : Vl → Sta → Prop} {bk ct : Sl → Sta → Prop} {ex : XPS} {Q : Vl → Sta → Prop} {X : XP}
/-- a table -/
theorem table_wp {es : List Ent} {w : Str} (u0 : Up [b] B0 B) (hb0 : b < B0.length) (hs : Sto B b n) (hn : n ≤ 2 ^ 26) (l1 : 1 ≤ names.length) (l2 : names.length ≤ 100) (ww : ∀ w ∈ names, Word w) (W : Word w) (hib : i ≠ b) (htb : t ≠ b) (hit : i ≠ t) (i0 : B0.length ≤ i) (t0 : B0.length ≤ t) (he : es.length ≤ 100)
    (hi : B[i]? = some (true, names.map D.str)) (ht : B[t]? = some (true, es.map eD))
    (k : ∀ (e : Ent) (B' : Bx) (c2 c5 c6 c7 : Option Vl), e.name = w → EntOk names 3 e → Up [b] B0 B' → Sto B' b (n + 500) → B'[i]? = some (true, names.map D.str) → B'[t]? = some (true, (es ++ [e]).map eD) → nx (slt b i c2 (some (.box t)) (some (.d (.str w))) c5 c6 c7) ⟨P, B'⟩) :
    wS tb__law_tables_7 (slt b i a2 (some (.box t)) (some (.d (.str w))) a5 a6 a7) ⟨P, B⟩ nx rt bk ct ex := by
  have bl := hs.lt
  have il := lt_of_get hi
  have tl := lt_of_get ht
  have ul := u0.len
  and_intros
  refine draw_wp hs.push.push (by omega) (by omega) (by omega) fun q B1 q0 q1 u1 s1 => ?_
  have e1 : (B ++ [(true, ([] : List D))]).length = B.length + 1 := by simp
  have hc1 : B1[B.length]? = some (true, []) := keepB u1 (getPush getP) (by simp; omega)
  have hr1 : B1[(B ++ [(true, ([] : List D))]).length]? = some (true, []) := keepB u1 getP (by simp; omega)
  have hi1 : B1[i]? = some (true, names.map D.str) := keepB u1 (getPush (getPush hi)) (by simpa using hib)
  have ht1 : B1[t]? = some (true, es.map eD) := keepB u1 (getPush (getPush ht)) (by simpa using htb)
  have u1' : Up [b] B0 B1 := upTo ((u0.trans Up.push).trans Up.push) u1 (by simp)
  and_intros
  refine refs_wp s1 (by omega) q0 (by omega) l1 l2 ww (by omega) (by rw [e1]; omega) (by omega) (by rw [e1]; omega) hib (by rw [e1]; omega) hi1 hc1 hr1 fun rs B2 c2 c7 rl nd ok u2 s2 hr2 => ?_
  have m2 : ∀ j, j ≠ b → j ≠ B.length → j ≠ (B ++ [(true, ([] : List D))]).length → j ∉ [b, B.length, (B ++ [(true, ([] : List D))]).length] := fun j h1 h2 h3 z => by
    rcases List.mem_cons.mp z with z | z
    · exact h1 z
    rcases List.mem_cons.mp z with z | z
    · exact h2 z
    · exact h3 (List.mem_singleton.mp z)
  have hi2 := keepB u2 hi1 (m2 i hib (by omega) (by rw [e1]; omega))
  have ht2 := keepB u2 ht1 (m2 t htb (by omega) (by rw [e1]; omega))
  have u2' : Up [b] B0 B2 := upTo u1' u2 (fun j hj => by
    rcases List.mem_cons.mp hj with z | z
    · exact .inl (by simp [z])
    rcases List.mem_cons.mp z with z | z
    · exact .inr (by omega)
    · exact .inr (by rw [List.mem_singleton.mp z, e1]; omega))
  and_intros
  refine draw_wp s2 (by omega) (by omega) (by omega) fun f B3 f0 f1 u3 s3 => ?_
  have hi3 := keepB u3 hi2 (by simpa using hib)
  have ht3 := keepB u3 ht2 (by simpa using htb)
  have hr3 := keepB u3 hr2 (by simp; omega)
  and_intros
  refine wp_append ht3 (by simp; unfold sizeLine; omega) fun B4 u4 ht4 => ?_
  refine k ⟨w, decide (f = 0), rs⟩ B4 _ _ _ _ rfl ⟨W, by show (rs.length : Int) ≤ 3; omega, nd, ok⟩ (upTo (upTo u2' u3 (by simp)) u4 (fun j hj => by rw [List.mem_singleton.mp hj]; exact .inr t0)) ((s3.ch u4 (by simpa using htb.symm)).mono (by omega)) (keepB u4 hi3 (by simpa using hit)) (by rw [ht4]; simp [eD])
theorem tables_wp (hs : Sto B b n) (hn : n ≤ 2 ^ 20) (k : ∀ (p : List Ent) (B' : Bx), PlanOk 5 3 p → Ch [b] B B' → Sto B' b (n + 10000) → Q (.d (planD p)) ⟨P, B'⟩) : wp (F__law_tables [.box b] ⟨P, B⟩) Q X := by
  have bl := hs.lt
  unfold F__law_tables
  refine wp_fn rfl ?_
  and_intros
  refine draw_wp hs.push (by omega) (by omega) (by omega) fun d B1 d0 d1 u1 s1 => ?_
  have hi1 : B1[B.length]? = some (true, []) := keepB u1 getP (by simp; omega)
  and_intros
  refine names_wp s1 (by omega) d0 (by omega) hi1 (by omega) fun names B2 c2 nl nd ww u2 s2 hi2 => ?_
  have u2' : Up [b] B B2 := upTo (upTo Up.push u1 (by simp)) u2 (fun j hj => by
    rcases List.mem_cons.mp hj with z | z
    · exact .inl (by simp [z])
    · exact .inr (by rw [List.mem_singleton.mp z]; exact Nat.le_refl _))
  have l2 : B2.length = B.length + 1 := by rw [u2.len, u1.len]; simp
  have hi2' := getPush (x := (true, ([] : List D))) hi2
  and_intros
  refine wFor_inv (fun rest σ S => ∃ (B' : Bx) (es : List Ent) (c2 c4 c5 c6 c7 : Option Vl), S = ⟨P, B'⟩ ∧ σ = slt b B.length c2 (some (.box B2.length)) c4 c5 c6 c7 ∧ Up [b] B B' ∧ Sto B' b (n + 301 + 500 * (es.length : Nat)) ∧ B'[B.length]? = some (true, names.map D.str) ∧ B'[B2.length]? = some (true, es.map eD) ∧ (es.map (·.name)).map D.str ++ rest = names.map D.str ∧ (∀ e ∈ es, EntOk names 3 e))
    ⟨B2 ++ [(true, [])], [], _, _, _, _, _, rfl, rfl, u2'.trans Up.push, s2.push.mono (by simp; omega), hi2', getP, rfl, by simp⟩ ?_ ?_ ?_
  · rintro rest σ S ⟨B', es, c2, c4, c5, c6, c7, rfl, rfl, u, s, hi, ht, e, ok⟩
    exact decide_eq_true (rdlOf_box (S := ⟨P, B'⟩) hi)
  · rintro x rest σ S ⟨B', es, c2, c4, c5, c6, c7, rfl, rfl, u, s, hi, ht, e, ok⟩
    have hx : x ∈ names.map D.str := by rw [← e]; simp
    obtain ⟨w, hw, rfl⟩ := List.mem_map.mp hx
    have ll : es.length + (rest.length + 1) = names.length := by
      have := congrArg List.length e
      simpa using this
    refine ⟨_, rfl, ?_⟩
    refine table_wp (B0 := B) u bl s (by omega) (by omega) (by omega) ww (ww w hw) (by omega) (by omega) (by omega) (Nat.le_refl _) (by omega) (by omega) hi ht fun en B3 c2 c5 c6 c7 e1 ok2 u3 s3 hi3 ht3 => ?_
    refine ⟨B3, es ++ [en], _, _, _, _, _, rfl, rfl, u3, s3.mono (by simp; omega), hi3, ht3, ?_, ?_⟩
    · rw [← e, List.map_append, List.map_append, ← e1]; simp
    · intro v hv
      rcases List.mem_append.mp hv with hv | hv
      · exact ok v hv
      · rw [List.mem_singleton.mp hv]; exact ok2
  · rintro σ S ⟨B', es, c2, c4, c5, c6, c7, rfl, rfl, u, s, hi, ht, e, ok⟩
    have e3 : es.map (·.name) = names := by
      have : (es.map (·.name)).map D.str = names.map D.str := by simpa using e
      exact (List.map_inj_right (fun a b h => by cases h; rfl)).mp this
    have ll : es.length = names.length := by rw [← e3]; simp
    and_intros
    refine wp_finD (k es _ ⟨by omega, by omega, by rw [e3]; exact nd, by rw [e3]; exact ok⟩ u.cut ((s.take bl).mono (by omega)))
end
end Wk

set_option Elab.async false
set_option linter.all false
set_option maxRecDepth 100000
set_option maxHeartbeats 2000000
namespace Wk
open PySem PySem.Spec PyProof.Rows L2 Ev
open Classical
/-! a comprehension that leaves the state alone -/
theorem lc_map {chk : Sta → Bool} {tg : GV} {T : EV} {σ : Sl} {S : Sta} (f : D → D) {items : List D} (hc : chk S = true) (h : ∀ x ∈ items, ∃ σ1, tg x σ = some σ1 ∧ T σ1 S = .ok (.d (f x)) S) (hl : items.length ≤ sizeLine) :
    loopL chk tg (eltStep tTrue T) σ items [] S = .ok (items.map f) S := by
  have e : ∀ m : List D, m.flatMap (fun x => [f x]) = m.map f := fun m => by
    induction m with
    | nil => rfl
    | cons x r ih => rw [List.flatMap_cons, ih]; rfl
  have := loopL_map (chk := chk) (tg := tg) (step := eltStep tTrue T) (σ := σ) (S := S) (fun x => [f x]) hc items [] (fun x hx => by
    obtain ⟨σ1, e1, e2⟩ := h x hx
    refine ⟨σ1, e1, fun acc _ hz => ?_⟩
    have hz' : acc.length < sizeLine := by
      have : acc.length + 1 ≤ sizeLine := hz
      omega
    simp [e2, hz']) (by rw [e]; simpa using hl)
  rw [e] at this
  simpa using this
theorem all_bl (l : List D) (S : Sta) : allF [.d (.lst (l.map fun _ => D.bl true))] S = .ok (.d (.bl true)) S := by
  have e : (l.map fun _ => D.bl true) = (l.map fun _ => true).map D.bl := by simp
  rw [allF_lst, e, blsOf_map]
  have : ∀ m : List D, (m.map fun _ => true).all id = true := by
    intro m
    induction m with
    | nil => rfl
    | cons x r ih => simp
  dsimp only
  rw [this]
theorem inF_chr (c : Nat) (z : Str) (S : Sta) : inF (.d (.str (one c))) (.d (.str z)) S = .ok (.d (.bl (decide (c ∈ z.cps.toList)))) S := rfl
theorem inF_lst (w : Str) (ws : List Str) (S : Sta) : inF (.d (.str w)) (.d (.lst (ws.map D.str))) S = .ok (.d (.bl (decide (w ∈ ws)))) S := by
  have e : inB (.d (.str w)) (.d (.lst (ws.map D.str))) S = some (decide (w ∈ ws)) := by
    show (if flatD (.str w) = true ∧ (ws.map D.str).all flatD = true then some (inD (.str w) (ws.map D.str)) else none) = _
    rw [if_pos ⟨rfl, flats ws⟩, inD_strs]
  unfold inF
  rw [e]
/-! distinct texts -/
theorem metS_nodup (ys : List Str) (h : ys.Nodup) : ∀ i, i ≤ ys.length → metS ys i = ys.take i
  | 0, _ => by simp [metS]
  | i + 1, hi => by
    have e : ys[i]? = some ys[i] := List.getElem?_eq_getElem hi
    rw [metS_succ e, metS_nodup ys h i (by omega), List.take_add_one, e]
    unfold step_dedup
    rw [if_neg]
    · rfl
    · intro z
      obtain ⟨x, hx, e2⟩ := List.any_eq_true.mp z
      have e3 : x = ys[i] := by simpa using e2
      subst e3
      obtain ⟨j, hj, e4⟩ := List.mem_iff_getElem.mp hx
      simp only [List.getElem_take] at e4
      simp only [List.length_take] at hj
      have := (List.getElem_inj h).mp e4
      omega
theorem lenSet_ok (ys : List Str) (S : Sta) (h : ys.Nodup) (hl : ys.length < 4000) : lenSetF (.d (.lst (ys.map D.str))) S = .ok (.d (.int (ys.length : Nat))) S := by
  unfold lenSetF
  simp only [rdlOf_lst, strsOf_map]
  rw [if_pos (by unfold scanBound; omega), metS_nodup ys h _ (Nat.le_refl _), List.take_length]
/-! names, tables, plans are what they are -/
theorem is_name_ok {w : Str} (W : Word w) (S : Sta) : F_is_name [.d (.str w)] S = .ok (.d (.bl true)) S := by
  obtain ⟨P, B⟩ := S
  have lo := W.lo; have hi := W.hi
  have ne : w ≠ (Str.ofString "") := by
    intro e
    rw [e] at lo
    exact absurd lo (by decide +kernel)
  have sz : w.length ≤ sizeLine := le_sizeLine (by omega)
  have loop := lc_map (chk := fun _ => true) (tg := gNm 1) (T := eBin inF (eVar 1) (eC (.str (Str.ofString "abcdefghijklmnopqrstuvwxyz")))) (σ := [some (.d (.str w)), none]) (S := ⟨P, B⟩) (fun _ => D.bl true) (items := chrs w) rfl (fun x hx => by
    obtain ⟨c, hc, rfl⟩ := List.mem_map.mp hx
    refine ⟨_, rfl, ?_⟩
    have h2 : decide (c ∈ (Str.ofString "abcdefghijklmnopqrstuvwxyz").cps.toList) = true := decide_eq_true (W.ch c hc)
    have h3 : inF (.d (.str ⟨#[c]⟩)) (.d (.str (Str.ofString "abcdefghijklmnopqrstuvwxyz"))) ⟨P, B⟩ = .ok (.d (.bl true)) ⟨P, B⟩ := by
      have := inF_chr c (Str.ofString "abcdefghijklmnopqrstuvwxyz") ⟨P, B⟩
      rw [h2] at this
      exact this
    simp [h3]) (by simp [chrs]; exact sz)
  have h8 : ¬ (8 : Int) < (w.length : Nat) := by omega
  unfold F_is_name
  refine (mkFn_eq rfl).trans ?_
  simp only [t_is_name]
  simp [ne, sz, h8, isTab, wipeV]
  rw [loop]
  simp [all_bl, -allF_lst]
theorem is_ref_ok {r : Str × Str} (h1 : Word r.1) (h2 : Word r.2) (S : Sta) : F_is_reference [.d (rD r)] S = .ok (.d (.bl true)) S := by
  obtain ⟨P, B⟩ := S
  unfold F_is_reference
  refine (mkFn_eq rfl).trans ?_
  simp only [t_is_reference]
  simp [rD, isTab, is_name_ok h1, is_name_ok h2]
theorem is_table_ok {names : List Str} {e : Ent} (h : EntOk names 3 e) (hn : ∀ n ∈ names, Word n) (S : Sta) : F_is_table [.d (eD e)] S = .ok (.d (.bl true)) S := by
  obtain ⟨P, B⟩ := S
  have hl : (e.refs.length : Int) ≤ 3 := h.len
  have sz : e.refs.length ≤ sizeLine := le_sizeLine (by omega)
  have l1 := lc_map (chk := fun _ => true) (tg := gNm 4) (T := eCallF F_is_reference [] (aCons (eVar 4) (aNil))) (σ := [some (.d (eD e)), some (.d (.str e.name)), some (.d (.bl e.uq)), some (.d (.tup (e.refs.map rD))), none]) (S := ⟨P, B⟩) (fun _ => D.bl true) (items := e.refs.map rD) rfl (fun x hx => by
    obtain ⟨r, hr, rfl⟩ := List.mem_map.mp hx
    refine ⟨_, rfl, ?_⟩
    simp [is_ref_ok (h.col r hr).1 (hn _ (h.col r hr).2)]) (by simpa using sz)
  have l2 := lc_map (chk := fun _ => true) (tg := gNm 4) (T := eBin ixF (eVar 4) (eC (.int 0))) (σ := [some (.d (eD e)), some (.d (.str e.name)), some (.d (.bl e.uq)), some (.d (.tup (e.refs.map rD))), none]) (S := ⟨P, B⟩) (fun x => match x with | .tup (y :: _) => y | _ => .non) (items := e.refs.map rD) rfl (fun x hx => by
    obtain ⟨r, hr, rfl⟩ := List.mem_map.mp hx
    refine ⟨_, rfl, ?_⟩
    simp [rD]) (by simpa using sz)
  have e2 : (e.refs.map rD).map (fun x => match x with | .tup (y :: _) => y | _ => .non) = (e.refs.map (·.1)).map D.str := by
    rw [List.map_map, List.map_map]; rfl
  rw [e2] at l2
  have h3 : ¬ (3 : Int) < (e.refs.length : Nat) := by omega
  unfold F_is_table
  refine (mkFn_eq rfl).trans ?_
  simp only [t_is_table]
  have l1' := l1
  simp only [eD] at l1' l2
  simp [eD, isTab, is_name_ok h.w, h3, wipeV, -List.map_map]
  rw [l1']
  simp [all_bl, -allF_lst, -List.map_map]
  rw [l2]
  have l3 := lenSet_ok (e.refs.map (·.1)) ⟨P, B⟩ h.nd (by simp; omega)
  simp [l3, -List.map_map]
end Wk

set_option Elab.async false
set_option linter.all false
set_option maxRecDepth 100000
set_option maxHeartbeats 2000000
namespace Wk
open PySem PySem.Spec PyProof.Rows L2 Ev
open Classical
theorem okD_ref (n : Nat) (r : Str × Str) : okD (n + 1) (rD r) = true := by
  cases n <;> rfl
theorem okD_ent (n : Nat) (e : Ent) : okD (n + 3) (eD e) = true := by
  show okDs (n + 2) [.str e.name, .bl e.uq, .tup (e.refs.map rD)] = true
  refine okDs_iff.mpr fun x hx => ?_
  simp only [List.mem_cons, List.not_mem_nil, or_false] at hx
  rcases hx with rfl | rfl | rfl
  · rfl
  · rfl
  · show okDs (n + 1) (e.refs.map rD) = true
    refine okDs_iff.mpr fun x hx => ?_
    obtain ⟨r, _, rfl⟩ := List.mem_map.mp hx
    exact okD_ref n r
theorem okD_plan (n : Nat) (p : List Ent) : okD (n + 4) (planD p) = true := by
  show okDs (n + 3) (p.map eD) = true
  refine okDs_iff.mpr fun x hx => ?_
  obtain ⟨r, _, rfl⟩ := List.mem_map.mp hx
  exact okD_ent n r
theorem PlanOk.words {most mc : Int} {p : List Ent} (h : PlanOk most mc p) : ∀ n ∈ p.map (·.name), Word n := fun n hn => by
  obtain ⟨e, he, rfl⟩ := List.mem_map.mp hn
  exact (h.ent e he).w
theorem eTup_nil : eTup aNil = fun (σ : Sl) S => Out.ok (.d (.tup [])) S := by
  funext σ S
  have : 0 ≤ sizeLine := Nat.zero_le _
  simp [eTup]
theorem is_plan_ok {p : List Ent} (h : PlanOk 5 3 p) (S : Sta) : F_is_plan [.d (planD p)] S = .ok (.d (.bl true)) S := by
  obtain ⟨P, B⟩ := S
  have lo := h.lo
  have hi : (p.length : Int) ≤ 5 := h.hi
  have sz : p.length ≤ sizeLine := le_sizeLine (by omega)
  have l1 := lc_map (chk := fun _ => true) (tg := gNm 1) (T := eCallF F_is_table [] (aCons (eVar 1) (aNil))) (σ := [some (.d (planD p)), none]) (S := ⟨P, B⟩) (fun _ => D.bl true) (items := p.map eD) rfl (fun x hx => by
    obtain ⟨e, he, rfl⟩ := List.mem_map.mp hx
    refine ⟨_, rfl, ?_⟩
    simp [is_table_ok (h.ent e he) h.words]) (by simpa using sz)
  have l2 := lc_map (chk := fun _ => true) (tg := gNm 1) (T := eBin ixF (eVar 1) (eC (.int 0))) (σ := [some (.d (planD p)), none]) (S := ⟨P, B⟩) (fun x => match x with | .tup (y :: _) => y | _ => .non) (items := p.map eD) rfl (fun x hx => by
    obtain ⟨r, hr, rfl⟩ := List.mem_map.mp hx
    refine ⟨_, rfl, ?_⟩
    simp [eD]) (by simpa using sz)
  have e2 : (p.map eD).map (fun x => match x with | .tup (y :: _) => y | _ => .non) = (p.map (·.name)).map D.str := by
    rw [List.map_map, List.map_map]; rfl
  rw [e2] at l2
  have h3 : ¬ (5 : Int) < (p.length : Nat) := by omega
  have ne : eqF (.d (planD p)) (.d (.tup [])) ⟨P, B⟩ = .ok (.d (.bl false)) ⟨P, B⟩ := by
    rw [eqF_d, if_pos ⟨okD_plan 56 p, rfl⟩]
    cases p with
    | nil => simp at lo
    | cons e r => rfl
  unfold F_is_plan
  refine (mkFn_eq rfl).trans ?_
  simp only [t_is_plan, eTup_nil]
  have ty : tyN (.d (planD p)) ⟨P, B⟩ = some "tuple" := rfl
  have ln : lenF [.d (planD p)] ⟨P, B⟩ = .ok (.d (.int (p.length : Nat))) ⟨P, B⟩ := by simp [planD]
  have it : itemsA (.d (planD p)) ⟨P, B⟩ = .ok (p.map eD, fun _ => true) ⟨P, B⟩ := rfl
  simp [ty, ln, it, isTab, ne, h3, wipeV, -List.map_map]
  rw [l1]
  simp [all_bl, -allF_lst, -List.map_map, ln, it, wipeV]
  rw [l2]
  have l3 := lenSet_ok (p.map (·.name)) ⟨P, B⟩ h.nd (by simp; omega)
  simp [l3, -List.map_map, ln]
/-! Schema(plan) -/
def schO (p : List Ent) : Ob := .ins "Schema" [("plan", planD p)]
/-- a comprehension of two clauses -/
theorem lc2_map {chk : Sta → Bool} {tg Gt1 : GV} {I1 : IV} {T : EV} {vs1 : List Nat} {σ : Sl} {S : Sta} (f : D → List D) {items : List D} (hc : chk S = true)
    (h : ∀ x ∈ items, ∃ σ1 its chk1, tg x σ = some σ1 ∧ I1 σ1 S = .ok (its, chk1) S ∧ chk1 S = true ∧ ∃ g : D → D, f x = its.map g ∧ ∀ y ∈ its, ∃ σ2, Gt1 y (wipeV σ1 vs1) = some σ2 ∧ T σ2 S = .ok (.d (g y)) S) (hl : (items.flatMap f).length ≤ sizeLine) :
    loopL chk tg (innerStep tTrue vs1 I1 Gt1 tTrue T) σ items [] S = .ok (items.flatMap f) S := by
  have := loopL_map (chk := chk) (tg := tg) (step := innerStep tTrue vs1 I1 Gt1 tTrue T) (σ := σ) (S := S) f hc items [] (fun x hx => by
    obtain ⟨σ1, its, chk1, e1, e2, e3, g, e4, e5⟩ := h x hx
    refine ⟨σ1, e1, fun acc _ hz => ?_⟩
    have inner := loopL_map (chk := chk1) (tg := Gt1) (step := eltStep tTrue T) (σ := wipeV σ1 vs1) (S := S) (fun y => [g y]) e3 its acc (fun y hy => by
      obtain ⟨σ2, q1, q2⟩ := e5 y hy
      refine ⟨σ2, q1, fun acc _ hz => ?_⟩
      have hz' : acc.length < sizeLine := by
        have : acc.length + 1 ≤ sizeLine := hz
        omega
      simp [q2, hz']) (by
        have : its.flatMap (fun y => [g y]) = its.map g := by
          have : ∀ m : List D, m.flatMap (fun x => [g x]) = m.map g := fun m => by
            induction m with
            | nil => rfl
            | cons x r ih => rw [List.flatMap_cons, ih]; rfl
          exact this its
        rw [this, ← e4, List.length_append]; exact hz)
    have e6 : its.flatMap (fun y => [g y]) = its.map g := by
      have : ∀ m : List D, m.flatMap (fun x => [g x]) = m.map g := fun m => by
        induction m with
        | nil => rfl
        | cons x r ih => rw [List.flatMap_cons, ih]; rfl
      exact this its
    rw [e6, ← e4] at inner
    show (match tTrue σ1 S with
      | .ok true S1 => match I1 σ1 S1 with
        | .ok p S2 => loopL p.2 Gt1 (eltStep tTrue T) (wipeV σ1 vs1) p.1 acc S2
        | _ => .bad
      | .ok false S1 => .ok acc S1
      | _ => .bad) = _
    dsimp only [tTrue]
    rw [e2]
    exact inner) (by simpa using hl)
  simpa using this
end Wk

set_option Elab.async false
set_option linter.all false
set_option maxRecDepth 100000
set_option maxHeartbeats 2000000
/-! a schema is made -/
namespace Wk
open PySem PySem.Spec PyProof.Rows L2 Ev
open Classical
local macro_rules
  | `(tactic| ac_rfl) => `(tactic| (first | rfl | assumption | exact rdlOf_box (by assumption) | omega | exact Nat.le_of_ble_eq_true rfl | exact cmulW _ _ (by omega) (by omega) (by omega) (by omega) | exact cmm (by omega) (by omega) (by omega) (by omega) | exact cdivW _ _ (by omega) (by omega)))
local macro_rules
  | `(tactic| and_intros) => `(tactic| repeat first
    | with_reducible refine wE_bin ?_
    | with_reducible refine wE_un ?_
    | with_reducible refine wE_isTy ?_
    | with_reducible refine wE_call ?_
    | with_reducible refine wE_callF ?_
    | with_reducible refine wE_make ?_
    | with_reducible refine wE_and ?_
    | with_reducible refine wE_or ?_
    | with_reducible refine wE_not ?_
    | with_reducible refine wE_if ?_
    | with_reducible refine wE_tup ?_
    | with_reducible refine wE_lst ?_
    | with_reducible refine wE_dic0 ?_
    | with_reducible refine wE_sl ?_
    | with_reducible refine wE_lm ?_
    | with_reducible refine wE_up ?_
    | with_reducible refine wE_oNone ?_
    | with_reducible refine wE_oSome ?_
    | with_reducible refine wA_nil ?_
    | with_reducible refine wA_cons ?_
    | with_reducible refine wA_consB ?_
    | with_reducible refine wT_of ?_
    | with_reducible refine wT_and ?_
    | with_reducible refine wT_or ?_
    | with_reducible refine wT_not ?_
    | with_reducible refine wT_true ?_
    | with_reducible refine wS_seq ?_
    | with_reducible refine wS_next ?_
    | with_reducible refine wS_brk ?_
    | with_reducible refine wS_cnt ?_
    | with_reducible refine wS_retN ?_
    | with_reducible refine wS_expr ?_
    | with_reducible refine wS_ret ?_
    | with_reducible refine wS_if ?_
    | with_reducible refine wS_set ?_
    | with_reducible refine wS_setB ?_
    | with_reducible refine wS_sub ?_
    | with_reducible refine wS_unp ?_
    | with_reducible refine wS_fld ?_
    | with_reducible refine wS_raise ?_
    | with_reducible refine inBox_new ?_
    | with_reducible refine inBox_d ?_
    | with_reducible refine inBox_box ?_
    | with_reducible refine isB_bl ?_
    | with_reducible refine br_true ?_
    | with_reducible refine br_false ?_
    | with_reducible refine wE_c ?_
    | with_reducible refine wS_for ?_
    | with_reducible refine wE_iOf ?_
    | with_reducible refine wE_iRan1 ?_
    | with_reducible refine wE_iRan2 ?_
    | with_reducible refine wE_lc ?_
    | with_reducible refine wE_lc2 ?_
    | with_reducible refine wE_join ?_
    | with_reducible refine wE_tm ?_
    | with_reducible refine wp_add_int ?_
    | with_reducible refine wp_sub ?_
    | with_reducible refine wp_neg ?_
    | with_reducible refine wp_lt ?_
    | with_reducible refine wp_le ?_
    | with_reducible refine wp_gt ?_
    | with_reducible refine wp_ge ?_
    | with_reducible refine wp_eq_int ?_
    | with_reducible refine wp_ne_int ?_
    | with_reducible refine wp_eq_str ?_
    | with_reducible refine wp_ne_str ?_
    | with_reducible refine wp_eq_bl ?_
    | with_reducible refine wp_ne_bl ?_
    | with_reducible refine wp_int ?_
    | with_reducible refine wp_int_bl ?_
    | with_reducible refine wp_len_tup ?_
    | with_reducible refine wp_tuple_tup ?_
    | with_reducible refine wp_list_tup ?_
    | with_reducible refine wp_itA_tup ?_
    | with_reducible refine wp_itA_str ?_
    | with_reducible refine wp_isN ?_
    | with_reducible refine wp_notN ?_
    | with_reducible refine wp_in_sign ?_
    | with_reducible refine wp_notIn_sign ?_
    | with_reducible refine wp_sl_tup ?_
    | with_reducible refine wp_ok ?_
    | with_reducible refine br_not ?_
    | with_reducible refine wE_callG ?_
    | with_reducible refine wE_makeG ?_
    | with_reducible refine wE_own2 ?_
    | with_reducible refine wE_enumV ?_
    | with_reducible refine wE_zipV ?_
    | with_reducible refine wp_max ?_
    | with_reducible refine wp_listT_tup ?_
    | with_reducible refine wp_listT_lst ?_
    | with_reducible refine wp_enum_tup ?_
    | ((with_reducible apply wE_var); ac_rfl)
    | ((with_reducible apply wp_mod); ac_rfl)
    | ((with_reducible apply wp_div); ac_rfl)
    | ((with_reducible apply wp_mul); ac_rfl)
    | ((with_reducible apply wp_pow); ac_rfl)
    | ((with_reducible apply wp_add_str); ac_rfl)
    | ((with_reducible apply wp_add_tup); ac_rfl)
    | ((with_reducible apply wp_add_lst); ac_rfl; ac_rfl; ac_rfl)
    | ((with_reducible apply wp_len_str); ac_rfl)
    | ((with_reducible apply wp_len); ac_rfl)
    | ((with_reducible apply wp_tuple); ac_rfl)
    | ((with_reducible apply wp_list); ac_rfl)
    | ((with_reducible apply wp_ix_tup); ac_rfl)
    | ((with_reducible apply wp_ix); ac_rfl; ac_rfl)
    | ((with_reducible apply wp_ix_str); ac_rfl; ac_rfl)
    | ((with_reducible apply wp_sl_str); ac_rfl)
    | ((with_reducible apply wp_sl); ac_rfl)
    | ((with_reducible apply wp_itA); ac_rfl)
    | ((with_reducible apply wp_itL); ac_rfl)
    | ((with_reducible apply wp_ran1); ac_rfl; ac_rfl)
    | ((with_reducible apply wp_ran2); ac_rfl; ac_rfl; ac_rfl; ac_rfl)
    | ((with_reducible apply ws_putC); ac_rfl; ac_rfl)
    | ((with_reducible apply wp_fld); ac_rfl; ac_rfl)
    | ((with_reducible apply wp_in); ac_rfl; ac_rfl; ac_rfl)
    | ((with_reducible apply wp_notIn); ac_rfl; ac_rfl; ac_rfl)
    | ((with_reducible apply wp_rev); ac_rfl)
    | ((with_reducible apply wp_listT_str); ac_rfl)
    | ((with_reducible apply wp_enum); ac_rfl)
    | (refine ⟨rfl, rfl, ?_⟩)
    | (refine ⟨_, _, rfl, rfl, ?_⟩)
    | (refine ⟨_, _, rfl, Nat.le_of_ble_eq_true rfl, ?_⟩)
    | (refine ⟨_, _, _, rfl, rfl, ?_⟩)
    | (refine ⟨_, rfl, ?_⟩)
    | (refine ⟨_, _, rfl, ?_⟩)
    | (refine ⟨boxOk_of (by assumption), ?_⟩))
def places (p : List Ent) : List Str := (p.map fun e => e.refs.map (·.2)).flatten
theorem ref_places (p : List Ent) : (p.map eD).flatMap (fun x => match x with | .tup (_ :: _ :: .tup l :: _) => l.map (fun y => match y with | .tup (_ :: z :: _) => z | _ => .non) | _ => []) = (places p).map D.str := by
  induction p with
  | nil => rfl
  | cons e r ih =>
    rw [List.map_cons, List.flatMap_cons, ih]
    simp [places, eD, rD, Function.comp_def]
theorem refs_few {most mc : Int} {p : List Ent} (h : PlanOk most mc p) (hm : mc ≤ 20) (hp : most ≤ 20) : (places p).length ≤ 400 := by
  have key : ∀ l : List Ent, (∀ e ∈ l, (e.refs.length : Int) ≤ mc) → (places l).length ≤ 20 * l.length := by
    intro l
    induction l with
    | nil => intro _; simp [places]
    | cons e r ih =>
      intro hl
      have h1 := hl e List.mem_cons_self
      have h2 := ih fun x hx => hl x (List.mem_cons_of_mem _ hx)
      simp only [places, List.map_cons, List.flatten_cons, List.length_append, List.length_map, List.length_cons] at h2 ⊢
      omega
  have := key p fun e he => (h.ent e he).len
  have := h.hi
  omega
def hd0 : D → D
  | .tup (y :: _) => y
  | _ => .non
def pl2 : D → List D
  | .tup (_ :: _ :: .tup l :: _) => l.map (fun y => match y with | .tup (_ :: z :: _) => z | _ => .non)
  | _ => []
theorem pl2_eq (p : List Ent) : (p.map eD).flatMap pl2 = (places p).map D.str := by
  rw [← ref_places]
  congr 1
theorem hd0_eq (p : List Ent) : (p.map eD).map hd0 = (p.map (·.name)).map D.str := by
  rw [List.map_map, List.map_map]; rfl
section
variable {P : List Ob} {B : Bx} {Q : Vl → Sta → Prop} {X : XP}
theorem place_in {p : List Ent} (h : PlanOk 5 3 p) : ∀ w ∈ places p, w ∈ p.map (·.name) := by
  intro w hw
  unfold places at hw
  obtain ⟨l, hl, hw⟩ := List.mem_flatten.mp hw
  obtain ⟨e, he, rfl⟩ := List.mem_map.mp hl
  obtain ⟨r, hr, rfl⟩ := List.mem_map.mp hw
  exact ((h.ent e he).col r hr).2
theorem make_wp {p : List Ent} (h : PlanOk 5 3 p) (k : Q (.d (.obj P.length)) ⟨P ++ [schO p], B⟩) : wp (mkF "Schema" F_Schema_init [.d (planD p)] ⟨P, B⟩) Q X := by
  have few := refs_few h (by omega) (by omega)
  have hp := h.hi
  refine wp_mkF ?_
  unfold F_Schema_init
  refine wp_fn rfl ?_
  and_intros
  refine wp_of (is_plan_ok h _) ?_
  and_intros
  refine wLoop_map hd0 rfl (fun x hx => ?_) (by simp; unfold sizeLine; omega) ?_
  · obtain ⟨e, he, rfl⟩ := List.mem_map.mp hx
    refine ⟨_, rfl, ?_⟩
    and_intros
    refine ⟨rfl, ?_⟩
    and_intros
    rfl
  rw [hd0_eq]
  and_intros
  refine wLoop_flat pl2 rfl (fun x hx acc ha => ?_) ?_ ?_
  · obtain ⟨e, he, rfl⟩ := List.mem_map.mp hx
    refine ⟨_, rfl, wp_inner ?_⟩
    and_intros
    refine wp_ix_tup (l := [.str e.name, .bl e.uq, .tup (e.refs.map rD)]) rfl ?_
    and_intros
    refine wLoop_inv (fun r a S => S = ⟨P ++ [.ins "Schema" []], B⟩ ∧ ∃ d : List (Str × Str), (d.map rD) ++ r = e.refs.map rD ∧ a = acc ++ d.map (fun q => D.str q.2)) ⟨rfl, [], by simp, by simp⟩ (fun _ _ _ _ => rfl) ?_ ?_
    · rintro x r a S ⟨rfl, d, e1, rfl⟩
      have hx : x ∈ e.refs.map rD := by rw [← e1]; simp
      obtain ⟨q, hq, rfl⟩ := List.mem_map.mp hx
      refine ⟨_, rfl, wp_elt ?_⟩
      and_intros
      have ll : d.length + (r.length + 1) = e.refs.length := by
        have := congrArg List.length e1
        simpa using this
      have la : acc.length + e.refs.length ≤ sizeLine := by simpa [pl2, eD] using ha
      refine ⟨by simp; omega, rfl, d ++ [q], by rw [← e1]; simp, by simp⟩
    · rintro a S ⟨rfl, d, e1, rfl⟩
      have e2 : d = e.refs := by
        have : d.map rD = e.refs.map rD := by simpa using e1
        exact (List.map_inj_right (fun a b h => by
          cases a; cases b; simp only [rD] at h; injection h with h; injection h with h1 h2; injection h1 with h1; injection h2 with h2 _; injection h2 with h2; rw [h1, h2])).mp this
      subst e2
      refine ⟨?_, rfl⟩
      simp [pl2, eD, rD, Function.comp_def]
  · rw [pl2_eq]; simp; unfold sizeLine; omega
  rw [pl2_eq, List.nil_append]
  and_intros
  refine wLoop_map (fun _ => .bl true) (decide_eq_true rfl) (fun x hx => ?_) (by simp; unfold sizeLine; omega) ?_
  · obtain ⟨w, hw, rfl⟩ := List.mem_map.mp hx
    refine ⟨_, rfl, ?_⟩
    and_intros
    refine ⟨rfl, ?_⟩
    and_intros
    refine wp_of (inF_lst w _ _) ?_
    rw [decide_eq_true (place_in h w hw)]
    rfl
  and_intros
  refine wp_of (all_bl _ _) ?_
  and_intros
  refine ws_setFld (c := "Schema") (fs := []) (by show (P ++ [Ob.ins "Schema" []])[P.length]? = _; simp) (by decide) ?_
  refine ⟨rfl, ?_⟩
  have e : (P ++ [Ob.ins "Schema" []]).set P.length (.ins "Schema" [("plan", planD p)]) = P ++ [schO p] := by
    rw [List.set_append_right _ _ (Nat.le_refl _)]; simp [schO]
  show Q (.d (.obj P.length)) (cutB B.length ⟨(P ++ [Ob.ins "Schema" []]).set P.length (.ins "Schema" [("plan", planD p)]), B⟩)
  rw [e, cutB_id (Nat.le_refl _)]
  exact k
end
end Wk

set_option Elab.async false
set_option linter.all false
set_option maxRecDepth 100000
set_option maxHeartbeats 2000000
/-! texts put together and taken apart -/
namespace Wk
open PySem PySem.Spec PyProof.Rows L2 Ev
open Classical
local macro_rules
  | `(tactic| ac_rfl) => `(tactic| (first | rfl | assumption | exact rdlOf_box (by assumption) | omega | exact Nat.le_of_ble_eq_true rfl | exact cmulW _ _ (by omega) (by omega) (by omega) (by omega) | exact cmm (by omega) (by omega) (by omega) (by omega) | exact cdivW _ _ (by omega) (by omega)))
local macro_rules
  | `(tactic| and_intros) => `(tactic| repeat first
    | with_reducible refine wE_bin ?_
    | with_reducible refine wE_un ?_
    | with_reducible refine wE_isTy ?_
    | with_reducible refine wE_call ?_
    | with_reducible refine wE_callF ?_
    | with_reducible refine wE_make ?_
    | with_reducible refine wE_and ?_
    | with_reducible refine wE_or ?_
    | with_reducible refine wE_not ?_
    | with_reducible refine wE_if ?_
    | with_reducible refine wE_tup ?_
    | with_reducible refine wE_lst ?_
    | with_reducible refine wE_dic0 ?_
    | with_reducible refine wE_sl ?_
    | with_reducible refine wE_lm ?_
    | with_reducible refine wE_up ?_
    | with_reducible refine wE_oNone ?_
    | with_reducible refine wE_oSome ?_
    | with_reducible refine wA_nil ?_
    | with_reducible refine wA_cons ?_
    | with_reducible refine wA_consB ?_
    | with_reducible refine wT_of ?_
    | with_reducible refine wT_and ?_
    | with_reducible refine wT_or ?_
    | with_reducible refine wT_not ?_
    | with_reducible refine wT_true ?_
    | with_reducible refine wS_seq ?_
    | with_reducible refine wS_next ?_
    | with_reducible refine wS_brk ?_
    | with_reducible refine wS_cnt ?_
    | with_reducible refine wS_retN ?_
    | with_reducible refine wS_expr ?_
    | with_reducible refine wS_ret ?_
    | with_reducible refine wS_if ?_
    | with_reducible refine wS_set ?_
    | with_reducible refine wS_setB ?_
    | with_reducible refine wS_sub ?_
    | with_reducible refine wS_unp ?_
    | with_reducible refine wS_fld ?_
    | with_reducible refine wS_raise ?_
    | with_reducible refine inBox_new ?_
    | with_reducible refine inBox_d ?_
    | with_reducible refine inBox_box ?_
    | with_reducible refine isB_bl ?_
    | with_reducible refine br_true ?_
    | with_reducible refine br_false ?_
    | with_reducible refine wE_c ?_
    | with_reducible refine wS_for ?_
    | with_reducible refine wE_iOf ?_
    | with_reducible refine wE_iRan1 ?_
    | with_reducible refine wE_iRan2 ?_
    | with_reducible refine wE_lc ?_
    | with_reducible refine wE_lc2 ?_
    | with_reducible refine wE_join ?_
    | with_reducible refine wE_tm ?_
    | with_reducible refine wp_add_int ?_
    | with_reducible refine wp_sub ?_
    | with_reducible refine wp_neg ?_
    | with_reducible refine wp_lt ?_
    | with_reducible refine wp_le ?_
    | with_reducible refine wp_gt ?_
    | with_reducible refine wp_ge ?_
    | with_reducible refine wp_eq_int ?_
    | with_reducible refine wp_ne_int ?_
    | with_reducible refine wp_eq_str ?_
    | with_reducible refine wp_ne_str ?_
    | with_reducible refine wp_eq_bl ?_
    | with_reducible refine wp_ne_bl ?_
    | with_reducible refine wp_int ?_
    | with_reducible refine wp_int_bl ?_
    | with_reducible refine wp_len_tup ?_
    | with_reducible refine wp_tuple_tup ?_
    | with_reducible refine wp_list_tup ?_
    | with_reducible refine wp_itA_tup ?_
    | with_reducible refine wp_itA_str ?_
    | with_reducible refine wp_isN ?_
    | with_reducible refine wp_notN ?_
    | with_reducible refine wp_in_sign ?_
    | with_reducible refine wp_notIn_sign ?_
    | with_reducible refine wp_sl_tup ?_
    | with_reducible refine wp_ok ?_
    | with_reducible refine br_not ?_
    | with_reducible refine wE_callG ?_
    | with_reducible refine wE_makeG ?_
    | with_reducible refine wE_own2 ?_
    | with_reducible refine wE_enumV ?_
    | with_reducible refine wE_zipV ?_
    | with_reducible refine wp_max ?_
    | with_reducible refine wp_listT_tup ?_
    | with_reducible refine wp_listT_lst ?_
    | with_reducible refine wp_enum_tup ?_
    | ((with_reducible apply wE_var); ac_rfl)
    | ((with_reducible apply wp_mod); ac_rfl)
    | ((with_reducible apply wp_div); ac_rfl)
    | ((with_reducible apply wp_mul); ac_rfl)
    | ((with_reducible apply wp_pow); ac_rfl)
    | ((with_reducible apply wp_add_str); ac_rfl)
    | ((with_reducible apply wp_add_tup); ac_rfl)
    | ((with_reducible apply wp_add_lst); ac_rfl; ac_rfl; ac_rfl)
    | ((with_reducible apply wp_len_str); ac_rfl)
    | ((with_reducible apply wp_len); ac_rfl)
    | ((with_reducible apply wp_tuple); ac_rfl)
    | ((with_reducible apply wp_list); ac_rfl)
    | ((with_reducible apply wp_ix_tup); ac_rfl)
    | ((with_reducible apply wp_ix); ac_rfl; ac_rfl)
    | ((with_reducible apply wp_ix_str); ac_rfl; ac_rfl)
    | ((with_reducible apply wp_sl_str); ac_rfl)
    | ((with_reducible apply wp_sl); ac_rfl)
    | ((with_reducible apply wp_itA); ac_rfl)
    | ((with_reducible apply wp_itL); ac_rfl)
    | ((with_reducible apply wp_ran1); ac_rfl; ac_rfl)
    | ((with_reducible apply wp_ran2); ac_rfl; ac_rfl; ac_rfl; ac_rfl)
    | ((with_reducible apply ws_putC); ac_rfl; ac_rfl)
    | ((with_reducible apply wp_fld); ac_rfl; ac_rfl)
    | ((with_reducible apply wp_in); ac_rfl; ac_rfl; ac_rfl)
    | ((with_reducible apply wp_notIn); ac_rfl; ac_rfl; ac_rfl)
    | ((with_reducible apply wp_rev); ac_rfl)
    | ((with_reducible apply wp_listT_str); ac_rfl)
    | ((with_reducible apply wp_enum); ac_rfl)
    | (refine ⟨rfl, rfl, ?_⟩)
    | (refine ⟨_, _, rfl, rfl, ?_⟩)
    | (refine ⟨_, _, rfl, Nat.le_of_ble_eq_true rfl, ?_⟩)
    | (refine ⟨_, _, _, rfl, rfl, ?_⟩)
    | (refine ⟨_, rfl, ?_⟩)
    | (refine ⟨_, _, rfl, ?_⟩)
    | (refine ⟨boxOk_of (by assumption), ?_⟩))
theorem str_ext {x y : Str} (h : x.cps.toList = y.cps.toList) : x = y := by
  cases x; cases y
  congr 1
  exact Array.toList_inj.mp h
def glueL (s : List Nat) : List (List Nat) → List Nat
  | [] => []
  | [x] => x
  | x :: y :: r => x ++ (s ++ glueL s (y :: r))
theorem join_cps (z : Str) : ∀ l : List Str, (Txt.join z l).cps.toList = glueL z.cps.toList (l.map fun w => w.cps.toList) := by
  intro l
  show (Builtin.Str.glued z l).cps.toList = _
  rw [StrLaws.glued_eq_join]
  induction l with
  | nil => rfl
  | cons x r ih =>
    cases r with
    | nil => rfl
    | cons y q =>
      show (x ++ z ++ Str.join z (y :: q)).cps.toList = x.cps.toList ++ (z.cps.toList ++ glueL z.cps.toList ((y :: q).map fun w => w.cps.toList))
      rw [app_list, app_list, ih, List.append_assoc]
/-- a first part without the sign is told by the whole -/
theorem cut_one {c : Nat} : ∀ {x y p q : List Nat}, c ∉ x → c ∉ y → x ++ c :: p = y ++ c :: q → x = y ∧ p = q
  | [], [], p, q, _, _, e => by simpa using e
  | [], b :: y, p, q, _, hy, e => by
    simp only [List.nil_append, List.cons_append, List.cons.injEq] at e
    exact absurd (by rw [← e.1]; exact List.mem_cons_self) hy
  | a :: x, [], p, q, hx, _, e => by
    simp only [List.nil_append, List.cons_append, List.cons.injEq] at e
    exact absurd (by rw [e.1]; exact List.mem_cons_self) hx
  | a :: x, b :: y, p, q, hx, hy, e => by
    simp only [List.cons_append, List.cons.injEq] at e
    obtain ⟨rfl, e⟩ := e
    obtain ⟨e1, e2⟩ := cut_one (fun z => hx (List.mem_cons_of_mem _ z)) (fun z => hy (List.mem_cons_of_mem _ z)) e
    exact ⟨by rw [e1], e2⟩
theorem glue_mem {c : Nat} : ∀ (l : List (List Nat)) (x y : List Nat), c ∈ glueL [c] (x :: y :: l) := fun l x y => by
  simp [glueL]
theorem glue_inj {c : Nat} : ∀ {l m : List (List Nat)}, l ≠ [] → m ≠ [] → (∀ x ∈ l, c ∉ x) → (∀ x ∈ m, c ∉ x) → glueL [c] l = glueL [c] m → l = m
  | [], _, h, _, _, _, _ => absurd rfl h
  | _, [], _, h, _, _, _ => absurd rfl h
  | [x], [y], _, _, _, _, e => by
    have e : x = y := e
    rw [e]
  | [x], y :: z :: r, _, _, hx, _, e => by
    have e : x = _ := e
    exact absurd (by rw [e]; exact glue_mem r y z) (hx x List.mem_cons_self)
  | x :: y :: r, [z], _, _, _, hz, e => by
    have e : _ = z := e
    exact absurd (by rw [← e]; exact glue_mem r x y) (hz z List.mem_cons_self)
  | x :: x2 :: r, y :: y2 :: q, _, _, hx, hy, e => by
    have e : x ++ c :: glueL [c] (x2 :: r) = y ++ c :: glueL [c] (y2 :: q) := e
    obtain ⟨e1, e2⟩ := cut_one (hx x List.mem_cons_self) (hy y List.mem_cons_self) e
    rw [e1, glue_inj (by simp) (by simp) (fun z hz => hx z (List.mem_cons_of_mem _ hz)) (fun z hz => hy z (List.mem_cons_of_mem _ hz)) e2]
theorem split_join (c : Nat) {l : List Str} (h : l ≠ []) (hl : ∀ w ∈ l, c ∉ w.cps.toList) : Txt.split (Txt.join ⟨#[c]⟩ l) ⟨#[c]⟩ = l := by
  have h1 := StrLaws.join_split (Txt.join ⟨#[c]⟩ l) ⟨#[c]⟩
  have h2 := StrLaws.split_free (Txt.join ⟨#[c]⟩ l) c
  have h3 := split_pos (Txt.join ⟨#[c]⟩ l) ⟨#[c]⟩
  revert h1 h2 h3
  generalize Txt.split (Txt.join ⟨#[c]⟩ l) ⟨#[c]⟩ = m
  intro h1 h2 h3
  rw [← StrLaws.glued_eq_join] at h1
  have h1 : Txt.join ⟨#[c]⟩ m = Txt.join ⟨#[c]⟩ l := h1
  have e := congrArg (fun w : Str => w.cps.toList) h1
  simp only [join_cps] at e
  have e2 := glue_inj (c := c) (l := m.map fun w => w.cps.toList) (m := l.map fun w => w.cps.toList) (by intro z; rw [List.map_eq_nil_iff] at z; rw [z] at h3; simp at h3) (by simpa using h)
    (fun x hx => by obtain ⟨w, hw, rfl⟩ := List.mem_map.mp hx; exact h2 w hw) (fun x hx => by obtain ⟨w, hw, rfl⟩ := List.mem_map.mp hx; exact hl w hw) e
  exact (List.map_inj_right (fun a b h => str_ext h)).mp e2
theorem at_one (x : Str) (c i : Nat) : StrLaws.At x ⟨#[c]⟩ x.length i ↔ x.cps.toList[i]? = some c := by
  unfold StrLaws.At
  rw [StrLaws.subAt_eq]
  have hl : x.length = x.cps.toList.length := str_len x
  show i + 1 ≤ x.length ∧ ((x.cps.toList.drop i).take 1 == [c]) = true ↔ _
  rw [hl, beq_iff_eq]
  generalize x.cps.toList = L
  constructor
  · rintro ⟨h1, h2⟩
    have h3 : i < L.length := by omega
    rw [List.drop_eq_getElem_cons h3] at h2
    simp only [List.take_succ_cons, List.take_zero, List.cons.injEq, and_true] at h2
    rw [List.getElem?_eq_getElem h3, h2]
  · intro h
    obtain ⟨h3, h4⟩ := List.getElem?_eq_some_iff.mp h
    refine ⟨by omega, ?_⟩
    rw [List.drop_eq_getElem_cons h3, h4]
    simp
theorem part_at {c : Nat} {a b : Str} (ha : c ∉ a.cps.toList) : Txt.partition (a ++ ⟨#[c]⟩ ++ b) ⟨#[c]⟩ = (a, ⟨#[c]⟩, b) := by
  have hx : (a ++ (⟨#[c]⟩ : Str) ++ b).cps.toList = a.cps.toList ++ c :: b.cps.toList := by
    rw [app_list, app_list]; simp
  generalize hX : a ++ (⟨#[c]⟩ : Str) ++ b = x at hx ⊢
  have la : x.cps.toList[a.cps.toList.length]? = some c := by rw [hx]; simp
  unfold Txt.partition
  rcases StrLaws.occ_head x ⟨#[c]⟩ 1 (Nat.le_refl 1) with ⟨h0, hn⟩ | ⟨i, r, h0, hi, hn⟩
  · exact absurd ((at_one x c _).mpr la) (hn _)
  · rw [h0]
    have h1 : i = a.cps.toList.length := by
      rcases Nat.lt_trichotomy i a.cps.toList.length with h | h | h
      · have h2 := (at_one x c i).mp hi
        rw [hx, List.getElem?_append_left h] at h2
        exact absurd (List.mem_of_getElem? h2) ha
      · exact h
      · exact absurd ((at_one x c _).mpr la) (hn _ h)
    subst h1
    show (Builtin.Str.strSub x 0 _, (⟨#[c]⟩ : Str), Builtin.Str.strSub x (_ + 1) x.length) = _
    have e1 : Builtin.Str.strSub x 0 a.cps.toList.length = a := str_ext (by
      rw [StrLaws.strSub_toList, hx]; simp)
    have e2 : Builtin.Str.strSub x (a.cps.toList.length + 1) x.length = b := str_ext (by
      rw [StrLaws.strSub_toList, str_len, hx]
      generalize a.cps.toList = L
      generalize b.cps.toList = M
      have e : L ++ c :: M = (L ++ [c]) ++ M := by simp
      rw [e, List.drop_left' (by simp)]
      exact List.take_of_length_le (by simp; omega))
    rw [e1, e2]
end Wk

set_option Elab.async false
set_option linter.all false
set_option maxRecDepth 100000
set_option maxHeartbeats 2000000
/-! small facts that the laws on texts and scripts share -/
namespace Wk
open PySem PySem.Spec PyProof.Rows L2 Ev
open Classical
local macro_rules
  | `(tactic| ac_rfl) => `(tactic| (first | rfl | assumption | exact rdlOf_box (by assumption) | omega | exact Nat.le_of_ble_eq_true rfl | exact cmulW _ _ (by omega) (by omega) (by omega) (by omega) | exact cmm (by omega) (by omega) (by omega) (by omega) | exact cdivW _ _ (by omega) (by omega)))
local macro_rules
  | `(tactic| and_intros) => `(tactic| repeat first
    | with_reducible refine wE_bin ?_
    | with_reducible refine wE_un ?_
    | with_reducible refine wE_isTy ?_
    | with_reducible refine wE_call ?_
    | with_reducible refine wE_callF ?_
    | with_reducible refine wE_make ?_
    | with_reducible refine wE_and ?_
    | with_reducible refine wE_or ?_
    | with_reducible refine wE_not ?_
    | with_reducible refine wE_if ?_
    | with_reducible refine wE_tup ?_
    | with_reducible refine wE_lst ?_
    | with_reducible refine wE_dic0 ?_
    | with_reducible refine wE_sl ?_
    | with_reducible refine wE_lm ?_
    | with_reducible refine wE_up ?_
    | with_reducible refine wE_oNone ?_
    | with_reducible refine wE_oSome ?_
    | with_reducible refine wA_nil ?_
    | with_reducible refine wA_cons ?_
    | with_reducible refine wA_consB ?_
    | with_reducible refine wT_of ?_
    | with_reducible refine wT_and ?_
    | with_reducible refine wT_or ?_
    | with_reducible refine wT_not ?_
    | with_reducible refine wT_true ?_
    | with_reducible refine wS_seq ?_
    | with_reducible refine wS_next ?_
    | with_reducible refine wS_brk ?_
    | with_reducible refine wS_cnt ?_
    | with_reducible refine wS_retN ?_
    | with_reducible refine wS_expr ?_
    | with_reducible refine wS_ret ?_
    | with_reducible refine wS_if ?_
    | with_reducible refine wS_set ?_
    | with_reducible refine wS_setB ?_
    | with_reducible refine wS_sub ?_
    | with_reducible refine wS_unp ?_
    | with_reducible refine wS_fld ?_
    | with_reducible refine wS_raise ?_
    | with_reducible refine inBox_new ?_
    | with_reducible refine inBox_d ?_
    | with_reducible refine inBox_box ?_
    | with_reducible refine isB_bl ?_
    | with_reducible refine br_true ?_
    | with_reducible refine br_false ?_
    | with_reducible refine wE_c ?_
    | with_reducible refine wS_for ?_
    | with_reducible refine wE_iOf ?_
    | with_reducible refine wE_iRan1 ?_
    | with_reducible refine wE_iRan2 ?_
    | with_reducible refine wE_lc ?_
    | with_reducible refine wE_lc2 ?_
    | with_reducible refine wE_join ?_
    | with_reducible refine wE_tm ?_
    | with_reducible refine wp_add_int ?_
    | with_reducible refine wp_sub ?_
    | with_reducible refine wp_neg ?_
    | with_reducible refine wp_lt ?_
    | with_reducible refine wp_le ?_
    | with_reducible refine wp_gt ?_
    | with_reducible refine wp_ge ?_
    | with_reducible refine wp_eq_int ?_
    | with_reducible refine wp_ne_int ?_
    | with_reducible refine wp_eq_str ?_
    | with_reducible refine wp_ne_str ?_
    | with_reducible refine wp_eq_bl ?_
    | with_reducible refine wp_ne_bl ?_
    | with_reducible refine wp_int ?_
    | with_reducible refine wp_int_bl ?_
    | with_reducible refine wp_len_tup ?_
    | with_reducible refine wp_tuple_tup ?_
    | with_reducible refine wp_list_tup ?_
    | with_reducible refine wp_itA_tup ?_
    | with_reducible refine wp_itA_str ?_
    | with_reducible refine wp_isN ?_
    | with_reducible refine wp_notN ?_
    | with_reducible refine wp_in_sign ?_
    | with_reducible refine wp_notIn_sign ?_
    | with_reducible refine wp_sl_tup ?_
    | with_reducible refine wp_ok ?_
    | with_reducible refine br_not ?_
    | with_reducible refine wE_callG ?_
    | with_reducible refine wE_makeG ?_
    | with_reducible refine wE_own2 ?_
    | with_reducible refine wE_enumV ?_
    | with_reducible refine wE_zipV ?_
    | with_reducible refine wp_max ?_
    | with_reducible refine wp_listT_tup ?_
    | with_reducible refine wp_listT_lst ?_
    | with_reducible refine wp_enum_tup ?_
    | ((with_reducible apply wE_var); ac_rfl)
    | ((with_reducible apply wp_mod); ac_rfl)
    | ((with_reducible apply wp_div); ac_rfl)
    | ((with_reducible apply wp_mul); ac_rfl)
    | ((with_reducible apply wp_pow); ac_rfl)
    | ((with_reducible apply wp_add_str); ac_rfl)
    | ((with_reducible apply wp_add_tup); ac_rfl)
    | ((with_reducible apply wp_add_lst); ac_rfl; ac_rfl; ac_rfl)
    | ((with_reducible apply wp_len_str); ac_rfl)
    | ((with_reducible apply wp_len); ac_rfl)
    | ((with_reducible apply wp_tuple); ac_rfl)
    | ((with_reducible apply wp_list); ac_rfl)
    | ((with_reducible apply wp_ix_tup); ac_rfl)
    | ((with_reducible apply wp_ix); ac_rfl; ac_rfl)
    | ((with_reducible apply wp_ix_str); ac_rfl; ac_rfl)
    | ((with_reducible apply wp_sl_str); ac_rfl)
    | ((with_reducible apply wp_sl); ac_rfl)
    | ((with_reducible apply wp_itA); ac_rfl)
    | ((with_reducible apply wp_itL); ac_rfl)
    | ((with_reducible apply wp_ran1); ac_rfl; ac_rfl)
    | ((with_reducible apply wp_ran2); ac_rfl; ac_rfl; ac_rfl; ac_rfl)
    | ((with_reducible apply ws_putC); ac_rfl; ac_rfl)
    | ((with_reducible apply wp_fld); ac_rfl; ac_rfl)
    | ((with_reducible apply wp_in); ac_rfl; ac_rfl; ac_rfl)
    | ((with_reducible apply wp_notIn); ac_rfl; ac_rfl; ac_rfl)
    | ((with_reducible apply wp_rev); ac_rfl)
    | ((with_reducible apply wp_listT_str); ac_rfl)
    | ((with_reducible apply wp_enum); ac_rfl)
    | (refine ⟨rfl, rfl, ?_⟩)
    | (refine ⟨_, _, rfl, rfl, ?_⟩)
    | (refine ⟨_, _, rfl, Nat.le_of_ble_eq_true rfl, ?_⟩)
    | (refine ⟨_, _, _, rfl, rfl, ?_⟩)
    | (refine ⟨_, rfl, ?_⟩)
    | (refine ⟨_, _, rfl, ?_⟩)
    | (refine ⟨boxOk_of (by assumption), ?_⟩))
abbrev spS : Str := ⟨#[32]⟩
abbrev gtS : Str := ⟨#[62]⟩
abbrev nlS : Str := ⟨#[10]⟩
theorem sp_eq : (Str.ofString " ") = spS := by decide +kernel
theorem gt_eq : (Str.ofString ">") = gtS := by decide +kernel
theorem nl_eq : (Str.ofString "\n") = nlS := by decide +kernel
theorem glue_flat (s x : List Nat) : ∀ r : List (List Nat), glueL s (x :: r) = x ++ r.flatMap (s ++ ·)
  | [] => by simp [glueL]
  | y :: q => by
    have ih := glue_flat s y q
    show x ++ (s ++ glueL s (y :: q)) = _
    rw [ih]; simp
theorem len_app (x y : Str) : (x ++ y).length = x.length + y.length := by rw [str_len, app_list, List.length_append, ← str_len, ← str_len]
theorem sum_le {α : Type} (f : α → Nat) (k : Nat) : ∀ l : List α, (∀ x ∈ l, f x ≤ k) → (l.map f).sum ≤ k * l.length
  | [], _ => by simp
  | x :: r, h => by
    have h1 := h x List.mem_cons_self
    have h2 := sum_le f k r fun y hy => h y (List.mem_cons_of_mem _ hy)
    simp only [List.map_cons, List.sum_cons, List.length_cons]
    rw [Nat.mul_add]; omega
theorem up_same {B B' : Bx} (h : Up [] B B') : B'.take B.length = B := by
  apply List.ext_getElem?
  intro j
  by_cases hj : j < B.length
  · rw [List.getElem?_take_of_lt hj, h.keep j hj (by simp)]
  · rw [List.getElem?_eq_none (by rw [List.length_take]; omega), List.getElem?_eq_none (by omega)]
theorem up_newB {B B' B'' : Bx} {i : Nat} (h : Up [] B B') (k : Ch [i] B' B'') (hi : B.length ≤ i) : Up [] B B'' := upTo h k fun j hj => by
  rw [List.mem_singleton.mp hj]; exact .inr hi
def dR : D → Str × Str
  | .tup (.str a :: .str b :: _) => (a, b)
  | _ => ("", "")
def dE : D → Ent
  | .tup (.str n :: .bl u :: .tup l :: _) => ⟨n, u, l.map dR⟩
  | _ => ⟨"", true, []⟩
theorem dE_eD (e : Ent) : dE (eD e) = e := by
  show (⟨e.name, e.uq, (e.refs.map rD).map dR⟩ : Ent) = e
  rw [List.map_map]
  have e2 : dR ∘ rD = id := by funext r; rfl
  rw [e2, List.map_id]
theorem map_rD_inj {l m : List (Str × Str)} (h : l.map rD = m.map rD) : l = m := by
  have := congrArg (List.map dR) h
  rw [List.map_map, List.map_map] at this
  have e2 : dR ∘ rD = id := by funext r; rfl
  simpa [e2] using this
theorem map_eD_inj {l m : List Ent} (h : l.map eD = m.map eD) : l = m := by
  have := congrArg (List.map dE) h
  rw [List.map_map, List.map_map] at this
  have e2 : dE ∘ eD = id := by funext r; exact dE_eD r
  simpa [e2] using this
theorem word_no {w : Str} (W : Word w) {c : Nat} (hc : c ∉ ltrs.cps.toList) : c ∉ w.cps.toList := fun z => hc (W.ch c z)
theorem gt_no : (62 : Nat) ∉ ltrs.cps.toList := by decide +kernel
theorem sp_no : (32 : Nat) ∉ ltrs.cps.toList := by decide +kernel
theorem nl_no : (10 : Nat) ∉ ltrs.cps.toList := by decide +kernel
theorem ltr_ok : ∀ c ∈ ltrs.cps.toList, c < 0x110000 := by decide +kernel
theorem word_strOk {w : Str} (W : Word w) : PyData.strOk w = true := strOk_iff.mpr fun c hc => ltr_ok c (W.ch c hc)
theorem cut_two (l : List D) : cut l (some 2) none = l.drop 2 := by
  have e : (some (2 : Int)) = some ((2 : Nat) : Int) := rfl
  unfold cut
  rw [e, HT.sIx_nat, HT.sIx_none]
  by_cases h : 2 ≤ l.length
  · rw [Nat.min_eq_left h]
    exact List.take_of_length_le (by simp)
  · rw [Nat.min_eq_right (by omega), List.drop_eq_nil_of_le (Nat.le_refl _), List.drop_eq_nil_of_le (by omega)]
    simp
theorem glue_ok {s : List Nat} (hs : ∀ c ∈ s, c < 0x110000) : ∀ l : List (List Nat), (∀ x ∈ l, ∀ c ∈ x, c < 0x110000) → ∀ c ∈ glueL s l, c < 0x110000
  | [], _, c, hc => by cases hc
  | x :: r, h, c, hc => by
    rw [glue_flat] at hc
    rcases List.mem_append.mp hc with hc | hc
    · exact h x List.mem_cons_self c hc
    · obtain ⟨y, hy, hc⟩ := List.mem_flatMap.mp hc
      rcases List.mem_append.mp hc with hc | hc
      · exact hs c hc
      · exact h y (List.mem_cons_of_mem _ hy) c hc
def eqDl : List D → List D → Bool
  | [], [] => true
  | x :: r, y :: q => eqD x y && eqDl r q
  | _, _ => false
theorem eqvAll_l : ∀ l m : List D, PyData.eqvAll (toPys l) (toPys m) = eqDl l m
  | [], [] => rfl
  | [], _ :: _ => rfl
  | _ :: _, [] => rfl
  | x :: r, y :: q => by
    have ih := eqvAll_l r q
    show (PyData.eqv (toPy x) (toPy y) && PyData.eqvAll (toPys r) (toPys q)) = _
    rw [ih]; rfl
theorem eqD_tup (l m : List D) : eqD (.tup l) (.tup m) = eqDl l m := eqvAll_l l m
theorem eqDl_map {α : Type} (f : α → D) (h : ∀ a b, eqD (f a) (f b) = decide (a = b)) : ∀ l m : List α, eqDl (l.map f) (m.map f) = decide (l = m)
  | [], [] => by simp [eqDl]
  | [], _ :: _ => by simp [eqDl]
  | _ :: _, [] => by simp [eqDl]
  | x :: r, y :: q => by
    have ih := eqDl_map f h r q
    show (eqD (f x) (f y) && eqDl (r.map f) (q.map f)) = _
    rw [ih, h]
    by_cases h1 : x = y <;> by_cases h2 : r = q <;> simp [h1, h2]
theorem eqD_rD (a b : Str × Str) : eqD (rD a) (rD b) = decide (a = b) := by
  unfold rD
  rw [eqD_tup]
  show (eqD (.str a.1) (.str b.1) && (eqD (.str a.2) (.str b.2) && true)) = _
  rw [eqD_str, eqD_str]
  cases a; cases b
  simp only [Prod.mk.injEq]
  rename_i a1 a2 b1 b2
  by_cases h1 : a1 = b1 <;> by_cases h2 : a2 = b2 <;> simp [h1, h2]
theorem eqD_eD (a b : Ent) : eqD (eD a) (eD b) = decide (a = b) := by
  unfold eD
  rw [eqD_tup]
  show (eqD (.str a.name) (.str b.name) && (eqD (.bl a.uq) (.bl b.uq) && (eqD (.tup (a.refs.map rD)) (.tup (b.refs.map rD)) && true))) = _
  rw [eqD_str, eqD_bl, eqD_tup, eqDl_map rD (fun x y => (eqD_rD x y).trans (by congr))]
  cases a; cases b
  simp only [Ent.mk.injEq]
  rename_i a1 a2 a3 b1 b2 b3
  by_cases h1 : a1 = b1 <;> by_cases h2 : a2 = b2 <;> by_cases h3 : a3 = b3 <;> simp [h1, h2, h3]
theorem eqD_plan (p q : List Ent) : eqD (planD p) (planD q) = decide (p = q) := by
  unfold planD
  rw [eqD_tup, eqDl_map eD (fun x y => (eqD_eD x y).trans (by congr))]
theorem getApp {α : Type} {P : List α} {i : Nat} {x y : α} (h : P[i]? = some x) : (P ++ [y])[i]? = some x := by
  rw [List.getElem?_append_left (List.getElem?_eq_some_iff.mp h).1]; exact h
theorem cut_map {α β : Type} (f : α → β) (l : List α) (lo hi : Option Int) : cut (l.map f) lo hi = (cut l lo hi).map f := by
  unfold cut
  rw [List.length_map, List.map_take, List.map_drop]
section
variable {P : List Ob} {B : Bx} {i j : Nat} {p q : List Ent} {e : Ent} {names : List Str} {ns : List Int} {Q : Vl → Sta → Prop} {X : XP}
theorem fin_same {B' : Bx} {x : D} (u : Up [] B B') (k : Q (.d x) ⟨P, B⟩) : wp (fin B.length (.ret (.d x) ⟨P, B'⟩)) Q X := by
  refine wp_finD ?_
  show Q (.d x) ⟨P, B'.take B.length⟩
  rw [up_same u]; exact k
theorem tables_m (o : P[i]? = some (schO p)) (k : Q (.d (planD p)) ⟨P, B⟩) : wp (F_Schema_tables [.d (.obj i)] ⟨P, B⟩) Q X := by
  unfold F_Schema_tables
  refine wp_fn rfl ?_
  unfold t_Schema_tables
  and_intros
  exact fin_same .refl k
theorem tables_e {T : EV} {σ : Sl} (o : P[i]? = some (schO p)) (h : wE T σ ⟨P, B⟩ (fun v S1 => v = .d (.obj i) ∧ S1 = ⟨P, B⟩) X) (k : Q (.d (planD p)) ⟨P, B⟩) : wE (eMeth "Schema" "tables" F_Schema_tables [] T aNil) σ ⟨P, B⟩ Q X := by
  refine wE_meth (wp_monoQ h ?_)
  rintro v S ⟨rfl, rfl⟩
  refine ⟨ins_of (fs := [("plan", planD p)]) o (by rfl), ?_⟩
  and_intros
  exact tables_m o k
theorem wp_isT {tab : Ty → Option Bool} {v : Vl} {S : Sta} {t : Ty} {b : Bool} {Q : Vl → Sta → Prop} (h1 : tyV v S = some t) (h2 : tab t = some b) (k : Q (.d (.bl b)) S) : wp (isTF tab v S) Q X := by
  unfold isTF; rw [h1]; show wp (match tab t with
    | some b => .ok (.d (.bl b)) S
    | none => .bad) Q X
  rw [h2]; exact k
theorem eq_wp (o : P[i]? = some (schO p)) (o2 : P[j]? = some (schO q)) (k : Q (.d (.bl (decide (p = q)))) ⟨P, B⟩) : wp (F_Schema_eq [.d (.obj i), .d (.obj j)] ⟨P, B⟩) Q X := by
  unfold F_Schema_eq
  refine wp_fn rfl ?_
  unfold t_Schema_eq
  and_intros
  refine wp_isT (tyV_of (fs := [("plan", planD q)]) o2) (b := true) (by decide) ?_
  and_intros
  refine wp_eq_d rfl rfl (okD_plan 56 p) (okD_plan 56 q) ?_
  rw [eqD_plan]
  exact fin_same .refl k
theorem store_wp {c : Int} (k : ∀ a m : Int, 0 ≤ m → m < 2147483629 → Q (.new [.int a, .int m, .int 0]) ⟨P, B⟩) : wp (F__law_store [.d (.int c)] ⟨P, B⟩) Q X := by
  unfold F__law_store
  refine wp_fn rfl ?_
  unfold t__law_store
  and_intros
  refine wp_pow ⟨by omega, by omega, by decide⟩ ?_
  and_intros
  refine wp_finN ?_
  rw [cutB_id (Nat.le_refl _)]
  exact k _ _ (Int.emod_nonneg _ (by omega)) (Int.emod_lt_of_pos _ (by omega))
theorem cell_at_wp {k0 : Int} (h0 : 0 ≤ k0) (k : ∀ c : Int, Q (.d (.int c)) ⟨P, B⟩) : wp (F__law_cell_at [.d (.scr (ns.map D.int)), .d (.int k0)] ⟨P, B⟩) Q X := by
  unfold F__law_cell_at
  refine wp_fn rfl ?_
  and_intros
  refine br_dec (fun h => ?_) (fun h => ?_)
  · obtain ⟨x, x1, x2⟩ := atI_of (ns.map D.int) k0 h0 h
    obtain ⟨c, _, rfl⟩ := List.mem_map.mp x2
    and_intros
    exact fin_same .refl (k c)
  · and_intros
    exact fin_same .refl (k 0)
end
end Wk

set_option Elab.async false
set_option linter.all false
set_option maxRecDepth 100000
set_option maxHeartbeats 2000000
/-! texts put together with a separator of two signs -/
namespace Wk
open PySem PySem.Spec PyProof.Rows L2 Ev
open Classical
local macro_rules
  | `(tactic| ac_rfl) => `(tactic| (first | rfl | assumption | exact rdlOf_box (by assumption) | omega | exact Nat.le_of_ble_eq_true rfl | exact cmulW _ _ (by omega) (by omega) (by omega) (by omega) | exact cmm (by omega) (by omega) (by omega) (by omega) | exact cdivW _ _ (by omega) (by omega)))
local macro_rules
  | `(tactic| and_intros) => `(tactic| repeat first
    | with_reducible refine wE_bin ?_
    | with_reducible refine wE_un ?_
    | with_reducible refine wE_isTy ?_
    | with_reducible refine wE_call ?_
    | with_reducible refine wE_callF ?_
    | with_reducible refine wE_make ?_
    | with_reducible refine wE_and ?_
    | with_reducible refine wE_or ?_
    | with_reducible refine wE_not ?_
    | with_reducible refine wE_if ?_
    | with_reducible refine wE_tup ?_
    | with_reducible refine wE_lst ?_
    | with_reducible refine wE_dic0 ?_
    | with_reducible refine wE_sl ?_
    | with_reducible refine wE_lm ?_
    | with_reducible refine wE_up ?_
    | with_reducible refine wE_oNone ?_
    | with_reducible refine wE_oSome ?_
    | with_reducible refine wA_nil ?_
    | with_reducible refine wA_cons ?_
    | with_reducible refine wA_consB ?_
    | with_reducible refine wT_of ?_
    | with_reducible refine wT_and ?_
    | with_reducible refine wT_or ?_
    | with_reducible refine wT_not ?_
    | with_reducible refine wT_true ?_
    | with_reducible refine wS_seq ?_
    | with_reducible refine wS_next ?_
    | with_reducible refine wS_brk ?_
    | with_reducible refine wS_cnt ?_
    | with_reducible refine wS_retN ?_
    | with_reducible refine wS_expr ?_
    | with_reducible refine wS_ret ?_
    | with_reducible refine wS_if ?_
    | with_reducible refine wS_set ?_
    | with_reducible refine wS_setB ?_
    | with_reducible refine wS_sub ?_
    | with_reducible refine wS_unp ?_
    | with_reducible refine wS_fld ?_
    | with_reducible refine wS_raise ?_
    | with_reducible refine inBox_new ?_
    | with_reducible refine inBox_d ?_
    | with_reducible refine inBox_box ?_
    | with_reducible refine isB_bl ?_
    | with_reducible refine br_true ?_
    | with_reducible refine br_false ?_
    | with_reducible refine wE_c ?_
    | with_reducible refine wS_for ?_
    | with_reducible refine wE_iOf ?_
    | with_reducible refine wE_iRan1 ?_
    | with_reducible refine wE_iRan2 ?_
    | with_reducible refine wE_lc ?_
    | with_reducible refine wE_lc2 ?_
    | with_reducible refine wE_join ?_
    | with_reducible refine wE_tm ?_
    | with_reducible refine wp_add_int ?_
    | with_reducible refine wp_sub ?_
    | with_reducible refine wp_neg ?_
    | with_reducible refine wp_lt ?_
    | with_reducible refine wp_le ?_
    | with_reducible refine wp_gt ?_
    | with_reducible refine wp_ge ?_
    | with_reducible refine wp_eq_int ?_
    | with_reducible refine wp_ne_int ?_
    | with_reducible refine wp_eq_str ?_
    | with_reducible refine wp_ne_str ?_
    | with_reducible refine wp_eq_bl ?_
    | with_reducible refine wp_ne_bl ?_
    | with_reducible refine wp_int ?_
    | with_reducible refine wp_int_bl ?_
    | with_reducible refine wp_len_tup ?_
    | with_reducible refine wp_tuple_tup ?_
    | with_reducible refine wp_list_tup ?_
    | with_reducible refine wp_itA_tup ?_
    | with_reducible refine wp_itA_str ?_
    | with_reducible refine wp_isN ?_
    | with_reducible refine wp_notN ?_
    | with_reducible refine wp_in_sign ?_
    | with_reducible refine wp_notIn_sign ?_
    | with_reducible refine wp_sl_tup ?_
    | with_reducible refine wp_ok ?_
    | with_reducible refine br_not ?_
    | with_reducible refine wE_callG ?_
    | with_reducible refine wE_makeG ?_
    | with_reducible refine wE_own2 ?_
    | with_reducible refine wE_enumV ?_
    | with_reducible refine wE_zipV ?_
    | with_reducible refine wp_max ?_
    | with_reducible refine wp_listT_tup ?_
    | with_reducible refine wp_listT_lst ?_
    | with_reducible refine wp_enum_tup ?_
    | ((with_reducible apply wE_var); ac_rfl)
    | ((with_reducible apply wp_mod); ac_rfl)
    | ((with_reducible apply wp_div); ac_rfl)
    | ((with_reducible apply wp_mul); ac_rfl)
    | ((with_reducible apply wp_pow); ac_rfl)
    | ((with_reducible apply wp_add_str); ac_rfl)
    | ((with_reducible apply wp_add_tup); ac_rfl)
    | ((with_reducible apply wp_add_lst); ac_rfl; ac_rfl; ac_rfl)
    | ((with_reducible apply wp_len_str); ac_rfl)
    | ((with_reducible apply wp_len); ac_rfl)
    | ((with_reducible apply wp_tuple); ac_rfl)
    | ((with_reducible apply wp_list); ac_rfl)
    | ((with_reducible apply wp_ix_tup); ac_rfl)
    | ((with_reducible apply wp_ix); ac_rfl; ac_rfl)
    | ((with_reducible apply wp_ix_str); ac_rfl; ac_rfl)
    | ((with_reducible apply wp_sl_str); ac_rfl)
    | ((with_reducible apply wp_sl); ac_rfl)
    | ((with_reducible apply wp_itA); ac_rfl)
    | ((with_reducible apply wp_itL); ac_rfl)
    | ((with_reducible apply wp_ran1); ac_rfl; ac_rfl)
    | ((with_reducible apply wp_ran2); ac_rfl; ac_rfl; ac_rfl; ac_rfl)
    | ((with_reducible apply ws_putC); ac_rfl; ac_rfl)
    | ((with_reducible apply wp_fld); ac_rfl; ac_rfl)
    | ((with_reducible apply wp_in); ac_rfl; ac_rfl; ac_rfl)
    | ((with_reducible apply wp_notIn); ac_rfl; ac_rfl; ac_rfl)
    | ((with_reducible apply wp_rev); ac_rfl)
    | ((with_reducible apply wp_listT_str); ac_rfl)
    | ((with_reducible apply wp_enum); ac_rfl)
    | (refine ⟨rfl, rfl, ?_⟩)
    | (refine ⟨_, _, rfl, rfl, ?_⟩)
    | (refine ⟨_, _, rfl, Nat.le_of_ble_eq_true rfl, ?_⟩)
    | (refine ⟨_, _, _, rfl, rfl, ?_⟩)
    | (refine ⟨_, rfl, ?_⟩)
    | (refine ⟨_, _, rfl, ?_⟩)
    | (refine ⟨boxOk_of (by assumption), ?_⟩))
section
open StrLaws Builtin.Str
theorem piece_clear (x y : Str) (hy : 1 ≤ y.length) (a b : Nat) (hb : b ≤ x.length) (hn : ∀ k, a ≤ k → k < b → ¬ At x y x.length k) (k : Nat) : ¬ At (strSub x a b) y (strSub x a b).length k := by
  rintro ⟨h1, h2⟩
  have hx : x.length = x.cps.toList.length := str_len x
  have hs : (strSub x a b).length ≤ b - a := by
    rw [str_len, strSub_toList, List.length_take]; omega
  refine hn (a + k) (by omega) (by omega) ⟨by omega, ?_⟩
  rw [subAt_eq, strSub_toList, beq_iff_eq] at h2
  rw [subAt_eq, beq_iff_eq, ← h2, List.drop_take, List.take_take, List.drop_drop]
  congr 1
  omega
theorem pieces_clear (x y : Str) (hy : 1 ≤ y.length) : ∀ (cuts : List Nat) (a f : Nat), ChainG x y x.length a cuts f → (∀ k, f ≤ k → ¬ At x y x.length k) → ∀ p ∈ partsFrom x y.length a cuts, ∀ k, ¬ At p y p.length k
  | [], a, f, h, hn, p, hp => by
    have e : f = a := h
    subst e
    rw [List.mem_singleton.mp hp]
    exact piece_clear x y hy f x.length (Nat.le_refl _) fun k h1 _ => hn k h1
  | d :: r, a, f, h, hn, p, hp => by
    rcases List.mem_cons.mp hp with rfl | hp'
    · exact piece_clear x y hy a d (by have := h.2.1.1; omega) h.2.2.1
    · exact pieces_clear x y hy r _ f h.2.2.2 hn p hp'
theorem split_clear (x y : Str) (hy : 1 ≤ y.length) (hk : ∀ z, ¬ Builtin.Str.strKind z < Builtin.Str.strKind y) : ∀ p ∈ Txt.split x y, ∀ k, ¬ At p y p.length k := by
  obtain ⟨f, hG, hn⟩ := occ_tight x y hy
  unfold Txt.split
  split
  · rename_i hc
    intro p hp k hA
    rw [List.mem_singleton.mp hp] at hA
    rw [Bool.or_eq_true, decide_eq_true_eq, decide_eq_true_eq] at hc
    rcases hc with h | h
    · have := hA.1; omega
    · exact hk x h
  · split
    · rename_i he
      intro p hp
      rw [List.mem_singleton.mp hp]
      have e0 : occurrences x y 0 x.length (x.length + 1) = [] := List.isEmpty_iff.mp he
      rw [e0] at hG
      have ef : f = 0 := hG
      subst ef
      have w := piece_clear x y hy 0 x.length (Nat.le_refl _) fun k h1 _ => hn k h1
      rw [sub_whole] at w
      exact w
    · rw [partsBetween_eq]
      exact pieces_clear x y hy _ 0 f hG hn
end
/-- the two signs do not stand in it -/
def NoTwo (c d : Nat) (y : List Nat) : Prop := ∀ u v, y ≠ u ++ c :: d :: v
theorem cut_two_signs {c d : Nat} (hcd : c ≠ d) : ∀ {x y p q : List Nat}, c ∉ x → NoTwo c d y → x ++ c :: d :: p = y ++ c :: d :: q → x = y ∧ p = q
  | [], [], p, q, _, _, e => by simpa using e
  | [], [b], p, q, _, _, e => by
    simp only [List.nil_append, List.cons_append, List.cons.injEq] at e
    exact absurd e.2.1.symm hcd
  | [], b :: b2 :: y, p, q, _, hy, e => by
    simp only [List.nil_append, List.cons_append, List.cons.injEq] at e
    exact absurd (by rw [← e.1, ← e.2.1]; rfl) (hy [] y)
  | a :: x, [], p, q, hx, _, e => by
    simp only [List.nil_append, List.cons_append, List.cons.injEq] at e
    exact absurd (by rw [e.1]; exact List.mem_cons_self) hx
  | a :: x, b :: y, p, q, hx, hy, e => by
    simp only [List.cons_append, List.cons.injEq] at e
    obtain ⟨rfl, e⟩ := e
    obtain ⟨e1, e2⟩ := cut_two_signs hcd (fun z => hx (List.mem_cons_of_mem _ z)) (fun u v z => hy (a :: u) v (by rw [z]; rfl)) e
    exact ⟨by rw [e1], e2⟩
theorem glue_two {c d : Nat} (hcd : c ≠ d) : ∀ {l m : List (List Nat)}, l ≠ [] → m ≠ [] → (∀ x ∈ l, c ∉ x) → (∀ x ∈ m, NoTwo c d x) → glueL [c, d] l = glueL [c, d] m → l = m
  | [], _, h, _, _, _, _ => absurd rfl h
  | _, [], _, h, _, _, _ => absurd rfl h
  | [x], [y], _, _, _, _, e => by
    have e : x = y := e
    rw [e]
  | [x], y :: z :: r, _, _, hx, _, e => by
    have e : x = y ++ c :: d :: glueL [c, d] (z :: r) := e
    exact absurd (by rw [e]; simp) (hx x List.mem_cons_self)
  | x :: y :: r, [z], _, _, _, hz, e => by
    have e : x ++ c :: d :: glueL [c, d] (y :: r) = z := e
    exact absurd e.symm (hz z List.mem_cons_self x _)
  | x :: x2 :: r, y :: y2 :: q, _, _, hx, hy, e => by
    have e : x ++ c :: d :: glueL [c, d] (x2 :: r) = y ++ c :: d :: glueL [c, d] (y2 :: q) := e
    obtain ⟨e1, e2⟩ := cut_two_signs hcd (hx x List.mem_cons_self) (hy y List.mem_cons_self) e
    rw [e1, glue_two hcd (by simp) (by simp) (fun z hz => hx z (List.mem_cons_of_mem _ hz)) (fun z hz => hy z (List.mem_cons_of_mem _ hz)) e2]
abbrev smS : Str := ⟨#[59, 32]⟩
theorem sm_eq : (Str.ofString "; ") = smS := by decide +kernel
theorem kind_low (z : Str) : ¬ Builtin.Str.strKind z < Builtin.Str.strKind smS := by
  have e : Builtin.Str.strKind smS = 0 ∨ Builtin.Str.strKind smS = 1 := by decide +kernel
  rcases e with e | e
  · rw [e]; omega
  · rw [e]
    unfold Builtin.Str.strKind
    repeat' split
    all_goals omega
theorem no_two {p : Str} (h : ∀ k, ¬ StrLaws.At p smS p.length k) : NoTwo 59 32 p.cps.toList := fun u v e => by
  refine h u.length ⟨?_, ?_⟩
  · have hp : p.length = (u ++ 59 :: 32 :: v).length := by rw [str_len, e]
    show u.length + 2 ≤ p.length
    rw [hp]; simp
  · rw [StrLaws.subAt_eq, beq_iff_eq, e]
    show ((u ++ 59 :: 32 :: v).drop u.length).take 2 = [59, 32]
    rw [List.drop_left]; rfl
theorem split_join_two {l : List Str} (h : l ≠ []) (hl : ∀ w ∈ l, (59 : Nat) ∉ w.cps.toList) : Txt.split (Txt.join smS l) smS = l := by
  have h1 := StrLaws.join_split (Txt.join smS l) smS
  have h2 := split_clear (Txt.join smS l) smS (by decide) kind_low
  have h3 := split_pos (Txt.join smS l) smS
  revert h1 h2 h3
  generalize Txt.split (Txt.join smS l) smS = m
  intro h1 h2 h3
  rw [← StrLaws.glued_eq_join] at h1
  have h1 : Txt.join smS m = Txt.join smS l := h1
  have e := congrArg (fun w : Str => w.cps.toList) h1
  simp only [join_cps] at e
  have e2 := glue_two (c := 59) (d := 32) (by decide) (m := m.map fun w => w.cps.toList) (l := l.map fun w => w.cps.toList) (by simpa using h) (by intro z; rw [List.map_eq_nil_iff] at z; rw [z] at h3; simp at h3)
    (fun x hx => by obtain ⟨w, hw, rfl⟩ := List.mem_map.mp hx; exact hl w hw) (fun x hx => by obtain ⟨w, hw, rfl⟩ := List.mem_map.mp hx; exact no_two (h2 w hw)) e.symm
  exact ((List.map_inj_right (fun a b h => str_ext h)).mp e2).symm
end Wk

set_option Elab.async false
set_option linter.all false
set_option maxRecDepth 100000
set_option maxHeartbeats 2000000
/-! steps, scripts: what the program asks of them -/
namespace Wk
open PySem PySem.Spec PyProof.Rows L2 Ev
open Classical
local macro_rules
  | `(tactic| ac_rfl) => `(tactic| (first | rfl | assumption | exact rdlOf_box (by assumption) | omega | exact Nat.le_of_ble_eq_true rfl | exact cmulW _ _ (by omega) (by omega) (by omega) (by omega) | exact cmm (by omega) (by omega) (by omega) (by omega) | exact cdivW _ _ (by omega) (by omega) | (simp only [len_app]; omega)))
local macro_rules
  | `(tactic| and_intros) => `(tactic| repeat first
    | with_reducible refine wE_meth ?_
    | with_reducible refine wE_bin ?_
    | with_reducible refine wE_un ?_
    | with_reducible refine wE_isTy ?_
    | with_reducible refine wE_call ?_
    | with_reducible refine wE_callF ?_
    | with_reducible refine wE_make ?_
    | with_reducible refine wE_and ?_
    | with_reducible refine wE_or ?_
    | with_reducible refine wE_not ?_
    | with_reducible refine wE_if ?_
    | with_reducible refine wE_tup ?_
    | with_reducible refine wE_lst ?_
    | with_reducible refine wE_dic0 ?_
    | with_reducible refine wE_sl ?_
    | with_reducible refine wE_lm ?_
    | with_reducible refine wE_up ?_
    | with_reducible refine wE_oNone ?_
    | with_reducible refine wE_oSome ?_
    | with_reducible refine wA_nil ?_
    | with_reducible refine wA_cons ?_
    | with_reducible refine wA_consB ?_
    | with_reducible refine wT_of ?_
    | with_reducible refine wT_and ?_
    | with_reducible refine wT_or ?_
    | with_reducible refine wT_not ?_
    | with_reducible refine wT_true ?_
    | with_reducible refine wS_seq ?_
    | with_reducible refine wS_next ?_
    | with_reducible refine wS_brk ?_
    | with_reducible refine wS_cnt ?_
    | with_reducible refine wS_retN ?_
    | with_reducible refine wS_expr ?_
    | with_reducible refine wS_ret ?_
    | with_reducible refine wS_if ?_
    | with_reducible refine wS_set ?_
    | with_reducible refine wS_setB ?_
    | with_reducible refine wS_sub ?_
    | with_reducible refine wS_unp ?_
    | with_reducible refine wS_fld ?_
    | with_reducible refine wS_raise ?_
    | with_reducible refine inBox_new ?_
    | with_reducible refine inBox_d ?_
    | with_reducible refine inBox_box ?_
    | with_reducible refine isB_bl ?_
    | with_reducible refine br_true ?_
    | with_reducible refine br_false ?_
    | with_reducible refine wE_c ?_
    | with_reducible refine wS_for ?_
    | with_reducible refine wE_iOf ?_
    | with_reducible refine wE_iRan1 ?_
    | with_reducible refine wE_iRan2 ?_
    | with_reducible refine wE_lc ?_
    | with_reducible refine wE_lc2 ?_
    | with_reducible refine wE_join ?_
    | with_reducible refine wE_tm ?_
    | with_reducible refine wp_add_int ?_
    | with_reducible refine wp_sub ?_
    | with_reducible refine wp_neg ?_
    | with_reducible refine wp_lt ?_
    | with_reducible refine wp_le ?_
    | with_reducible refine wp_gt ?_
    | with_reducible refine wp_ge ?_
    | with_reducible refine wp_eq_int ?_
    | with_reducible refine wp_ne_int ?_
    | with_reducible refine wp_eq_str ?_
    | with_reducible refine wp_ne_str ?_
    | with_reducible refine wp_eq_bl ?_
    | with_reducible refine wp_ne_bl ?_
    | with_reducible refine wp_int ?_
    | with_reducible refine wp_int_bl ?_
    | with_reducible refine wp_len_tup ?_
    | with_reducible refine wp_tuple_tup ?_
    | with_reducible refine wp_list_tup ?_
    | with_reducible refine wp_itA_tup ?_
    | with_reducible refine wp_itA_str ?_
    | with_reducible refine wp_isN ?_
    | with_reducible refine wp_notN ?_
    | with_reducible refine wp_in_sign ?_
    | with_reducible refine wp_notIn_sign ?_
    | with_reducible refine wp_sl_tup ?_
    | with_reducible refine wp_ok ?_
    | with_reducible refine br_not ?_
    | with_reducible refine wE_callG ?_
    | with_reducible refine wE_makeG ?_
    | with_reducible refine wE_own2 ?_
    | with_reducible refine wE_enumV ?_
    | with_reducible refine wE_zipV ?_
    | with_reducible refine wp_max ?_
    | with_reducible refine wp_listT_tup ?_
    | with_reducible refine wp_listT_lst ?_
    | with_reducible refine wp_enum_tup ?_
    | ((with_reducible apply wE_var); ac_rfl)
    | ((with_reducible apply wp_mod); ac_rfl)
    | ((with_reducible apply wp_div); ac_rfl)
    | ((with_reducible apply wp_mul); ac_rfl)
    | ((with_reducible apply wp_pow); ac_rfl)
    | ((with_reducible apply wp_add_str); ac_rfl)
    | ((with_reducible apply wp_add_tup); ac_rfl)
    | ((with_reducible apply wp_add_lst); ac_rfl; ac_rfl; ac_rfl)
    | ((with_reducible apply wp_len_str); ac_rfl)
    | ((with_reducible apply wp_len); ac_rfl)
    | ((with_reducible apply wp_tuple); ac_rfl)
    | ((with_reducible apply wp_list); ac_rfl)
    | ((with_reducible apply wp_ix_tup); ac_rfl)
    | ((with_reducible apply wp_ix); ac_rfl; ac_rfl)
    | ((with_reducible apply wp_ix_str); ac_rfl; ac_rfl)
    | ((with_reducible apply wp_sl_str); ac_rfl)
    | ((with_reducible apply wp_sl); ac_rfl)
    | ((with_reducible apply wp_itA); ac_rfl)
    | ((with_reducible apply wp_itL); ac_rfl)
    | ((with_reducible apply wp_ran1); ac_rfl; ac_rfl)
    | ((with_reducible apply wp_ran2); ac_rfl; ac_rfl; ac_rfl; ac_rfl)
    | ((with_reducible apply ws_putC); ac_rfl; ac_rfl)
    | ((with_reducible apply wp_fld); ac_rfl; ac_rfl)
    | ((with_reducible apply wp_in); ac_rfl; ac_rfl; ac_rfl)
    | ((with_reducible apply wp_notIn); ac_rfl; ac_rfl; ac_rfl)
    | ((with_reducible apply wp_rev); ac_rfl)
    | ((with_reducible apply wp_listT_str); ac_rfl)
    | ((with_reducible apply wp_enum); ac_rfl)
    | (refine ⟨rfl, rfl, ?_⟩)
    | (refine ⟨_, _, rfl, rfl, ?_⟩)
    | (refine ⟨_, _, rfl, Nat.le_of_ble_eq_true rfl, ?_⟩)
    | (refine ⟨_, _, _, rfl, rfl, ?_⟩)
    | (refine ⟨_, rfl, ?_⟩)
    | (refine ⟨_, _, rfl, ?_⟩)
    | (refine ⟨boxOk_of (by assumption), ?_⟩)
    | ((apply And.intro); focus (apply ins_of; assumption; rfl))
    | (refine ⟨boxOk_of getP, ?_⟩)
    | (refine br_decT rfl ?_)
    | (refine br_decF (by omega) ?_)
    | (refine br_decT (by omega) ?_)
    | (refine br_decF (by (simp; done)) ?_)
    | (refine br_decF (by decide +kernel) ?_))
inductive Stp where
  | load (t pol : Str) (m : Bool)
  | chg (kd t c : Str)
def stD : Stp → D
  | .load t pol m => .tup [.str "load", .str t, .str pol, .bl m]
  | .chg kd t c => .tup [.str kd, .str t, .str c]
abbrev pols : List Str := ["raw", "blank", "refuse"]
abbrev chgs : List Str := ["patch", "fill", "sweep"]
def StpOk (p : List Ent) : Stp → Prop
  | .load t pol _ => t ∈ p.map (·.name) ∧ pol ∈ pols
  | .chg kd t c => kd ∈ chgs ∧ ∃ e ∈ p, e.name = t ∧ c ∈ e.refs.map (·.1)
theorem nd_inj {α β : Type} {f : α → β} : ∀ {l : List α} {x y : α}, (l.map f).Nodup → x ∈ l → y ∈ l → f x = f y → x = y
  | a :: r, x, y, nd, hx, hy, e => by
    rw [List.map_cons, List.nodup_cons] at nd
    rcases List.mem_cons.mp hx with e1 | h1
    · rcases List.mem_cons.mp hy with e2 | h2
      · rw [e1, e2]
      · exact absurd (List.mem_map.mpr ⟨y, h2, by rw [← e, e1]⟩) nd.1
    · rcases List.mem_cons.mp hy with e2 | h2
      · exact absurd (List.mem_map.mpr ⟨x, h1, by rw [e, e2]⟩) nd.1
      · exact nd_inj nd.2 h1 h2 e
section
variable {P : List Ob} {B : Bx} {i j : Nat} {p q : List Ent} {e : Ent} {t c : Str} {Q : Vl → Sta → Prop} {X : XP}
theorem is_flag_wp {b : Bool} (k : Q (.d (.bl true)) ⟨P, B⟩) : wp (F_is_flag [.d (.bl b)] ⟨P, B⟩) Q X := by
  unfold F_is_flag
  refine wp_fn rfl ?_
  unfold t_is_flag
  cases b
  · exact fin_same (X := X) (x := .bl true) .refl k
  · exact fin_same (X := X) (x := .bl true) .refl k
theorem has_table_wp (o : P[i]? = some (schO p)) (h : PlanOk 5 3 p) (ht : t ∈ p.map (·.name)) (k : Q (.d (.bl true)) ⟨P, B⟩) : wp (F_has_table [.d (.obj i), .d (.str t)] ⟨P, B⟩) Q X := by
  have hp := h.hi
  unfold F_has_table
  refine wp_fn rfl ?_
  and_intros
  refine tables_m o ?_
  and_intros
  refine wLoop_map hd0 rfl (fun x hx => ?_) (by simp; unfold sizeLine; omega) ?_
  · obtain ⟨e, he, rfl⟩ := List.mem_map.mp hx
    refine ⟨_, rfl, ?_⟩
    and_intros
    refine ⟨rfl, ?_⟩
    and_intros
    rfl
  rw [hd0_eq]
  refine wp_of (inF_lst t _ _) ?_
  rw [decide_eq_true ht]
  exact fin_same .refl k
theorem found_wp (o : P[i]? = some (schO p)) (h : PlanOk 5 3 p) (he : e ∈ p) (k : Q (.d (eD e)) ⟨P, B⟩) : wp (F_Schema_found [.d (.obj i), .d (.str e.name)] ⟨P, B⟩) Q X := by
  unfold F_Schema_found
  refine wp_fn rfl ?_
  and_intros
  refine wFor_inv (fun rest σ S => S = ⟨P, B⟩ ∧ ∃ (a2 : Option Vl) (es : List Ent), σ = [some (.d (.obj i)), some (.d (.str e.name)), a2] ∧ rest = es.map eD ∧ e ∈ es ∧ ∀ x ∈ es, x ∈ p) ⟨rfl, none, p, rfl, rfl, he, fun _ h => h⟩ (fun _ _ _ _ => rfl) ?_ ?_
  · rintro x rest σ S ⟨rfl, a2, es, rfl, e1, he2, sub⟩
    cases es with
    | nil => cases he2
    | cons e' es =>
      simp only [List.map_cons, List.cons.injEq] at e1
      obtain ⟨rfl, rfl⟩ := e1
      refine ⟨_, rfl, ?_⟩
      and_intros
      refine br_dec (fun hh => ?_) (fun hh => ?_)
      · and_intros
        have : e' = e := nd_inj h.nd (sub _ List.mem_cons_self) he hh
        subst this
        exact fin_same .refl k
      · and_intros
        refine ⟨rfl, _, es, rfl, rfl, ?_, fun x hx => sub x (List.mem_cons_of_mem _ hx)⟩
        rcases List.mem_cons.mp he2 with rfl | z
        · exact absurd rfl hh
        · exact z
  · rintro σ S ⟨rfl, a2, es, rfl, e1, he2, sub⟩
    cases es with
    | nil => cases he2
    | cons _ _ => cases e1
theorem columns_wp (o : P[i]? = some (schO p)) (h : PlanOk 5 3 p) (he : e ∈ p) (k : Q (.d (.tup ((e.refs.map (·.1)).map D.str))) ⟨P, B⟩) : wp (F_Schema_columns [.d (.obj i), .d (.str e.name)] ⟨P, B⟩) Q X := by
  have l3 := (h.ent e he).len
  unfold F_Schema_columns
  refine wp_fn rfl ?_
  unfold t_Schema_columns
  and_intros
  refine found_wp o h he ?_
  and_intros
  refine wp_ix_tup (l := [.str e.name, .bl e.uq, .tup (e.refs.map rD)]) rfl ?_
  and_intros
  refine wLoop_map hd0 rfl (fun x hx => ?_) (by simp; unfold sizeLine; omega) ?_
  · obtain ⟨r, hr, rfl⟩ := List.mem_map.mp hx
    refine ⟨_, rfl, ?_⟩
    and_intros
    refine ⟨rfl, ?_⟩
    and_intros
    rfl
  have e1 : (e.refs.map rD).map hd0 = (e.refs.map (·.1)).map D.str := by rw [List.map_map, List.map_map]; rfl
  rw [e1]
  and_intros
  exact fin_same .refl k
theorem has_column_wp (o : P[i]? = some (schO p)) (h : PlanOk 5 3 p) (he : e ∈ p) (hc : c ∈ e.refs.map (·.1)) (k : Q (.d (.bl true)) ⟨P, B⟩) : wp (F_has_column [.d (.obj i), .d (.str e.name), .d (.str c)] ⟨P, B⟩) Q X := by
  unfold F_has_column
  refine wp_fn rfl ?_
  and_intros
  refine has_table_wp o h (List.mem_map_of_mem he) ?_
  and_intros
  refine columns_wp o h he ?_
  and_intros
  refine wp_in_tup rfl (flats _) ?_
  rw [inD_strs, decide_eq_true hc]
  exact fin_same .refl k
theorem is_load_wp {m : Bool} {pol : Str} (o : P[i]? = some (schO p)) (h : PlanOk 5 3 p) (ht : t ∈ p.map (·.name)) (hp : pol ∈ pols) (k : Q (.d (.bl true)) ⟨P, B⟩) : wp (F_is_load [.d (.obj i), .d (.tup [.str "load", .str t, .str pol, .bl m])] ⟨P, B⟩) Q X := by
  unfold F_is_load
  refine wp_fn rfl ?_
  and_intros
  refine has_table_wp o h ht ?_
  and_intros
  refine br_T (show inD (.str pol) (pols.map D.str) = true by rw [inD_strs, decide_eq_true hp]) ?_
  and_intros
  refine is_flag_wp ?_
  exact fin_same .refl k
theorem is_step_wp {s : Stp} (o : P[i]? = some (schO p)) (h : PlanOk 5 3 p) (ok : StpOk p s) (k : Q (.d (.bl true)) ⟨P, B⟩) : wp (F_is_step [.d (.obj i), .d (stD s)] ⟨P, B⟩) Q X := by
  unfold F_is_step
  refine wp_fn rfl ?_
  cases s with
  | load t pol m =>
    simp only [stD]
    and_intros
    refine is_load_wp o h ok.1 ok.2 ?_
    exact fin_same .refl k
  | chg kd t c =>
    obtain ⟨hk, e, he, rfl, hc⟩ := ok
    have nl : kd ≠ "load" := fun z => by
      subst z
      revert hk; decide +kernel
    simp only [stD]
    and_intros
    refine br_T (show inD (.str kd) (chgs.map D.str) = true by rw [inD_strs, decide_eq_true hk]) ?_
    and_intros
    refine has_column_wp o h he hc ?_
    exact fin_same .refl k
theorem first_wrong_wp {row : List Stp} (o : P[i]? = some (schO p)) (h : PlanOk 5 3 p) (hl : row.length ≤ 20) (ok : ∀ s ∈ row, StpOk p s) (k : Q (.d .non) ⟨P, B⟩) : wp (F_first_wrong [.d (.obj i), .d (.tup (row.map stD))] ⟨P, B⟩) Q X := by
  unfold F_first_wrong
  refine wp_fn rfl ?_
  and_intros
  refine wFor_inv (fun rest σ S => S = ⟨P, B⟩ ∧ ∃ (a2 a3 : Option Vl) (n : Nat) (t : List Stp), σ = [some (.d (.obj i)), some (.d (.tup (row.map stD))), a2, a3] ∧ rest = enumD n (t.map stD) ∧ n + t.length = row.length ∧ ∀ s ∈ t, s ∈ row) ⟨rfl, none, none, 0, row, rfl, rfl, by simp, fun _ h => h⟩ (fun _ _ _ _ => rfl) ?_ ?_
  · rintro x rest σ S ⟨rfl, a2, a3, n, t, rfl, e1, hn, sub⟩
    cases t with
    | nil => cases e1
    | cons s t =>
      simp only [List.map_cons, enumD, List.cons.injEq] at e1
      obtain ⟨rfl, rfl⟩ := e1
      simp only [List.length_cons] at hn
      refine ⟨_, rfl, ?_⟩
      and_intros
      refine is_step_wp o h (ok s (sub s List.mem_cons_self)) ?_
      and_intros
      exact ⟨rfl, _, _, n + 1, t, rfl, rfl, by omega, fun z hz => sub z (List.mem_cons_of_mem _ hz)⟩
  · rintro σ S ⟨rfl, a2, a3, n, t, rfl, e1, hn, sub⟩
    and_intros
    exact fin_same .refl k
/-- a script, as an object -/
def scO (i : Nat) (row : List Stp) (kp : Bool) : Ob := .ins "Script" [("frame", .obj i), ("sequence", .tup (row.map stD)), ("keeping", .bl kp)]
theorem ws_setNew {nx : Sl → Sta → Prop} {rt : Vl → Sta → Prop} {bk ct : Sl → Sta → Prop} {ex : XPS} {σ : Sl} {cl f : String} {fs : List (String × D)} {x : D} (hl : fs.length < 1000) (k : nx σ ⟨P ++ [.ins cl (putFs f x fs)], B⟩) : ws (setFld cl f (.d (.obj P.length)) x σ ⟨P ++ [.ins cl fs], B⟩) nx rt bk ct ex := by
  refine ws_setFld (c := cl) (fs := fs) (by show (P ++ [Ob.ins cl fs])[P.length]? = _; simp) hl ?_
  have e : (P ++ [Ob.ins cl fs]).set P.length (.ins cl (putFs f x fs)) = P ++ [.ins cl (putFs f x fs)] := by
    rw [List.set_append_right _ _ (Nat.le_refl _)]; simp
  show nx σ ⟨(P ++ [Ob.ins cl fs]).set P.length (.ins cl (putFs f x fs)), B⟩
  rw [e]; exact k
theorem make_script_wp {row : List Stp} {kp : Bool} (o : P[i]? = some (schO p)) (h : PlanOk 5 3 p) (hl : row.length ≤ 20) (ok : ∀ s ∈ row, StpOk p s) (k : Q (.d (.obj P.length)) ⟨P ++ [scO i row kp], B⟩) : wp (mkF "Script" F_Script_init [.d (.obj i), .d (.tup (row.map stD)), .d (.bl kp)] ⟨P, B⟩) Q X := by
  refine wp_mkF ?_
  unfold F_Script_init
  refine wp_fn rfl ?_
  have o2 : (P ++ [Ob.ins "Script" []])[i]? = some (schO p) := by
    rw [List.getElem?_append_left (List.getElem?_eq_some_iff.mp o).1]; exact o
  and_intros
  refine first_wrong_wp o2 h hl ok ?_
  and_intros
  refine br_T rfl ?_
  and_intros
  refine is_flag_wp ?_
  and_intros
  refine ws_setNew (cl := "Script") (fs := []) (by decide) ?_
  and_intros
  refine ws_setNew (cl := "Script") (fs := [("frame", .obj i)]) (Nat.le_of_ble_eq_true rfl) ?_
  and_intros
  refine ws_setNew (cl := "Script") (fs := [("frame", .obj i), ("sequence", .tup (row.map stD))]) (Nat.le_of_ble_eq_true rfl) ?_
  refine ⟨rfl, ?_⟩
  show Q (.d (.obj P.length)) (cutB B.length ⟨P ++ [scO i row kp], B⟩)
  rw [cutB_id (Nat.le_refl _)]
  exact k
end
end Wk

set_option Elab.async false
set_option linter.all false
set_option maxRecDepth 100000
set_option maxHeartbeats 2000000
/-! the text of a script -/
namespace Wk
open PySem PySem.Spec PyProof.Rows L2 Ev
open Classical
local macro_rules
  | `(tactic| ac_rfl) => `(tactic| (first | rfl | assumption | exact rdlOf_box (by assumption) | omega | exact Nat.le_of_ble_eq_true rfl | exact cmulW _ _ (by omega) (by omega) (by omega) (by omega) | exact cmm (by omega) (by omega) (by omega) (by omega) | exact cdivW _ _ (by omega) (by omega) | (simp only [len_app]; omega)))
local macro_rules
  | `(tactic| and_intros) => `(tactic| repeat first
    | with_reducible refine wE_meth ?_
    | with_reducible refine wE_bin ?_
    | with_reducible refine wE_un ?_
    | with_reducible refine wE_isTy ?_
    | with_reducible refine wE_call ?_
    | with_reducible refine wE_callF ?_
    | with_reducible refine wE_make ?_
    | with_reducible refine wE_and ?_
    | with_reducible refine wE_or ?_
    | with_reducible refine wE_not ?_
    | with_reducible refine wE_if ?_
    | with_reducible refine wE_tup ?_
    | with_reducible refine wE_lst ?_
    | with_reducible refine wE_dic0 ?_
    | with_reducible refine wE_sl ?_
    | with_reducible refine wE_lm ?_
    | with_reducible refine wE_up ?_
    | with_reducible refine wE_oNone ?_
    | with_reducible refine wE_oSome ?_
    | with_reducible refine wA_nil ?_
    | with_reducible refine wA_cons ?_
    | with_reducible refine wA_consB ?_
    | with_reducible refine wT_of ?_
    | with_reducible refine wT_and ?_
    | with_reducible refine wT_or ?_
    | with_reducible refine wT_not ?_
    | with_reducible refine wT_true ?_
    | with_reducible refine wS_seq ?_
    | with_reducible refine wS_next ?_
    | with_reducible refine wS_brk ?_
    | with_reducible refine wS_cnt ?_
    | with_reducible refine wS_retN ?_
    | with_reducible refine wS_expr ?_
    | with_reducible refine wS_ret ?_
    | with_reducible refine wS_if ?_
    | with_reducible refine wS_set ?_
    | with_reducible refine wS_setB ?_
    | with_reducible refine wS_sub ?_
    | with_reducible refine wS_unp ?_
    | with_reducible refine wS_fld ?_
    | with_reducible refine wS_raise ?_
    | with_reducible refine inBox_new ?_
    | with_reducible refine inBox_d ?_
    | with_reducible refine inBox_box ?_
    | with_reducible refine isB_bl ?_
    | with_reducible refine br_true ?_
    | with_reducible refine br_false ?_
    | with_reducible refine wE_c ?_
    | with_reducible refine wS_for ?_
    | with_reducible refine wE_iOf ?_
    | with_reducible refine wE_iRan1 ?_
    | with_reducible refine wE_iRan2 ?_
    | with_reducible refine wE_lc ?_
    | with_reducible refine wE_lc2 ?_
    | with_reducible refine wE_join ?_
    | with_reducible refine wE_tm ?_
    | with_reducible refine wp_add_int ?_
    | with_reducible refine wp_sub ?_
    | with_reducible refine wp_neg ?_
    | with_reducible refine wp_lt ?_
    | with_reducible refine wp_le ?_
    | with_reducible refine wp_gt ?_
    | with_reducible refine wp_ge ?_
    | with_reducible refine wp_eq_int ?_
    | with_reducible refine wp_ne_int ?_
    | with_reducible refine wp_eq_str ?_
    | with_reducible refine wp_ne_str ?_
    | with_reducible refine wp_eq_bl ?_
    | with_reducible refine wp_ne_bl ?_
    | with_reducible refine wp_int ?_
    | with_reducible refine wp_int_bl ?_
    | with_reducible refine wp_len_tup ?_
    | with_reducible refine wp_tuple_tup ?_
    | with_reducible refine wp_list_tup ?_
    | with_reducible refine wp_itA_tup ?_
    | with_reducible refine wp_itA_str ?_
    | with_reducible refine wp_isN ?_
    | with_reducible refine wp_notN ?_
    | with_reducible refine wp_in_sign ?_
    | with_reducible refine wp_notIn_sign ?_
    | with_reducible refine wp_sl_tup ?_
    | with_reducible refine wp_ok ?_
    | with_reducible refine br_not ?_
    | with_reducible refine wE_callG ?_
    | with_reducible refine wE_makeG ?_
    | with_reducible refine wE_own2 ?_
    | with_reducible refine wE_enumV ?_
    | with_reducible refine wE_zipV ?_
    | with_reducible refine wp_max ?_
    | with_reducible refine wp_listT_tup ?_
    | with_reducible refine wp_listT_lst ?_
    | with_reducible refine wp_enum_tup ?_
    | ((with_reducible apply wE_var); ac_rfl)
    | ((with_reducible apply wp_mod); ac_rfl)
    | ((with_reducible apply wp_div); ac_rfl)
    | ((with_reducible apply wp_mul); ac_rfl)
    | ((with_reducible apply wp_pow); ac_rfl)
    | ((with_reducible apply wp_add_str); ac_rfl)
    | ((with_reducible apply wp_add_tup); ac_rfl)
    | ((with_reducible apply wp_add_lst); ac_rfl; ac_rfl; ac_rfl)
    | ((with_reducible apply wp_len_str); ac_rfl)
    | ((with_reducible apply wp_len); ac_rfl)
    | ((with_reducible apply wp_tuple); ac_rfl)
    | ((with_reducible apply wp_list); ac_rfl)
    | ((with_reducible apply wp_ix_tup); ac_rfl)
    | ((with_reducible apply wp_ix); ac_rfl; ac_rfl)
    | ((with_reducible apply wp_ix_str); ac_rfl; ac_rfl)
    | ((with_reducible apply wp_sl_str); ac_rfl)
    | ((with_reducible apply wp_sl); ac_rfl)
    | ((with_reducible apply wp_itA); ac_rfl)
    | ((with_reducible apply wp_itL); ac_rfl)
    | ((with_reducible apply wp_ran1); ac_rfl; ac_rfl)
    | ((with_reducible apply wp_ran2); ac_rfl; ac_rfl; ac_rfl; ac_rfl)
    | ((with_reducible apply ws_putC); ac_rfl; ac_rfl)
    | ((with_reducible apply wp_fld); ac_rfl; ac_rfl)
    | ((with_reducible apply wp_in); ac_rfl; ac_rfl; ac_rfl)
    | ((with_reducible apply wp_notIn); ac_rfl; ac_rfl; ac_rfl)
    | ((with_reducible apply wp_rev); ac_rfl)
    | ((with_reducible apply wp_listT_str); ac_rfl)
    | ((with_reducible apply wp_enum); ac_rfl)
    | (refine ⟨rfl, rfl, ?_⟩)
    | (refine ⟨_, _, rfl, rfl, ?_⟩)
    | (refine ⟨_, _, rfl, Nat.le_of_ble_eq_true rfl, ?_⟩)
    | (refine ⟨_, _, _, rfl, rfl, ?_⟩)
    | (refine ⟨_, rfl, ?_⟩)
    | (refine ⟨_, _, rfl, ?_⟩)
    | (refine ⟨boxOk_of (by assumption), ?_⟩)
    | ((apply And.intro); focus (apply ins_of; assumption; rfl))
    | (refine ⟨boxOk_of getP, ?_⟩)
    | (refine br_decT rfl ?_)
    | (refine br_decF (by omega) ?_)
    | (refine br_decT (by omega) ?_)
    | (refine br_decF (by (simp; done)) ?_)
    | (refine br_decF (by decide +kernel) ?_))
def wordsT : Stp → List Str
  | .load t pol m => if m = true then ["load", t, pol, "match"] else ["load", t, pol]
  | .chg kd t c => [kd, t, c]
def stT (s : Stp) : Str := Txt.join spS (wordsT s)
def keepS (b : Bool) : Str := if b = true then "kept" else "lost"
def partsT (kp : Bool) (row : List Stp) : List Str := keepS kp :: row.map stT
def scT (kp : Bool) (row : List Stp) : Str := Txt.join smS (partsT kp row)
theorem stp_words {p : List Ent} {s : Stp} (h : PlanOk 5 3 p) (ok : StpOk p s) : ∀ w ∈ wordsT s, Word w := by
  intro w hw
  have nw : ∀ e ∈ p, Word e.name := fun e he => (h.ent e he).w
  cases s with
  | load t pol m =>
    obtain ⟨h1, h2⟩ := ok
    obtain ⟨e, he, rfl⟩ := List.mem_map.mp h1
    have wp' : Word pol := fixed_ok pol (by
      simp only [List.mem_cons, List.not_mem_nil, or_false] at h2
      rcases h2 with rfl | rfl | rfl <;> simp [fixedW])
    have wl : Word "load" := fixed_ok "load" (by simp [fixedW])
    have wm : Word "match" := fixed_ok "match" (by simp [fixedW])
    have key : w = "load" ∨ w = e.name ∨ w = pol ∨ w = "match" := by
      cases m
      · have hw : w ∈ [("load" : Str), e.name, pol] := hw
        simp only [List.mem_cons, List.not_mem_nil, or_false] at hw
        rcases hw with h | h | h
        · exact .inl h
        · exact .inr (.inl h)
        · exact .inr (.inr (.inl h))
      · have hw : w ∈ [("load" : Str), e.name, pol, "match"] := hw
        simpa only [List.mem_cons, List.not_mem_nil, or_false] using hw
    rcases key with rfl | rfl | rfl | rfl
    · exact wl
    · exact nw e he
    · exact wp'
    · exact wm
  | chg kd t c =>
    obtain ⟨h1, e, he, rfl, hc⟩ := ok
    have wk : Word kd := fixed_ok kd (by
      simp only [List.mem_cons, List.not_mem_nil, or_false] at h1
      rcases h1 with rfl | rfl | rfl <;> simp [fixedW])
    obtain ⟨r, hr, rfl⟩ := List.mem_map.mp hc
    simp only [wordsT, List.mem_cons, List.not_mem_nil, or_false] at hw
    rcases hw with rfl | rfl | rfl
    · exact wk
    · exact nw e he
    · exact ((h.ent e he).col r hr).1
theorem wordsT_len (s : Stp) : (wordsT s).length ≤ 4 := by
  cases s with
  | load t pol m => cases m <;> simp [wordsT]
  | chg kd t c => simp [wordsT]
theorem join_len (z : Str) (k : Nat) (l : List Str) (h : ∀ w ∈ l, w.length ≤ k) : (Txt.join z l).length ≤ (k + z.length) * l.length := by
  rw [str_len, join_cps]
  cases l with
  | nil => simp [glueL]
  | cons x r =>
    rw [List.map_cons, glue_flat, List.length_append, List.length_flatMap, List.map_map]
    have h1 := h x List.mem_cons_self
    have h2 := sum_le (fun w : Str => (z.cps.toList ++ w.cps.toList).length) (k + z.length) r fun w hw => by
      have := h w (List.mem_cons_of_mem _ hw)
      rw [List.length_append, ← str_len, ← str_len]; omega
    rw [← str_len, List.length_cons, Nat.mul_add]
    have e : (r.map ((fun a => (z.cps.toList ++ a).length) ∘ fun w : Str => w.cps.toList)).sum = (r.map fun w : Str => (z.cps.toList ++ w.cps.toList).length).sum := rfl
    rw [e]; omega
theorem stT_len {p : List Ent} {s : Stp} (h : PlanOk 5 3 p) (ok : StpOk p s) : (stT s).length ≤ 36 := by
  have h1 := join_len spS 8 (wordsT s) fun w hw => (stp_words h ok w hw).hi
  have h2 := wordsT_len s
  have e : spS.length = 1 := rfl
  unfold stT
  rw [e] at h1
  omega
theorem keep_len (b : Bool) : (keepS b).length = 4 := by cases b <;> decide +kernel
theorem sc_snoc (kp : Bool) (d : List Stp) (s : Stp) : scT kp (d ++ [s]) = scT kp d ++ smS ++ stT s := str_ext (by
  unfold scT partsT
  rw [app_list, app_list, join_cps, join_cps, List.map_cons, List.map_cons, glue_flat, glue_flat]
  simp [List.flatMap_append])
theorem sc_len {p : List Ent} {kp : Bool} {row : List Stp} (h : PlanOk 5 3 p) (ok : ∀ s ∈ row, StpOk p s) (hl : row.length ≤ 20) : (scT kp row).length ≤ 1000 := by
  have h1 := join_len smS 36 (partsT kp row) fun w hw => by
    unfold partsT at hw
    rcases List.mem_cons.mp hw with rfl | hw
    · rw [keep_len]; omega
    · obtain ⟨s, hs, rfl⟩ := List.mem_map.mp hw
      exact stT_len h (ok s hs)
  have e : smS.length = 2 := rfl
  have e2 : (partsT kp row).length = row.length + 1 := by simp [partsT]
  unfold scT
  rw [e, e2] at h1
  omega
section
variable {P : List Ob} {B : Bx} {i j : Nat} {p q : List Ent} {e : Ent} {t c : Str} {s : Stp} {row : List Stp} {kp : Bool} {Q : Vl → Sta → Prop} {X : XP}
theorem words_small (h : PlanOk 5 3 p) (ok : StpOk p s) : ((wordsT s).map (·.length)).sum + (wordsT s).length * (Str.ofString " ").length ≤ 16777216 := by
  have h1 := sum_le (fun w : Str => w.length) 8 (wordsT s) fun w hw => (stp_words h ok w hw).hi
  have h2 := wordsT_len s
  rw [sp_eq]
  show _ + _ * 1 ≤ _
  omega
theorem step_text_wp (h : PlanOk 5 3 p) (ok : StpOk p s) (k : Q (.d (.str (stT s))) ⟨P, B⟩) : wp (F_step_text [.d (stD s)] ⟨P, B⟩) Q X := by
  have ws := words_small h ok
  unfold F_step_text
  refine wp_fn rfl ?_
  cases s with
  | load t pol m =>
    simp only [stD]
    and_intros
    cases m
    · and_intros
      refine wp_join (ys := ["load", t, pol]) (rdlOf_box getP) ws ?_
      rw [sp_eq]
      exact fin_same Up.push k
    · and_intros
      refine wp_append (l := [.str "load", .str t, .str pol]) getP (Nat.le_of_ble_eq_true rfl) fun B2 u2 hb2 => ?_
      and_intros
      refine wp_join (ys := ["load", t, pol, "match"]) (rdlOf_box hb2) ws ?_
      rw [sp_eq]
      exact fin_same (up_newB Up.push u2 (Nat.le_refl _)) k
  | chg kd t c =>
    have nl : kd ≠ "load" := fun z => by
      subst z
      revert ok; rintro ⟨h1, _⟩; revert h1; decide +kernel
    simp only [stD]
    and_intros
    refine wp_join (ys := [kd, t, c]) rfl ws ?_
    rw [sp_eq]
    exact fin_same .refl k
theorem steps_m (o : P[i]? = some (scO j row kp)) (k : Q (.d (.tup (row.map stD))) ⟨P, B⟩) : wp (F_Script_steps [.d (.obj i)] ⟨P, B⟩) Q X := by
  unfold F_Script_steps
  refine wp_fn rfl ?_
  unfold t_Script_steps
  and_intros
  exact fin_same .refl k
theorem script_text_wp (o : P[i]? = some (scO j row kp)) (h : PlanOk 5 3 p) (ok : ∀ s ∈ row, StpOk p s) (hl : row.length ≤ 20) (k : Q (.d (.str (scT kp row))) ⟨P, B⟩) : wp (F_script_text [.d (.obj i)] ⟨P, B⟩) Q X := by
  have go : ∀ f, f = keepS kp → wFor (fun _ => true) (gNm 2) (sExpr (eLm appendF (eVar 1) (eCallF F_step_text [] (aCons (eVar 2) (aNil))))) (row.map stD) [some (.d (.obj i)), some (.box B.length), none] ⟨P, B ++ [(true, [.str f])]⟩
      (fun σ S => wS tb_script_text_0 σ S (fun _ S1 => Q (.d .non) (cutB B.length S1)) (fun v S1 => wp (fin B.length (.ret v S1)) Q X) (fun _ _ => False) (fun _ _ => False) (fun c fs _ S1 => X c fs (cutB B.length S1))) (fun v S1 => wp (fin B.length (.ret v S1)) Q X) (fun _ _ => False) (fun _ _ => False) (fun c fs _ S1 => X c fs (cutB B.length S1)) := by
    rintro f rfl
    refine wFor_inv (fun rest σ S => ∃ (B' : Bx) (d t : List Stp) (a2 : Option Vl), S = ⟨P, B'⟩ ∧ σ = [some (.d (.obj i)), some (.box B.length), a2] ∧ Up [] B B' ∧ B'[B.length]? = some (true, (partsT kp d).map D.str) ∧ row = d ++ t ∧ rest = t.map stD) ⟨_, [], row, _, rfl, rfl, Up.push, getP, rfl, rfl⟩ (fun _ _ _ _ => rfl) ?_ ?_
    · rintro x rest σ S ⟨B', d, t, a2, rfl, rfl, u, hb, e1, e2⟩
      cases t with
      | nil => cases e2
      | cons s t =>
        simp only [List.map_cons, List.cons.injEq] at e2
        obtain ⟨rfl, rfl⟩ := e2
        have hs : s ∈ row := by rw [e1]; simp
        have ll : d.length + (t.length + 1) = row.length := by rw [e1]; simp
        refine ⟨_, rfl, ?_⟩
        and_intros
        refine step_text_wp h (ok s hs) ?_
        and_intros
        refine wp_append hb (by simp [partsT]; unfold sizeLine; omega) fun B2 u2 hb2 => ?_
        exact ⟨B2, d ++ [s], t, _, rfl, rfl, up_newB u u2 (Nat.le_refl _), by rw [hb2]; simp [partsT], by rw [e1]; simp, rfl⟩
    · rintro σ S ⟨B', d, t, a2, rfl, rfl, u, hb, e1, e2⟩
      have e3 : t = [] := by
        cases t with
        | nil => rfl
        | cons _ _ => cases e2
      subst e3
      have e4 : d = row := by simpa using e1.symm
      subst e4
      and_intros
      refine wp_join (rdlOf_box hb) ?_ ?_
      · have h1 := sum_le (fun w : Str => w.length) 36 (partsT kp d) fun w hw => by
          unfold partsT at hw
          rcases List.mem_cons.mp hw with rfl | hw
          · rw [keep_len]; omega
          · obtain ⟨s, hs, rfl⟩ := List.mem_map.mp hw
            exact stT_len h (ok s hs)
        have e2 : (partsT kp d).length = d.length + 1 := by simp [partsT]
        rw [sm_eq]
        show _ + _ * 2 ≤ _
        rw [e2] at h1 ⊢
        omega
      · rw [sm_eq]; exact fin_same u k
  unfold F_script_text
  refine wp_fn rfl ?_
  and_intros
  refine br_any (fun hb => ?_) (fun hb => ?_)
  · and_intros
    refine steps_m o ?_
    and_intros
    exact go "kept" (by rw [hb]; first | done | rfl)
  · and_intros
    refine steps_m o ?_
    and_intros
    exact go "lost" (by rw [hb]; first | done | rfl)
theorem txt_load0 (d : List Stp) (tt pol : Str) : scT kp d ++ Str.ofString "; " ++ Str.ofString "load" ++ Str.ofString " " ++ tt ++ Str.ofString " " ++ pol = scT kp (d ++ [.load tt pol false]) := str_ext (by
  rw [sc_snoc, sm_eq, sp_eq]
  simp [app_list, stT, wordsT, join_cps, glueL])
theorem txt_load1 (d : List Stp) (tt pol : Str) : scT kp d ++ Str.ofString "; " ++ Str.ofString "load" ++ Str.ofString " " ++ tt ++ Str.ofString " " ++ pol ++ Str.ofString " match" = scT kp (d ++ [.load tt pol true]) := str_ext (by
  have e : (Str.ofString " match").cps.toList = 32 :: (Str.ofString "match").cps.toList := by decide +kernel
  rw [sc_snoc, sm_eq, sp_eq]
  simp only [app_list, stT, wordsT, join_cps, glueL, e, if_true, List.map_cons, List.map_nil]
  simp)
theorem txt_chg (d : List Stp) (kd tt c : Str) : scT kp d ++ Str.ofString "; " ++ kd ++ Str.ofString " " ++ tt ++ Str.ofString " " ++ c = scT kp (d ++ [.chg kd tt c]) := str_ext (by
  rw [sc_snoc, sm_eq, sp_eq]
  simp [app_list, stT, wordsT, join_cps, glueL])
theorem law_text_wp (h : PlanOk 5 3 p) (ok : ∀ s ∈ row, StpOk p s) (hl : row.length ≤ 20) (k : Q (.d (.str (scT kp row))) ⟨P, B⟩) : wp (F__law_text [.d (.tup (row.map stD)), .d (.bl kp)] ⟨P, B⟩) Q X := by
  unfold F__law_text
  refine wp_fn rfl ?_
  and_intros
  refine wp_ix (l := [.str "lost", .str "kept"]) (a := .str (keepS kp)) rfl (by cases kp <;> rfl) ?_
  and_intros
  have hS : sizeLine = 16777216 := rfl
  have q1 : (Str.ofString "; ").length = 2 := by decide +kernel
  have q2 : (Str.ofString " ").length = 1 := by decide +kernel
  have q3 : (Str.ofString " match").length = 6 := by decide +kernel
  have q4 : (Str.ofString "load").length = 4 := by decide +kernel
  refine wFor_inv (fun rest σ S => S = ⟨P, B⟩ ∧ ∃ (d t : List Stp) (a3 : Option Vl), σ = [some (.d (.tup (row.map stD))), some (.d (.bl kp)), some (.d (.str (scT kp d))), a3] ∧ row = d ++ t ∧ rest = t.map stD) ⟨rfl, [], row, none, rfl, rfl, rfl⟩ (fun _ _ _ _ => rfl) ?_ ?_
  · rintro x rest σ S ⟨rfl, d, t, a3, rfl, e1, e2⟩
    cases t with
    | nil => cases e2
    | cons s t =>
      simp only [List.map_cons, List.cons.injEq] at e2
      obtain ⟨rfl, rfl⟩ := e2
      have hs : s ∈ row := by rw [e1]; simp
      have os := ok s hs
      have sw := stp_words h os
      have L0 : (scT kp d).length ≤ 1000 := sc_len h (fun s hs => ok s (by rw [e1]; exact List.mem_append_left _ hs)) (by rw [e1] at hl; simp at hl; omega)
      refine ⟨_, rfl, ?_⟩
      cases s with
      | load tt pol m =>
        simp only [stD]
        have w1 : tt.length ≤ 8 := (sw tt (by cases m <;> simp [wordsT])).hi
        have w2 : pol.length ≤ 8 := (sw pol (by cases m <;> simp [wordsT])).hi
        and_intros
        cases m
        · and_intros
          refine ⟨rfl, d ++ [.load tt pol false], t, some (.d (.tup [.str "load", .str tt, .str pol, .bl false])), ?_, by rw [e1]; simp, rfl⟩
          rw [← txt_load0]; rfl
        · and_intros
          refine ⟨rfl, d ++ [.load tt pol true], t, some (.d (.tup [.str "load", .str tt, .str pol, .bl true])), ?_, by rw [e1]; simp, rfl⟩
          rw [← txt_load1]; rfl
      | chg kd tt c =>
        have nl : kd ≠ "load" := fun z => by
          subst z
          revert os; rintro ⟨h1, _⟩; revert h1; decide +kernel
        simp only [stD]
        have w1 : tt.length ≤ 8 := (sw tt (by simp [wordsT])).hi
        have w2 : kd.length ≤ 8 := (sw kd (by simp [wordsT])).hi
        have w3 : c.length ≤ 8 := (sw c (by simp [wordsT])).hi
        and_intros
        refine ⟨rfl, d ++ [.chg kd tt c], t, some (.d (.tup [.str kd, .str tt, .str c])), ?_, by rw [e1]; simp, rfl⟩
        rw [← txt_chg]; rfl
  · rintro σ S ⟨rfl, d, t, a3, rfl, e1, e2⟩
    have e3 : t = [] := by
      cases t with
      | nil => rfl
      | cons _ _ => cases e2
    subst e3
    have e4 : d = row := by simpa using e1.symm
    subst e4
    and_intros
    exact fin_same .refl k
end
end Wk

set_option Elab.async false
set_option linter.all false
set_option maxRecDepth 100000
set_option maxHeartbeats 2000000
/-! the text of a script is read -/
namespace Wk
open PySem PySem.Spec PyProof.Rows L2 Ev
open Classical
local macro_rules
  | `(tactic| ac_rfl) => `(tactic| (first | rfl | assumption | exact rdlOf_box (by assumption) | omega | exact Nat.le_of_ble_eq_true rfl | exact cmulW _ _ (by omega) (by omega) (by omega) (by omega) | exact cmm (by omega) (by omega) (by omega) (by omega) | exact cdivW _ _ (by omega) (by omega) | (simp only [len_app]; omega)))
local macro_rules
  | `(tactic| and_intros) => `(tactic| repeat first
    | with_reducible refine wE_meth ?_
    | with_reducible refine wE_bin ?_
    | with_reducible refine wE_un ?_
    | with_reducible refine wE_isTy ?_
    | with_reducible refine wE_call ?_
    | with_reducible refine wE_callF ?_
    | with_reducible refine wE_make ?_
    | with_reducible refine wE_and ?_
    | with_reducible refine wE_or ?_
    | with_reducible refine wE_not ?_
    | with_reducible refine wE_if ?_
    | with_reducible refine wE_tup ?_
    | with_reducible refine wE_lst ?_
    | with_reducible refine wE_dic0 ?_
    | with_reducible refine wE_sl ?_
    | with_reducible refine wE_lm ?_
    | with_reducible refine wE_up ?_
    | with_reducible refine wE_oNone ?_
    | with_reducible refine wE_oSome ?_
    | with_reducible refine wA_nil ?_
    | with_reducible refine wA_cons ?_
    | with_reducible refine wA_consB ?_
    | with_reducible refine wT_of ?_
    | with_reducible refine wT_and ?_
    | with_reducible refine wT_or ?_
    | with_reducible refine wT_not ?_
    | with_reducible refine wT_true ?_
    | with_reducible refine wS_seq ?_
    | with_reducible refine wS_next ?_
    | with_reducible refine wS_brk ?_
    | with_reducible refine wS_cnt ?_
    | with_reducible refine wS_retN ?_
    | with_reducible refine wS_expr ?_
    | with_reducible refine wS_ret ?_
    | with_reducible refine wS_if ?_
    | with_reducible refine wS_set ?_
    | with_reducible refine wS_setB ?_
    | with_reducible refine wS_sub ?_
    | with_reducible refine wS_unp ?_
    | with_reducible refine wS_fld ?_
    | with_reducible refine wS_raise ?_
    | with_reducible refine inBox_new ?_
    | with_reducible refine inBox_d ?_
    | with_reducible refine inBox_box ?_
    | with_reducible refine isB_bl ?_
    | with_reducible refine br_true ?_
    | with_reducible refine br_false ?_
    | with_reducible refine wE_c ?_
    | with_reducible refine wS_for ?_
    | with_reducible refine wE_iOf ?_
    | with_reducible refine wE_iRan1 ?_
    | with_reducible refine wE_iRan2 ?_
    | with_reducible refine wE_lc ?_
    | with_reducible refine wE_lc2 ?_
    | with_reducible refine wE_join ?_
    | with_reducible refine wE_tm ?_
    | with_reducible refine wp_add_int ?_
    | with_reducible refine wp_sub ?_
    | with_reducible refine wp_neg ?_
    | with_reducible refine wp_lt ?_
    | with_reducible refine wp_le ?_
    | with_reducible refine wp_gt ?_
    | with_reducible refine wp_ge ?_
    | with_reducible refine wp_eq_int ?_
    | with_reducible refine wp_ne_int ?_
    | with_reducible refine wp_eq_str ?_
    | with_reducible refine wp_ne_str ?_
    | with_reducible refine wp_eq_bl ?_
    | with_reducible refine wp_ne_bl ?_
    | with_reducible refine wp_int ?_
    | with_reducible refine wp_int_bl ?_
    | with_reducible refine wp_len_tup ?_
    | with_reducible refine wp_tuple_tup ?_
    | with_reducible refine wp_list_tup ?_
    | with_reducible refine wp_itA_tup ?_
    | with_reducible refine wp_itA_str ?_
    | with_reducible refine wp_isN ?_
    | with_reducible refine wp_notN ?_
    | with_reducible refine wp_in_sign ?_
    | with_reducible refine wp_notIn_sign ?_
    | with_reducible refine wp_sl_tup ?_
    | with_reducible refine wp_ok ?_
    | with_reducible refine br_not ?_
    | with_reducible refine wE_callG ?_
    | with_reducible refine wE_makeG ?_
    | with_reducible refine wE_own2 ?_
    | with_reducible refine wE_enumV ?_
    | with_reducible refine wE_zipV ?_
    | with_reducible refine wp_max ?_
    | with_reducible refine wp_listT_tup ?_
    | with_reducible refine wp_listT_lst ?_
    | with_reducible refine wp_enum_tup ?_
    | ((with_reducible apply wE_var); ac_rfl)
    | ((with_reducible apply wp_mod); ac_rfl)
    | ((with_reducible apply wp_div); ac_rfl)
    | ((with_reducible apply wp_mul); ac_rfl)
    | ((with_reducible apply wp_pow); ac_rfl)
    | ((with_reducible apply wp_add_str); ac_rfl)
    | ((with_reducible apply wp_add_tup); ac_rfl)
    | ((with_reducible apply wp_add_lst); ac_rfl; ac_rfl; ac_rfl)
    | ((with_reducible apply wp_len_str); ac_rfl)
    | ((with_reducible apply wp_len); ac_rfl)
    | ((with_reducible apply wp_tuple); ac_rfl)
    | ((with_reducible apply wp_list); ac_rfl)
    | ((with_reducible apply wp_ix_tup); ac_rfl)
    | ((with_reducible apply wp_ix); ac_rfl; ac_rfl)
    | ((with_reducible apply wp_ix_str); ac_rfl; ac_rfl)
    | ((with_reducible apply wp_sl_str); ac_rfl)
    | ((with_reducible apply wp_sl); ac_rfl)
    | ((with_reducible apply wp_itA); ac_rfl)
    | ((with_reducible apply wp_itL); ac_rfl)
    | ((with_reducible apply wp_ran1); ac_rfl; ac_rfl)
    | ((with_reducible apply wp_ran2); ac_rfl; ac_rfl; ac_rfl; ac_rfl)
    | ((with_reducible apply ws_putC); ac_rfl; ac_rfl)
    | ((with_reducible apply wp_fld); ac_rfl; ac_rfl)
    | ((with_reducible apply wp_in); ac_rfl; ac_rfl; ac_rfl)
    | ((with_reducible apply wp_notIn); ac_rfl; ac_rfl; ac_rfl)
    | ((with_reducible apply wp_rev); ac_rfl)
    | ((with_reducible apply wp_listT_str); ac_rfl)
    | ((with_reducible apply wp_enum); ac_rfl)
    | (refine ⟨rfl, rfl, ?_⟩)
    | (refine ⟨_, _, rfl, rfl, ?_⟩)
    | (refine ⟨_, _, rfl, Nat.le_of_ble_eq_true rfl, ?_⟩)
    | (refine ⟨_, _, _, rfl, rfl, ?_⟩)
    | (refine ⟨_, rfl, ?_⟩)
    | (refine ⟨_, _, rfl, ?_⟩)
    | (refine ⟨boxOk_of (by assumption), ?_⟩)
    | ((apply And.intro); focus (apply ins_of; assumption; rfl))
    | (refine ⟨boxOk_of getP, ?_⟩)
    | (refine br_decT rfl ?_)
    | (refine br_decF (by omega) ?_)
    | (refine br_decT (by omega) ?_)
    | (refine br_decF (by (simp; done)) ?_)
    | (refine br_decF (by decide +kernel) ?_))
theorem wp_notInT {x : D} {l : List D} {S : Sta} {Q : Vl → Sta → Prop} {X : XP} (h1 : okD 60 x = true) (h2 : okD 60 (.tup l) = true) (k : Q (.d (.bl (!inD x l))) S) : wp (inTF true (.d x) (.d (.tup l)) S) Q X := by
  unfold inTF; dsimp only; rw [if_pos ⟨h1, h2⟩]; exact k
section
variable {P : List Ob} {B : Bx} {i j : Nat} {p q : List Ent} {e : Ent} {t c : Str} {s : Stp} {row : List Stp} {kp : Bool} {Q : Vl → Sta → Prop} {X : XP}
theorem st_split (h : PlanOk 5 3 p) (ok : StpOk p s) : Txt.split (stT s) spS = wordsT s := by
  refine split_join 32 (by cases s with
    | load t pol m => cases m <;> simp [wordsT]
    | chg kd t c => simp [wordsT]) fun w hw => word_no (stp_words h ok w hw) sp_no
theorem words_strOk (h : PlanOk 5 3 p) (ok : StpOk p s) : (wordsT s).all PyData.strOk = true := List.all_eq_true.mpr fun w hw => word_strOk (stp_words h ok w hw)
theorem step_of_wp (h : PlanOk 5 3 p) (ok : StpOk p s) (k : Q (.d (stD s)) ⟨P, B⟩) : wp (F_step_of [.d (.str (stT s))] ⟨P, B⟩) Q X := by
  have sm := stT_len h ok
  have sw := stp_words h ok
  unfold F_step_of
  refine wp_fn rfl ?_
  and_intros
  rw [sp_eq]
  refine wp_split ⟨rfl, by unfold sizeLine; omega, by rw [st_split h ok]; exact words_strOk h ok⟩ ?_
  rw [st_split h ok]
  cases s with
  | load t pol m =>
    have W : Word t := sw t (by cases m <;> simp [wordsT])
    have hp := ok.2
    have ip : inD (.str pol) (pols.map D.str) = true := by rw [inD_strs, decide_eq_true hp]
    cases m
    · show _
      simp only [wordsT, Bool.false_eq_true, if_false, List.map_cons, List.map_nil]
      and_intros
      refine wp_of (is_name_ok W _) ?_
      and_intros
      refine br_T ip ?_
      and_intros
      have c3 : cut [D.str "load", D.str t, D.str pol] (some 3) none = [] := rfl
      rw [c3]
      have c4 : inD (.lst []) [.lst [], .lst [.str "match"]] = true := by decide +kernel
      rw [c4]
      refine br_F rfl ?_
      and_intros
      exact fin_same .refl k
    · show _
      simp only [wordsT, if_true, List.map_cons, List.map_nil]
      and_intros
      refine wp_of (is_name_ok W _) ?_
      and_intros
      refine br_T ip ?_
      and_intros
      have c3 : cut [D.str "load", D.str t, D.str pol, D.str "match"] (some 3) none = [.str "match"] := rfl
      rw [c3]
      have c4 : inD (.lst [.str "match"]) [.lst [], .lst [.str "match"]] = true := by decide +kernel
      rw [c4]
      refine br_F rfl ?_
      and_intros
      exact fin_same .refl k
  | chg kd t c =>
    have W : Word t := sw t (by simp [wordsT])
    have Wc : Word c := sw c (by simp [wordsT])
    have ip : inD (.str kd) (chgs.map D.str) = true := by rw [inD_strs, decide_eq_true ok.1]
    have nl : kd ≠ "load" := fun z => by
      subst z
      revert ok; rintro ⟨h1, _⟩; revert h1; decide +kernel
    simp only [wordsT, List.map_cons, List.map_nil]
    and_intros
    refine wp_of (is_name_ok W _) ?_
    and_intros
    refine br_T ip ?_
    and_intros
    refine wp_of (is_name_ok Wc _) ?_
    and_intros
    exact fin_same .refl k
theorem st_no (h : PlanOk 5 3 p) (ok : StpOk p s) : (59 : Nat) ∉ (stT s).cps.toList := fun z => by
  unfold stT at z
  rw [join_cps] at z
  have key : ∀ l : List (List Nat), (∀ x ∈ l, (59 : Nat) ∉ x) → (59 : Nat) ∉ glueL spS.cps.toList l := by
    intro l hl hz
    cases l with
    | nil => cases hz
    | cons x r =>
      rw [glue_flat] at hz
      rcases List.mem_append.mp hz with hz | hz
      · exact hl x List.mem_cons_self hz
      · obtain ⟨y, hy, hz⟩ := List.mem_flatMap.mp hz
        rcases List.mem_append.mp hz with hz | hz
        · exact absurd hz (by decide +kernel)
        · exact hl y (List.mem_cons_of_mem _ hy) hz
  refine key _ (fun x hx => ?_) z
  obtain ⟨w, hw, rfl⟩ := List.mem_map.mp hx
  exact word_no (stp_words h ok w hw) (by decide +kernel)
theorem st_ok (h : PlanOk 5 3 p) (ok : StpOk p s) : PyData.strOk (stT s) = true := strOk_iff.mpr fun c hc => by
  unfold stT at hc
  rw [join_cps] at hc
  refine glue_ok (s := spS.cps.toList) (by decide +kernel) _ (fun x hx d hd => ?_) c hc
  obtain ⟨w, hw, rfl⟩ := List.mem_map.mp hx
  exact strOk_iff.mp (word_strOk (stp_words h ok w hw)) d hd
theorem keep_word (b : Bool) : Word (keepS b) := by
  cases b
  · exact fixed_ok "lost" (by simp [fixedW])
  · exact fixed_ok "kept" (by simp [fixedW])
theorem parts_split (h : PlanOk 5 3 p) (ok : ∀ s ∈ row, StpOk p s) : Txt.split (scT kp row) smS = partsT kp row := by
  refine split_join_two (by simp [partsT]) fun w hw => ?_
  unfold partsT at hw
  rcases List.mem_cons.mp hw with rfl | hw
  · exact word_no (keep_word kp) (by decide +kernel)
  · obtain ⟨s, hs, rfl⟩ := List.mem_map.mp hw
    exact st_no h (ok s hs)
theorem parts_ok (h : PlanOk 5 3 p) (ok : ∀ s ∈ row, StpOk p s) : (partsT kp row).all PyData.strOk = true := List.all_eq_true.mpr fun w hw => by
  unfold partsT at hw
  rcases List.mem_cons.mp hw with rfl | hw
  · exact word_strOk (keep_word kp)
  · obtain ⟨s, hs, rfl⟩ := List.mem_map.mp hw
    exact st_ok h (ok s hs)
theorem rng2_none (i : Int) : rng2 i i = [] := by simp [rng2]
theorem rng2_step {i j : Int} (h : i < j) : rng2 i j = .int i :: rng2 (i + 1) j := by
  unfold rng2
  have e : (j - i).toNat = (j - (i + 1)).toNat + 1 := by omega
  rw [e, List.range_succ_eq_map, List.map_cons, List.map_map]
  congr 1
  · simp
  · apply List.map_congr_left
    intro k _
    show D.int (i + ((k + 1 : Nat) : Int)) = D.int (i + 1 + (k : Int))
    congr 1
    omega
theorem read_script_wp (o : P[i]? = some (schO p)) (h : PlanOk 5 3 p) (ok : ∀ s ∈ row, StpOk p s) (hl : row.length ≤ 20) (k : Q (.d (.obj P.length)) ⟨P ++ [scO i row kp], B⟩) : wp (F_read_script [.d (.obj i), .d (.str (scT kp row))] ⟨P, B⟩) Q X := by
  have sm := sc_len (kp := kp) h ok hl
  have hlen : (partsT kp row).length = row.length + 1 := by simp [partsT]
  unfold F_read_script
  refine wp_fn rfl ?_
  and_intros
  rw [sm_eq]
  refine wp_split ⟨rfl, by unfold sizeLine; omega, by rw [parts_split h ok]; exact parts_ok h ok⟩ ?_
  rw [parts_split h ok]
  and_intros
  obtain ⟨ks, hks⟩ : ∃ ks, ks = keepS kp := ⟨_, rfl⟩
  have ik : inD (.str ks) [.str "kept", .str "lost"] = true := (inD_strs ks ["kept", "lost"]).trans (by rw [hks]; cases kp <;> decide +kernel)
  refine wp_ix (a := .str ks) rfl (by rw [hks]; exact atI_head _ _) ?_
  have hL : (((partsT kp row).map D.str).length : Int) < 2 ^ 62 := by rw [List.length_map, hlen]; omega
  unfold tb_read_script_5 tb_read_script_4
  with_reducible refine wE_tup ?_
  with_reducible refine wA_cons ?_
  with_reducible refine wE_c ?_
  with_reducible refine wA_cons ?_
  with_reducible refine wE_c ?_
  with_reducible refine wA_nil ?_
  refine ⟨[.str "kept", .str "lost"], _, rfl, Nat.le_of_ble_eq_true rfl, ?_⟩
  refine wp_notIn_tup (l := [.str "kept", .str "lost"]) rfl rfl ?_
  rw [ik]
  with_reducible refine isB_bl ?_
  with_reducible refine br_not ?_
  with_reducible refine br_true ?_
  with_reducible refine wS_next ?_
  with_reducible refine wS_seq ?_
  with_reducible refine wS_setB ?_
  with_reducible refine wE_lst ?_
  with_reducible refine wA_nil ?_
  refine ⟨_, _, rfl, Nat.le_of_ble_eq_true rfl, ?_⟩
  with_reducible refine inBox_new ?_
  with_reducible refine wS_seq ?_
  with_reducible refine wS_for ?_
  with_reducible refine wE_iRan2 ?_
  with_reducible refine wA_cons ?_
  with_reducible refine wE_c ?_
  with_reducible refine wA_cons ?_
  with_reducible refine wE_call ?_
  with_reducible refine wA_cons ?_
  with_reducible apply wE_var
  · rfl
  with_reducible refine wA_nil ?_
  with_reducible apply wp_len
  · rfl
  with_reducible refine wA_nil ?_
  with_reducible apply wp_ran2
  · omega
  · omega
  · omega
  · assumption
  generalize hR : rng2 1 (((partsT kp row).map D.str).length : Int) = items
  have hR2 : items = rng2 (1 + ((0 : Nat) : Int)) (1 + (row.length : Nat)) := by
    rw [← hR, List.length_map, hlen]; congr 1; omega
  clear hR
  refine wFor_inv (fun rest σ S => ∃ (B' : Bx) (d t : List Stp) (a4 a5 : Option Vl), S = ⟨P, B'⟩ ∧ σ = [some (.d (.obj i)), some (.d (.str (scT kp row))), some (.d (.lst ((partsT kp row).map D.str))), some (.box B.length), a4, a5] ∧ Up [] B B' ∧ B'[B.length]? = some (true, d.map stD) ∧ row = d ++ t ∧ rest = rng2 (1 + (d.length : Nat)) (1 + (row.length : Nat)))
    ⟨_, [], row, none, none, rfl, rfl, Up.push, getP, rfl, hR2⟩ (fun _ _ _ _ => rfl) ?_ ?_
  · rintro x rest σ S ⟨B', d, t, a4, a5, rfl, rfl, u, hb, e1, e2⟩
    cases t with
    | nil =>
      have e3 : d = row := by simpa using e1.symm
      rw [e3, rng2_none] at e2
      cases e2
    | cons s t =>
      have ll : d.length + (t.length + 1) = row.length := by rw [e1]; simp
      rw [rng2_step (by omega)] at e2
      simp only [List.cons.injEq] at e2
      obtain ⟨rfl, rfl⟩ := e2
      have hs : s ∈ row := by rw [e1]; simp
      have at_ : atI ((partsT kp row).map D.str) (1 + (d.length : Nat)) = some (.str (stT s)) := by
        have e3 : (1 + ((d.length : Nat) : Int)) = ((d.length + 1 : Nat) : Int) := by omega
        rw [e3, Ev.atI_nat, List.getElem?_map, e1]
        unfold partsT
        rw [List.getElem?_cons_succ, List.getElem?_map, List.getElem?_append_right (Nat.le_refl _)]
        simp
      refine ⟨_, rfl, ?_⟩
      and_intros
      refine step_of_wp h (ok s hs) ?_
      have nn : Ev.isNon (stD s) = false := by cases s <;> rfl
      and_intros
      refine br_F nn ?_
      and_intros
      refine wp_append hb (by simp; unfold sizeLine; omega) fun B2 u2 hb2 => ?_
      refine ⟨B2, d ++ [s], t, _, _, rfl, rfl, up_newB u u2 (Nat.le_refl _), by rw [hb2]; simp, by rw [e1]; simp, ?_⟩
      congr 1
      simp; omega
  · rintro σ S ⟨B', d, t, a4, a5, rfl, rfl, u, hb, e1, e2⟩
    have e3 : t = [] := by
      cases t with
      | nil => rfl
      | cons s t =>
        have ll : d.length + (t.length + 1) = row.length := by rw [e1]; simp
        rw [rng2_step (by omega)] at e2
        cases e2
    subst e3
    have e4 : d = row := by simpa using e1.symm
    subst e4
    have fk : decide (ks = Str.ofString "kept") = kp := by rw [hks]; cases kp <;> decide +kernel
    and_intros
    refine wp_ix (a := .str ks) rfl (by rw [hks]; exact atI_head _ _) ?_
    and_intros
    rw [fk]
    refine make_script_wp o h hl ok ?_
    exact fin_same u k
end
end Wk

set_option Elab.async false
set_option linter.all false
set_option maxRecDepth 100000
set_option maxHeartbeats 2000000
/-! what the law asks of one script -/
namespace Wk
open PySem PySem.Spec PyProof.Rows L2 Ev
open Classical
local macro_rules
  | `(tactic| ac_rfl) => `(tactic| (first | rfl | assumption | exact rdlOf_box (by assumption) | omega | exact Nat.le_of_ble_eq_true rfl | exact cmulW _ _ (by omega) (by omega) (by omega) (by omega) | exact cmm (by omega) (by omega) (by omega) (by omega) | exact cdivW _ _ (by omega) (by omega) | (simp only [len_app]; omega)))
local macro_rules
  | `(tactic| and_intros) => `(tactic| repeat first
    | with_reducible refine wE_meth ?_
    | with_reducible refine wE_bin ?_
    | with_reducible refine wE_un ?_
    | with_reducible refine wE_isTy ?_
    | with_reducible refine wE_call ?_
    | with_reducible refine wE_callF ?_
    | with_reducible refine wE_make ?_
    | with_reducible refine wE_and ?_
    | with_reducible refine wE_or ?_
    | with_reducible refine wE_not ?_
    | with_reducible refine wE_if ?_
    | with_reducible refine wE_tup ?_
    | with_reducible refine wE_lst ?_
    | with_reducible refine wE_dic0 ?_
    | with_reducible refine wE_sl ?_
    | with_reducible refine wE_lm ?_
    | with_reducible refine wE_up ?_
    | with_reducible refine wE_oNone ?_
    | with_reducible refine wE_oSome ?_
    | with_reducible refine wA_nil ?_
    | with_reducible refine wA_cons ?_
    | with_reducible refine wA_consB ?_
    | with_reducible refine wT_of ?_
    | with_reducible refine wT_and ?_
    | with_reducible refine wT_or ?_
    | with_reducible refine wT_not ?_
    | with_reducible refine wT_true ?_
    | with_reducible refine wS_seq ?_
    | with_reducible refine wS_next ?_
    | with_reducible refine wS_brk ?_
    | with_reducible refine wS_cnt ?_
    | with_reducible refine wS_retN ?_
    | with_reducible refine wS_expr ?_
    | with_reducible refine wS_ret ?_
    | with_reducible refine wS_if ?_
    | with_reducible refine wS_set ?_
    | with_reducible refine wS_setB ?_
    | with_reducible refine wS_sub ?_
    | with_reducible refine wS_unp ?_
    | with_reducible refine wS_fld ?_
    | with_reducible refine wS_raise ?_
    | with_reducible refine inBox_new ?_
    | with_reducible refine inBox_d ?_
    | with_reducible refine inBox_box ?_
    | with_reducible refine isB_bl ?_
    | with_reducible refine br_true ?_
    | with_reducible refine br_false ?_
    | with_reducible refine wE_c ?_
    | with_reducible refine wS_for ?_
    | with_reducible refine wE_iOf ?_
    | with_reducible refine wE_iRan1 ?_
    | with_reducible refine wE_iRan2 ?_
    | with_reducible refine wE_lc ?_
    | with_reducible refine wE_lc2 ?_
    | with_reducible refine wE_join ?_
    | with_reducible refine wE_tm ?_
    | with_reducible refine wp_add_int ?_
    | with_reducible refine wp_sub ?_
    | with_reducible refine wp_neg ?_
    | with_reducible refine wp_lt ?_
    | with_reducible refine wp_le ?_
    | with_reducible refine wp_gt ?_
    | with_reducible refine wp_ge ?_
    | with_reducible refine wp_eq_int ?_
    | with_reducible refine wp_ne_int ?_
    | with_reducible refine wp_eq_str ?_
    | with_reducible refine wp_ne_str ?_
    | with_reducible refine wp_eq_bl ?_
    | with_reducible refine wp_ne_bl ?_
    | with_reducible refine wp_int ?_
    | with_reducible refine wp_int_bl ?_
    | with_reducible refine wp_len_tup ?_
    | with_reducible refine wp_tuple_tup ?_
    | with_reducible refine wp_list_tup ?_
    | with_reducible refine wp_itA_tup ?_
    | with_reducible refine wp_itA_str ?_
    | with_reducible refine wp_isN ?_
    | with_reducible refine wp_notN ?_
    | with_reducible refine wp_in_sign ?_
    | with_reducible refine wp_notIn_sign ?_
    | with_reducible refine wp_sl_tup ?_
    | with_reducible refine wp_ok ?_
    | with_reducible refine br_not ?_
    | with_reducible refine wE_callG ?_
    | with_reducible refine wE_makeG ?_
    | with_reducible refine wE_own2 ?_
    | with_reducible refine wE_enumV ?_
    | with_reducible refine wE_zipV ?_
    | with_reducible refine wp_max ?_
    | with_reducible refine wp_listT_tup ?_
    | with_reducible refine wp_listT_lst ?_
    | with_reducible refine wp_enum_tup ?_
    | ((with_reducible apply wE_var); ac_rfl)
    | ((with_reducible apply wp_mod); ac_rfl)
    | ((with_reducible apply wp_div); ac_rfl)
    | ((with_reducible apply wp_mul); ac_rfl)
    | ((with_reducible apply wp_pow); ac_rfl)
    | ((with_reducible apply wp_add_str); ac_rfl)
    | ((with_reducible apply wp_add_tup); ac_rfl)
    | ((with_reducible apply wp_add_lst); ac_rfl; ac_rfl; ac_rfl)
    | ((with_reducible apply wp_len_str); ac_rfl)
    | ((with_reducible apply wp_len); ac_rfl)
    | ((with_reducible apply wp_tuple); ac_rfl)
    | ((with_reducible apply wp_list); ac_rfl)
    | ((with_reducible apply wp_ix_tup); ac_rfl)
    | ((with_reducible apply wp_ix); ac_rfl; ac_rfl)
    | ((with_reducible apply wp_ix_str); ac_rfl; ac_rfl)
    | ((with_reducible apply wp_sl_str); ac_rfl)
    | ((with_reducible apply wp_sl); ac_rfl)
    | ((with_reducible apply wp_itA); ac_rfl)
    | ((with_reducible apply wp_itL); ac_rfl)
    | ((with_reducible apply wp_ran1); ac_rfl; ac_rfl)
    | ((with_reducible apply wp_ran2); ac_rfl; ac_rfl; ac_rfl; ac_rfl)
    | ((with_reducible apply ws_putC); ac_rfl; ac_rfl)
    | ((with_reducible apply wp_fld); ac_rfl; ac_rfl)
    | ((with_reducible apply wp_in); ac_rfl; ac_rfl; ac_rfl)
    | ((with_reducible apply wp_notIn); ac_rfl; ac_rfl; ac_rfl)
    | ((with_reducible apply wp_rev); ac_rfl)
    | ((with_reducible apply wp_listT_str); ac_rfl)
    | ((with_reducible apply wp_enum); ac_rfl)
    | (refine ⟨rfl, rfl, ?_⟩)
    | (refine ⟨_, _, rfl, rfl, ?_⟩)
    | (refine ⟨_, _, rfl, Nat.le_of_ble_eq_true rfl, ?_⟩)
    | (refine ⟨_, _, _, rfl, rfl, ?_⟩)
    | (refine ⟨_, rfl, ?_⟩)
    | (refine ⟨_, _, rfl, ?_⟩)
    | (refine ⟨boxOk_of (by assumption), ?_⟩)
    | ((apply And.intro); focus (apply ins_of; assumption; rfl))
    | (refine ⟨boxOk_of getP, ?_⟩)
    | (refine br_decT rfl ?_)
    | ((refine br_decF ?_ ?_); focus (solve | omega))
    | ((refine br_decT ?_ ?_); focus (solve | omega))
    | ((refine br_decF ?_ ?_); focus (solve | simp))
    | ((refine br_decF ?_ ?_); focus (solve | decide +kernel))
    | fail)
theorem eqD_stD (a b : Stp) : eqD (stD a) (stD b) = decide (a = b) := by
  cases a with
  | load t pol m =>
    cases b with
    | load t2 pol2 m2 =>
      simp only [stD]
      rw [eqD_tup]
      show (eqD (.str "load") (.str "load") && (eqD (.str t) (.str t2) && (eqD (.str pol) (.str pol2) && (eqD (.bl m) (.bl m2) && true)))) = _
      rw [eqD_str, eqD_str, eqD_str, eqD_bl]
      simp only [Stp.load.injEq]
      by_cases h1 : t = t2 <;> by_cases h2 : pol = pol2 <;> by_cases h3 : m = m2 <;> simp [h1, h2, h3]
    | chg kd t2 c =>
      simp only [stD]
      rw [eqD_tup]
      show (eqD (.str "load") (.str kd) && (eqD (.str t) (.str t2) && (eqD (.str pol) (.str c) && false))) = _
      simp
  | chg kd t c =>
    cases b with
    | load t2 pol2 m2 =>
      simp only [stD]
      rw [eqD_tup]
      show (eqD (.str kd) (.str "load") && (eqD (.str t) (.str t2) && (eqD (.str c) (.str pol2) && false))) = _
      simp
    | chg kd2 t2 c2 =>
      simp only [stD]
      rw [eqD_tup]
      show (eqD (.str kd) (.str kd2) && (eqD (.str t) (.str t2) && (eqD (.str c) (.str c2) && true))) = _
      rw [eqD_str, eqD_str, eqD_str]
      simp only [Stp.chg.injEq]
      by_cases h1 : kd = kd2 <;> by_cases h2 : t = t2 <;> by_cases h3 : c = c2 <;> simp [h1, h2, h3]
theorem eqD_row (a b : List Stp) : eqD (.tup (a.map stD)) (.tup (b.map stD)) = decide (a = b) := by
  rw [eqD_tup, eqDl_map stD (fun x y => (eqD_stD x y).trans (by congr))]
theorem okD_stp (n : Nat) (s : Stp) : okD (n + 1) (stD s) = true := by cases s <;> rfl
theorem okD_row (n : Nat) (row : List Stp) : okD (n + 2) (.tup (row.map stD)) = true := okDs_iff.mpr fun x hx => by
  obtain ⟨s, _, rfl⟩ := List.mem_map.mp hx
  exact okD_stp n s
theorem wE_ownLen {c : String} {F : FV} {Ta : EV} {σ : Sl} {S : Sta} {Q : Vl → Sta → Prop} {X : XP} (k : wE Ta σ S (fun v S1 => isCls c (frz v) S1 = true ∧ wp (F [frz v] S1) (fun r S2 => ∃ n, r = .d (.int n) ∧ (0 ≤ n ∧ n < 2 ^ 63) ∧ Q (.d (.int n)) S2) X) X) : wE (eOwnLen c F Ta) σ S Q X := by
  unfold Ev.wE eOwnLen; rw [wp_bind]
  refine wp_monoQ k fun v S1 h => ?_
  rw [if_pos h.1, wp_bind]
  refine wp_monoQ h.2 fun r S2 h => ?_
  obtain ⟨n, rfl, hn, h⟩ := h
  dsimp only
  rw [if_pos hn]; exact h
section
variable {P : List Ob} {B : Bx} {f i j i2 j2 : Nat} {p q : List Ent} {e : Ent} {t c : Str} {s : Stp} {row row2 : List Stp} {kp kp2 : Bool} {Q : Vl → Sta → Prop} {X : XP}
theorem len_m (o : P[i]? = some (scO j row kp)) (k : Q (.d (.int row.length)) ⟨P, B⟩) : wp (F_Script_len [.d (.obj i)] ⟨P, B⟩) Q X := by
  unfold F_Script_len
  refine wp_fn rfl ?_
  unfold t_Script_len
  and_intros
  rw [List.length_map]
  exact fin_same .refl k
theorem schema_m (o : P[i]? = some (scO j row kp)) (k : Q (.d (.obj j)) ⟨P, B⟩) : wp (F_Script_schema [.d (.obj i)] ⟨P, B⟩) Q X := by
  unfold F_Script_schema
  refine wp_fn rfl ?_
  unfold t_Script_schema
  and_intros
  exact fin_same .refl k
theorem holds_wp (o : P[i]? = some (scO j row kp)) (hl : row.length ≤ 20) (k : Q (.d (.bl true)) ⟨P, B⟩) : wp (F__law_holds [.d (.obj i), .d (.tup (row.map stD)), .d (.bl kp)] ⟨P, B⟩) Q X := by
  unfold F__law_holds
  refine wp_fn rfl ?_
  and_intros
  refine steps_m o ?_
  and_intros
  refine steps_m o ?_
  and_intros
  refine wp_ne_d rfl rfl (okD_row 58 row) (okD_row 58 row) ?_
  rw [eqD_row, decide_eq_true rfl]
  and_intros
  refine wE_ownLen ?_
  and_intros
  refine ⟨isCls_of (fs := [("frame", .obj j), ("sequence", .tup (row.map stD)), ("keeping", .bl kp)]) o, ?_⟩
  refine len_m o ?_
  refine ⟨_, rfl, ⟨by omega, by omega⟩, ?_⟩
  and_intros
  refine br_decT (by rw [List.length_map]) ?_
  and_intros
  refine steps_m o ?_
  and_intros
  refine wFor_inv (fun rest σ S => S = ⟨P, B⟩ ∧ (∃ a3, σ = [some (.d (.obj i)), some (.d (.tup (row.map stD))), some (.d (.bl kp)), a3]) ∧ ∀ x ∈ rest, x ∈ row.map stD) ⟨rfl, ⟨_, rfl⟩, fun _ h => h⟩ (fun _ _ _ _ => rfl) ?_ ?_
  · rintro x rest σ S ⟨rfl, ⟨a3, rfl⟩, hr⟩
    obtain ⟨s, _, rfl⟩ := List.mem_map.mp (hr x List.mem_cons_self)
    refine ⟨_, rfl, ?_⟩
    cases s with
    | load t pol m =>
      simp only [stD]
      and_intros
      exact ⟨rfl, ⟨_, rfl⟩, fun y hy => hr y (List.mem_cons_of_mem _ hy)⟩
    | chg kd t c =>
      simp only [stD]
      and_intros
      exact ⟨rfl, ⟨_, rfl⟩, fun y hy => hr y (List.mem_cons_of_mem _ hy)⟩
  · rintro σ S ⟨rfl, ⟨a3, rfl⟩, _⟩
    and_intros
    rw [decide_eq_true rfl]
    exact fin_same .refl k
theorem script_eq_wp (o : P[i]? = some (scO j row kp)) (o2 : P[i2]? = some (scO j2 row2 kp2)) (oj : P[j]? = some (schO p)) (oj2 : P[j2]? = some (schO q)) (k : Q (.d (.bl (decide (p = q) && (decide (row = row2) && decide (kp = kp2))))) ⟨P, B⟩) : wp (F_Script_eq [.d (.obj i), .d (.obj i2)] ⟨P, B⟩) Q X := by
  unfold F_Script_eq
  refine wp_fn rfl ?_
  and_intros
  refine wp_isT (tyV_of (fs := [("frame", .obj j2), ("sequence", .tup (row2.map stD)), ("keeping", .bl kp2)]) o2) (b := true) (by decide) ?_
  and_intros
  refine ⟨⟨isCls_of (fs := [("plan", planD p)]) oj, ?_⟩, ?_⟩
  · show tyOk (nfOwn ["Schema", "Script"]) (.d (.obj j2)) ⟨P, B⟩ = true
    unfold tyOk
    rw [tyV_of (fs := [("plan", planD q)]) oj2]
    decide
  refine eq_wp oj oj2 ?_
  and_intros
  refine br_dec (fun h1 => ?_) (fun h1 => ?_)
  · and_intros
    refine wp_eq_d rfl rfl (okD_row 58 row) (okD_row 58 row2) ?_
    rw [eqD_row]
    and_intros
    refine br_dec (fun h2 => ?_) (fun h2 => ?_)
    · and_intros
      simp only [h1, h2, decide_true, Bool.true_and] at k
      exact fin_same .refl k
    · simp only [h1, h2, decide_true, decide_false, Bool.true_and, Bool.false_and] at k
      exact fin_same .refl k
  · simp only [h1, decide_false, Bool.false_and] at k
    exact fin_same .refl k
theorem right_wp (of_ : P[f]? = some (schO p)) (o : P[i]? = some (scO j row kp)) (oj : P[j]? = some (schO p)) (h : PlanOk 5 3 p) (ok : ∀ s ∈ row, StpOk p s) (hl : row.length ≤ 20) (k : ∀ P' : List Ob, (∀ (j : Nat) (x : Ob), P[j]? = some x → P'[j]? = some x) → Q (.d (.bl true)) ⟨P', B⟩) : wp (F__law_right [.d (.obj f), .d (.obj i), .d (.tup (row.map stD)), .d (.bl kp)] ⟨P, B⟩) Q X := by
  unfold F__law_right
  refine wp_fn rfl ?_
  and_intros
  refine law_text_wp h ok hl ?_
  and_intros
  refine script_text_wp o h ok hl ?_
  and_intros
  refine read_script_wp of_ h ok hl ?_
  and_intros
  refine read_script_wp (getApp of_) h ok hl ?_
  and_intros
  have f2 : (P ++ [scO f row kp] ++ [scO f row kp])[f]? = some (schO p) := getApp (getApp of_)
  have i2 : (P ++ [scO f row kp] ++ [scO f row kp])[i]? = some (scO j row kp) := getApp (getApp o)
  have j2 : (P ++ [scO f row kp] ++ [scO f row kp])[j]? = some (schO p) := getApp (getApp oj)
  have n1 : (P ++ [scO f row kp] ++ [scO f row kp])[P.length]? = some (scO f row kp) := getApp (by simp)
  have n2 : (P ++ [scO f row kp] ++ [scO f row kp])[(P ++ [scO f row kp]).length]? = some (scO f row kp) := by simp
  have kk := k (P ++ [scO f row kp] ++ [scO f row kp]) fun j x hx => getApp (getApp hx)
  revert f2 i2 j2 n1 n2 kk
  generalize P ++ [scO f row kp] ++ [scO f row kp] = P2
  generalize (P ++ [scO f row kp]).length = m2
  generalize P.length = m1
  intro f2 i2 j2 n1 n2 kk
  refine wFor_inv (fun rest σ S => S = ⟨P2, B⟩ ∧ (∃ c6, σ = [some (.d (.obj f)), some (.d (.obj i)), some (.d (.tup (row.map stD))), some (.d (.bl kp)), some (.d (.str (scT kp row))), some (.d (.str (scT kp row))), c6]) ∧ ∀ x ∈ rest, ∃ m, x = .obj m ∧ P2[m]? = some (scO f row kp)) ⟨rfl, ⟨_, rfl⟩, fun x hx => ?_⟩ ?_ ?_ ?_
  · rcases List.mem_cons.mp hx with rfl | hx
    · exact ⟨_, rfl, n1⟩
    · rw [List.mem_singleton.mp hx]; exact ⟨_, rfl, n2⟩
  · rintro rest σ S ⟨rfl, _⟩
    exact decide_eq_true rfl
  · rintro x rest σ S ⟨rfl, ⟨c6, rfl⟩, hr⟩
    obtain ⟨m, rfl, om⟩ := hr _ List.mem_cons_self
    refine ⟨_, rfl, ?_⟩
    and_intros
    refine holds_wp om hl ?_
    and_intros
    refine ⟨⟨isCls_of (fs := [("frame", .obj f), ("sequence", .tup (row.map stD)), ("keeping", .bl kp)]) om, ?_⟩, ?_⟩
    · show tyOk (nfOwn ["Schema", "Script"]) (.d (.obj i)) ⟨P2, B⟩ = true
      unfold tyOk
      rw [tyV_of (fs := [("frame", .obj j), ("sequence", .tup (row.map stD)), ("keeping", .bl kp)]) i2]
      decide
    refine script_eq_wp om i2 f2 j2 ?_
    simp only [decide_true, Bool.true_and]
    and_intros
    refine schema_m om ?_
    and_intros
    refine ⟨⟨isCls_of (fs := [("plan", planD p)]) f2, ?_⟩, ?_⟩
    · show tyOk (nfOwn ["Schema", "Script"]) (.d (.obj f)) ⟨P2, B⟩ = true
      unfold tyOk
      rw [tyV_of (fs := [("plan", planD p)]) f2]
      decide
    refine eq_wp f2 f2 ?_
    simp only [decide_true]
    and_intros
    refine script_text_wp om h ok hl ?_
    and_intros
    exact ⟨rfl, ⟨_, rfl⟩, fun y hy => hr y (List.mem_cons_of_mem _ hy)⟩
  · rintro σ S ⟨rfl, ⟨c6, rfl⟩, _⟩
    and_intros
    refine holds_wp i2 hl ?_
    exact fin_same .refl kk
end
end Wk

set_option Elab.async false
set_option linter.all false
set_option maxRecDepth 100000
set_option maxHeartbeats 2000000
/-! steps that are drawn; when texts of scripts are equal -/
namespace Wk
open PySem PySem.Spec PyProof.Rows L2 Ev
open Classical
local macro_rules
  | `(tactic| ac_rfl) => `(tactic| (first | rfl | assumption | exact rdlOf_box (by assumption) | omega | exact Nat.le_of_ble_eq_true rfl | exact cmulW _ _ (by omega) (by omega) (by omega) (by omega) | exact cmm (by omega) (by omega) (by omega) (by omega) | exact cdivW _ _ (by omega) (by omega) | (simp only [len_app]; omega)))
local macro_rules
  | `(tactic| and_intros) => `(tactic| repeat first
    | with_reducible refine wE_meth ?_
    | with_reducible refine wE_bin ?_
    | with_reducible refine wE_un ?_
    | with_reducible refine wE_isTy ?_
    | with_reducible refine wE_call ?_
    | with_reducible refine wE_callF ?_
    | with_reducible refine wE_make ?_
    | with_reducible refine wE_and ?_
    | with_reducible refine wE_or ?_
    | with_reducible refine wE_not ?_
    | with_reducible refine wE_if ?_
    | with_reducible refine wE_tup ?_
    | with_reducible refine wE_lst ?_
    | with_reducible refine wE_dic0 ?_
    | with_reducible refine wE_sl ?_
    | with_reducible refine wE_lm ?_
    | with_reducible refine wE_up ?_
    | with_reducible refine wE_oNone ?_
    | with_reducible refine wE_oSome ?_
    | with_reducible refine wA_nil ?_
    | with_reducible refine wA_cons ?_
    | with_reducible refine wA_consB ?_
    | with_reducible refine wT_of ?_
    | with_reducible refine wT_and ?_
    | with_reducible refine wT_or ?_
    | with_reducible refine wT_not ?_
    | with_reducible refine wT_true ?_
    | with_reducible refine wS_seq ?_
    | with_reducible refine wS_next ?_
    | with_reducible refine wS_brk ?_
    | with_reducible refine wS_cnt ?_
    | with_reducible refine wS_retN ?_
    | with_reducible refine wS_expr ?_
    | with_reducible refine wS_ret ?_
    | with_reducible refine wS_if ?_
    | with_reducible refine wS_set ?_
    | with_reducible refine wS_setB ?_
    | with_reducible refine wS_sub ?_
    | with_reducible refine wS_unp ?_
    | with_reducible refine wS_fld ?_
    | with_reducible refine wS_raise ?_
    | with_reducible refine inBox_new ?_
    | with_reducible refine inBox_d ?_
    | with_reducible refine inBox_box ?_
    | with_reducible refine isB_bl ?_
    | with_reducible refine br_true ?_
    | with_reducible refine br_false ?_
    | with_reducible refine wE_c ?_
    | with_reducible refine wS_for ?_
    | with_reducible refine wE_iOf ?_
    | with_reducible refine wE_iRan1 ?_
    | with_reducible refine wE_iRan2 ?_
    | with_reducible refine wE_lc ?_
    | with_reducible refine wE_lc2 ?_
    | with_reducible refine wE_join ?_
    | with_reducible refine wE_tm ?_
    | with_reducible refine wp_add_int ?_
    | with_reducible refine wp_sub ?_
    | with_reducible refine wp_neg ?_
    | with_reducible refine wp_lt ?_
    | with_reducible refine wp_le ?_
    | with_reducible refine wp_gt ?_
    | with_reducible refine wp_ge ?_
    | with_reducible refine wp_eq_int ?_
    | with_reducible refine wp_ne_int ?_
    | with_reducible refine wp_eq_str ?_
    | with_reducible refine wp_ne_str ?_
    | with_reducible refine wp_eq_bl ?_
    | with_reducible refine wp_ne_bl ?_
    | with_reducible refine wp_int ?_
    | with_reducible refine wp_int_bl ?_
    | with_reducible refine wp_len_tup ?_
    | with_reducible refine wp_tuple_tup ?_
    | with_reducible refine wp_list_tup ?_
    | with_reducible refine wp_itA_tup ?_
    | with_reducible refine wp_itA_str ?_
    | with_reducible refine wp_isN ?_
    | with_reducible refine wp_notN ?_
    | with_reducible refine wp_in_sign ?_
    | with_reducible refine wp_notIn_sign ?_
    | with_reducible refine wp_sl_tup ?_
    | with_reducible refine wp_ok ?_
    | with_reducible refine br_not ?_
    | with_reducible refine wE_callG ?_
    | with_reducible refine wE_makeG ?_
    | with_reducible refine wE_own2 ?_
    | with_reducible refine wE_enumV ?_
    | with_reducible refine wE_zipV ?_
    | with_reducible refine wp_max ?_
    | with_reducible refine wp_listT_tup ?_
    | with_reducible refine wp_listT_lst ?_
    | with_reducible refine wp_enum_tup ?_
    | ((with_reducible apply wE_var); ac_rfl)
    | ((with_reducible apply wp_mod); ac_rfl)
    | ((with_reducible apply wp_div); ac_rfl)
    | ((with_reducible apply wp_mul); ac_rfl)
    | ((with_reducible apply wp_pow); ac_rfl)
    | ((with_reducible apply wp_add_str); ac_rfl)
    | ((with_reducible apply wp_add_tup); ac_rfl)
    | ((with_reducible apply wp_add_lst); ac_rfl; ac_rfl; ac_rfl)
    | ((with_reducible apply wp_len_str); ac_rfl)
    | ((with_reducible apply wp_len); ac_rfl)
    | ((with_reducible apply wp_tuple); ac_rfl)
    | ((with_reducible apply wp_list); ac_rfl)
    | ((with_reducible apply wp_ix_tup); ac_rfl)
    | ((with_reducible apply wp_ix); ac_rfl; ac_rfl)
    | ((with_reducible apply wp_ix_str); ac_rfl; ac_rfl)
    | ((with_reducible apply wp_sl_str); ac_rfl)
    | ((with_reducible apply wp_sl); ac_rfl)
    | ((with_reducible apply wp_itA); ac_rfl)
    | ((with_reducible apply wp_itL); ac_rfl)
    | ((with_reducible apply wp_ran1); ac_rfl; ac_rfl)
    | ((with_reducible apply wp_ran2); ac_rfl; ac_rfl; ac_rfl; ac_rfl)
    | ((with_reducible apply ws_putC); ac_rfl; ac_rfl)
    | ((with_reducible apply wp_fld); ac_rfl; ac_rfl)
    | ((with_reducible apply wp_in); ac_rfl; ac_rfl; ac_rfl)
    | ((with_reducible apply wp_notIn); ac_rfl; ac_rfl; ac_rfl)
    | ((with_reducible apply wp_rev); ac_rfl)
    | ((with_reducible apply wp_listT_str); ac_rfl)
    | ((with_reducible apply wp_enum); ac_rfl)
    | (refine ⟨rfl, rfl, ?_⟩)
    | (refine ⟨_, _, rfl, rfl, ?_⟩)
    | (refine ⟨_, _, rfl, Nat.le_of_ble_eq_true rfl, ?_⟩)
    | (refine ⟨_, _, _, rfl, rfl, ?_⟩)
    | (refine ⟨_, rfl, ?_⟩)
    | (refine ⟨_, _, rfl, ?_⟩)
    | (refine ⟨boxOk_of (by assumption), ?_⟩)
    | ((apply And.intro); focus (apply ins_of; assumption; rfl))
    | (refine ⟨boxOk_of getP, ?_⟩)
    | (refine br_decT rfl ?_)
    | ((refine br_decF ?_ ?_); focus (solve | omega))
    | ((refine br_decT ?_ ?_); focus (solve | omega))
    | ((refine br_decF ?_ ?_); focus (solve | simp))
    | ((refine br_decF ?_ ?_); focus (solve | decide +kernel))
    | fail)
theorem wordsT_inj {p : List Ent} {a b : Stp} (oa : StpOk p a) (ob : StpOk p b) (e : wordsT a = wordsT b) : a = b := by
  have nl : ∀ kd : Str, kd ∈ chgs → kd ≠ "load" := fun kd h z => by
    subst z; revert h; decide +kernel
  cases a with
  | load t pol m =>
    cases b with
    | load t2 pol2 m2 =>
      cases m <;> cases m2 <;> simp [wordsT] at e ⊢
      · exact e
      · exact e
    | chg kd t2 c =>
      cases m
      · simp [wordsT] at e
        exact absurd e.1.symm (nl kd ob.1)
      · simp [wordsT] at e
  | chg kd t c =>
    cases b with
    | load t2 pol2 m2 =>
      cases m2
      · simp [wordsT] at e
        exact absurd e.1 (nl kd oa.1)
      · simp [wordsT] at e
    | chg kd2 t2 c2 =>
      simpa [wordsT] using e
theorem stT_inj {p : List Ent} (h : PlanOk 5 3 p) {a b : Stp} (oa : StpOk p a) (ob : StpOk p b) (e : stT a = stT b) : a = b := by
  have h1 := st_split h oa
  have h2 := st_split h ob
  rw [e, h2] at h1
  exact wordsT_inj oa ob h1.symm
theorem rows_inj {p : List Ent} (h : PlanOk 5 3 p) : ∀ {a b : List Stp}, (∀ s ∈ a, StpOk p s) → (∀ s ∈ b, StpOk p s) → a.map stT = b.map stT → a = b
  | [], [], _, _, _ => rfl
  | [], _ :: _, _, _, e => by simp at e
  | _ :: _, [], _, _, e => by simp at e
  | x :: r, y :: q, h1, h2, e => by
    simp only [List.map_cons, List.cons.injEq] at e
    rw [stT_inj h (h1 x List.mem_cons_self) (h2 y List.mem_cons_self) e.1, rows_inj h (fun s hs => h1 s (List.mem_cons_of_mem _ hs)) (fun s hs => h2 s (List.mem_cons_of_mem _ hs)) e.2]
theorem keep_inj {a b : Bool} (e : keepS a = keepS b) : a = b := by
  cases a <;> cases b <;> first | rfl | (exfalso; revert e; decide +kernel)
theorem sc_inj {p : List Ent} (h : PlanOk 5 3 p) {a b : List Stp} {x y : Bool} (oa : ∀ s ∈ a, StpOk p s) (ob : ∀ s ∈ b, StpOk p s) (e : scT x a = scT y b) : a = b ∧ x = y := by
  have h1 := parts_split (kp := x) h oa
  have h2 := parts_split (kp := y) h ob
  rw [e, h2] at h1
  unfold partsT at h1
  simp only [List.cons.injEq] at h1
  exact ⟨rows_inj h oa ob h1.2.symm, keep_inj h1.1.symm⟩
section
variable {P : List Ob} {B : Bx} {b i j : Nat} {n : Int} {p : List Ent} {Q : Vl → Sta → Prop} {X : XP}
theorem law_step_wp (hs : Sto B b n) (hn : n ≤ 2 ^ 28) (h : PlanOk 5 3 p) (k : ∀ (s : Stp) (B' : Bx), StpOk p s → Ch [b] B B' → Sto B' b (n + 4) → Q (.d (stD s)) ⟨P, B'⟩) : wp (F__law_step [.box b, .d (planD p)] ⟨P, B⟩) Q X := by
  have lo := h.lo
  have hi := h.hi
  unfold F__law_step
  refine wp_fn rfl ?_
  and_intros
  refine draw_wp hs (by omega) (by simp; omega) (by simp; omega) fun d B1 d0 d1 u1 s1 => ?_
  and_intros
  obtain ⟨x, x1, x2⟩ := atI_of (p.map eD) d d0 d1
  obtain ⟨e, he, rfl⟩ := List.mem_map.mp x2
  have l3 := (h.ent e he).len
  refine wp_ix_tup (l := p.map eD) x1 ?_
  and_intros
  refine draw_wp s1 (by omega) (by omega) (by omega) fun way B2 w0 w1 u2 s2 => ?_
  have fin : ∀ (s : Stp) (B3 : Bx), StpOk p s → Ch [b] B2 B3 → Sto B3 b (n + 4) → wp (fin B.length (.ret (.d (stD s)) ⟨P, B3⟩)) Q X := fun s B3 ok u3 s3 =>
    fin_cut ((u1.trans u2).trans u3) (k s B3 ok ((u1.trans u2).trans u3) s3)
  have load : ∀ (nx : Sl → Sta → Prop), wS (sRet (eTup (aCons (eC (.str "load")) (aCons (eVar 2) (aCons (eBin ixF (eLst (aCons (eC (.str "raw")) (aCons (eC (.str "blank")) (aCons (eC (.str "refuse")) (aNil))))) (eCallF F__law_draw [] (aCons (eVar 0) (aCons (eC (.int 3)) (aNil))))) (aCons (eBin eqF (eCallF F__law_draw [] (aCons (eVar 0) (aCons (eC (.int 2)) (aNil)))) (eC (.int 1))) (aNil)))))))
      [some (.box b), some (.d (planD p)), some (.d (.str e.name)), some (.d (.bl e.uq)), some (.d (.tup (e.refs.map rD))), some (.d (.int way))] ⟨P, B2⟩ nx (fun v S1 => wp (Ev.fin B.length (.ret v S1)) Q X) (fun _ _ => False) (fun _ _ => False) (fun c fs _ S1 => X c fs (cutB B.length S1)) := by
    intro nx
    and_intros
    refine draw_wp s2 (by omega) (by omega) (by omega) fun d3 B3 e0 e1 u3 s3 => ?_
    and_intros
    obtain ⟨y, y1, y2⟩ := atI_of (pols.map D.str) d3 e0 e1
    obtain ⟨pol, hp, rfl⟩ := List.mem_map.mp y2
    refine wp_ix (l := pols.map D.str) rfl y1 ?_
    and_intros
    refine draw_wp s3 (by omega) (by omega) (by omega) fun d4 B4 f0 f1 u4 s4 => ?_
    and_intros
    exact fin (.load e.name pol (decide (d4 = 1))) B4 ⟨List.mem_map_of_mem he, hp⟩ (u3.trans u4) (s4.mono (by omega))
  and_intros
  refine br_dec (fun hw => ?_) (fun hw => ?_)
  · exact br_true (load _)
  · and_intros
    refine wp_eq_d rfl rfl (by
      refine okDs_iff.mpr fun x hx => ?_
      obtain ⟨r, _, rfl⟩ := List.mem_map.mp hx
      exact okD_ref 58 r) rfl ?_
    and_intros
    refine br_any (fun hr => ?_) (fun hr => ?_)
    · exact load _
    · have rn : e.refs ≠ [] := fun z => by rw [z] at hr; cases hr
      have rl : 1 ≤ e.refs.length := by
        cases hz : e.refs with
        | nil => exact absurd hz rn
        | cons _ _ => simp
      and_intros
      have l3c : ((chgs.map D.str).length : Int) = 3 := rfl
      obtain ⟨y, y1, y2⟩ := atI_of (chgs.map D.str) (way - 2) (by omega) (by omega)
      obtain ⟨kd, hk, rfl⟩ := List.mem_map.mp y2
      refine wp_ix (l := chgs.map D.str) rfl y1 ?_
      and_intros
      refine draw_wp s2 (by omega) (by simp; omega) (by simp; omega) fun d5 B3 g0 g1 u3 s3 => ?_
      and_intros
      obtain ⟨z, z1, z2⟩ := atI_of (e.refs.map rD) d5 g0 g1
      obtain ⟨r, hr2, rfl⟩ := List.mem_map.mp z2
      refine wp_ix_tup (l := e.refs.map rD) z1 ?_
      and_intros
      exact fin (.chg kd e.name r.1) B3 ⟨hk, e, he, rfl, List.mem_map_of_mem hr2⟩ u3 (s3.mono (by omega))
end
end Wk

set_option Elab.async false
set_option linter.all false
set_option maxRecDepth 100000
set_option maxHeartbeats 4000000
/-! the law -/
namespace Wk
open PySem PySem.Spec PyProof.Rows L2 Ev
open Classical
local macro_rules
  | `(tactic| ac_rfl) => `(tactic| (first | rfl | assumption | exact rdlOf_box (by assumption) | omega | exact Nat.le_of_ble_eq_true rfl | exact cmulW _ _ (by omega) (by omega) (by omega) (by omega) | exact cmm (by omega) (by omega) (by omega) (by omega) | exact cdivW _ _ (by omega) (by omega) | (simp only [len_app]; omega)))
local macro_rules
  | `(tactic| and_intros) => `(tactic| repeat first
    | with_reducible refine wE_meth ?_
    | with_reducible refine wE_bin ?_
    | with_reducible refine wE_un ?_
    | with_reducible refine wE_isTy ?_
    | with_reducible refine wE_call ?_
    | with_reducible refine wE_callF ?_
    | with_reducible refine wE_make ?_
    | with_reducible refine wE_and ?_
    | with_reducible refine wE_or ?_
    | with_reducible refine wE_not ?_
    | with_reducible refine wE_if ?_
    | with_reducible refine wE_tup ?_
    | with_reducible refine wE_lst ?_
    | with_reducible refine wE_dic0 ?_
    | with_reducible refine wE_sl ?_
    | with_reducible refine wE_lm ?_
    | with_reducible refine wE_up ?_
    | with_reducible refine wE_oNone ?_
    | with_reducible refine wE_oSome ?_
    | with_reducible refine wA_nil ?_
    | with_reducible refine wA_cons ?_
    | with_reducible refine wA_consB ?_
    | with_reducible refine wT_of ?_
    | with_reducible refine wT_and ?_
    | with_reducible refine wT_or ?_
    | with_reducible refine wT_not ?_
    | with_reducible refine wT_true ?_
    | with_reducible refine wS_seq ?_
    | with_reducible refine wS_next ?_
    | with_reducible refine wS_brk ?_
    | with_reducible refine wS_cnt ?_
    | with_reducible refine wS_retN ?_
    | with_reducible refine wS_expr ?_
    | with_reducible refine wS_ret ?_
    | with_reducible refine wS_if ?_
    | with_reducible refine wS_set ?_
    | with_reducible refine wS_setB ?_
    | with_reducible refine wS_sub ?_
    | with_reducible refine wS_unp ?_
    | with_reducible refine wS_fld ?_
    | with_reducible refine wS_raise ?_
    | with_reducible refine inBox_new ?_
    | with_reducible refine inBox_d ?_
    | with_reducible refine inBox_box ?_
    | with_reducible refine isB_bl ?_
    | with_reducible refine br_true ?_
    | with_reducible refine br_false ?_
    | with_reducible refine wE_c ?_
    | with_reducible refine wS_for ?_
    | with_reducible refine wE_iOf ?_
    | with_reducible refine wE_iRan1 ?_
    | with_reducible refine wE_iRan2 ?_
    | with_reducible refine wE_lc ?_
    | with_reducible refine wE_lc2 ?_
    | with_reducible refine wE_join ?_
    | with_reducible refine wE_tm ?_
    | with_reducible refine wp_add_int ?_
    | with_reducible refine wp_sub ?_
    | with_reducible refine wp_neg ?_
    | with_reducible refine wp_lt ?_
    | with_reducible refine wp_le ?_
    | with_reducible refine wp_gt ?_
    | with_reducible refine wp_ge ?_
    | with_reducible refine wp_eq_int ?_
    | with_reducible refine wp_ne_int ?_
    | with_reducible refine wp_eq_str ?_
    | with_reducible refine wp_ne_str ?_
    | with_reducible refine wp_eq_bl ?_
    | with_reducible refine wp_ne_bl ?_
    | with_reducible refine wp_int ?_
    | with_reducible refine wp_int_bl ?_
    | with_reducible refine wp_len_tup ?_
    | with_reducible refine wp_tuple_tup ?_
    | with_reducible refine wp_list_tup ?_
    | with_reducible refine wp_itA_tup ?_
    | with_reducible refine wp_itA_str ?_
    | with_reducible refine wp_isN ?_
    | with_reducible refine wp_notN ?_
    | with_reducible refine wp_in_sign ?_
    | with_reducible refine wp_notIn_sign ?_
    | with_reducible refine wp_sl_tup ?_
    | with_reducible refine wp_ok ?_
    | with_reducible refine br_not ?_
    | with_reducible refine wE_callG ?_
    | with_reducible refine wE_makeG ?_
    | with_reducible refine wE_own2 ?_
    | with_reducible refine wE_enumV ?_
    | with_reducible refine wE_zipV ?_
    | with_reducible refine wp_max ?_
    | with_reducible refine wp_listT_tup ?_
    | with_reducible refine wp_listT_lst ?_
    | with_reducible refine wp_enum_tup ?_
    | ((with_reducible apply wE_var); ac_rfl)
    | ((with_reducible apply wp_mod); ac_rfl)
    | ((with_reducible apply wp_div); ac_rfl)
    | ((with_reducible apply wp_mul); ac_rfl)
    | ((with_reducible apply wp_pow); ac_rfl)
    | ((with_reducible apply wp_add_str); ac_rfl)
    | ((with_reducible apply wp_add_tup); ac_rfl)
    | ((with_reducible apply wp_add_lst); ac_rfl; ac_rfl; ac_rfl)
    | ((with_reducible apply wp_len_str); ac_rfl)
    | ((with_reducible apply wp_len); ac_rfl)
    | ((with_reducible apply wp_tuple); ac_rfl)
    | ((with_reducible apply wp_list); ac_rfl)
    | ((with_reducible apply wp_ix_tup); ac_rfl)
    | ((with_reducible apply wp_ix); ac_rfl; ac_rfl)
    | ((with_reducible apply wp_ix_str); ac_rfl; ac_rfl)
    | ((with_reducible apply wp_sl_str); ac_rfl)
    | ((with_reducible apply wp_sl); ac_rfl)
    | ((with_reducible apply wp_itA); ac_rfl)
    | ((with_reducible apply wp_itL); ac_rfl)
    | ((with_reducible apply wp_ran1); ac_rfl; ac_rfl)
    | ((with_reducible apply wp_ran2); ac_rfl; ac_rfl; ac_rfl; ac_rfl)
    | ((with_reducible apply ws_putC); ac_rfl; ac_rfl)
    | ((with_reducible apply wp_fld); ac_rfl; ac_rfl)
    | ((with_reducible apply wp_in); ac_rfl; ac_rfl; ac_rfl)
    | ((with_reducible apply wp_notIn); ac_rfl; ac_rfl; ac_rfl)
    | ((with_reducible apply wp_rev); ac_rfl)
    | ((with_reducible apply wp_listT_str); ac_rfl)
    | ((with_reducible apply wp_enum); ac_rfl)
    | (refine ⟨rfl, rfl, ?_⟩)
    | (refine ⟨_, _, rfl, rfl, ?_⟩)
    | (refine ⟨_, _, rfl, Nat.le_of_ble_eq_true rfl, ?_⟩)
    | (refine ⟨_, _, _, rfl, rfl, ?_⟩)
    | (refine ⟨_, rfl, ?_⟩)
    | (refine ⟨_, _, rfl, ?_⟩)
    | (refine ⟨boxOk_of (by assumption), ?_⟩)
    | ((apply And.intro); focus (apply ins_of; assumption; rfl))
    | (refine ⟨boxOk_of getP, ?_⟩)
    | (refine br_decT rfl ?_)
    | ((refine br_decF ?_ ?_); focus (solve | omega))
    | ((refine br_decT ?_ ?_); focus (solve | omega))
    | ((refine br_decF ?_ ?_); focus (solve | simp))
    | ((refine br_decF ?_ ?_); focus (solve | decide +kernel))
    | fail)
/-- a case: a script, its steps, whether it keeps -/
def kD (c : Nat × List Stp × Bool) : D := .tup [.obj c.1, .tup (c.2.1.map stD), .bl c.2.2]
def Csz (p : List Ent) (P : List Ob) (cs : List (Nat × List Stp × Bool)) : Prop := ∀ c ∈ cs, ∃ j, P[c.1]? = some (scO j c.2.1 c.2.2) ∧ P[j]? = some (schO p) ∧ c.2.1.length ≤ 20 ∧ ∀ s ∈ c.2.1, StpOk p s
theorem Csz.up {p : List Ent} {P P' : List Ob} {cs} (h : Csz p P cs) (u : ∀ (j : Nat) (x : Ob), P[j]? = some x → P'[j]? = some x) : Csz p P' cs := fun c hc => by
  obtain ⟨j, h1, h2, h3⟩ := h c hc
  exact ⟨j, u _ _ h1, u _ _ h2, h3⟩
theorem Csz.app {p : List Ent} {P : List Ob} {cs c} (h : Csz p P cs) (k : Csz p P [c]) : Csz p P (cs ++ [c]) := fun x hx => by
  rcases List.mem_append.mp hx with hx | hx
  · exact h x hx
  · exact k x hx
theorem cut_span {α : Type} (l : List α) (a b : Nat) : (cut l (some (a : Int)) (some (b : Int))).length ≤ b - a := by
  unfold cut
  rw [HT.sIx_nat, HT.sIx_nat, List.length_take, List.length_drop]
  omega
section
variable {P : List Ob} {B : Bx} {i j f : Nat} {p : List Ent} {ns : List Int} {Q : Vl → Sta → Prop} {X : XP}
/-- the steps that are drawn for some cells -/
theorem row_wp {cells : List Int} {chk : Sta → Bool} (hchk : ∀ S, chk S = true) {a0 a2 a3 a4 a5 a6 a7 a8 a9 a10 : Option Vl} (h : PlanOk 5 3 p) (hc : cells.length ≤ 20) {K : List D → Sta → Prop} (k : ∀ (row : List Stp) (B' : Bx), row.length = cells.length → (∀ s ∈ row, StpOk p s) → Up [] B B' → K (row.map stD) ⟨P, B'⟩) :
    wLoop chk (gNm 7) (eltStep tTrue (eCallF F__law_step [] (aConsB (eCallF F__law_store [] (aCons (eVar 7) (aNil))) (aCons (eVar 1) (aNil))))) [a0, some (.d (planD p)), a2, a3, a4, a5, a6, a7, a8, a9, a10] (cells.map D.int) [] ⟨P, B⟩ K := by
  refine wLoop_inv (fun rest acc S => ∃ (B' : Bx) (d : List Stp), S = ⟨P, B'⟩ ∧ acc = d.map stD ∧ Up [] B B' ∧ (∀ s ∈ d, StpOk p s) ∧ d.length + rest.length = cells.length ∧ ∀ x ∈ rest, x ∈ cells.map D.int)
    ⟨B, [], rfl, rfl, .refl, by simp, by simp, fun x hx => hx⟩ (fun _ _ S _ => hchk S) ?_ ?_
  · rintro x rest acc S ⟨B1, d, rfl, rfl, u1, ok, hl, hr⟩
    obtain ⟨cell, _, rfl⟩ := List.mem_map.mp (hr x List.mem_cons_self)
    have hl' : d.length + (rest.length + 1) = cells.length := by simpa using hl
    refine ⟨_, rfl, wp_elt ?_⟩
    and_intros
    refine store_wp fun a m m0 m1 => ?_
    dsimp only
    and_intros
    refine law_step_wp (n := 0) ⟨a, m, 0, getP, m0, m1, by omega, by omega⟩ (by omega) h fun s B2 os u2 s2 => ?_
    and_intros
    refine ⟨by rw [List.length_map]; unfold sizeLine; omega, B2, d ++ [s], rfl, by simp, upTo (u1.trans Up.push) u2 (fun j hj => by rw [List.mem_singleton.mp hj]; exact .inr u1.len), ?_, by simp; omega, fun y hy => hr y (List.mem_cons_of_mem _ hy)⟩
    intro z hz
    rcases List.mem_append.mp hz with hz | hz
    · exact ok z hz
    · rw [List.mem_singleton.mp hz]; exact os
  · rintro acc S ⟨B1, d, rfl, rfl, u1, ok, hl, hr⟩
    exact k d B1 (by simpa using hl) ok u1
theorem pure_law (ns : List Int) (hl : ns.length ≤ 63) : ∃ S1, F_law [scrD ns] ⟨[], []⟩ = .ok (.d (.bl true)) S1 := by
  have go : wp (F_law [.d (.scr (ns.map D.int))] ⟨[], []⟩) (fun v _ => v = .d (.bl true)) noX := by
    unfold F_law
    refine wp_fn rfl ?_
    and_intros
    refine cell_at_wp (ns := ns) (by omega) fun c0 => ?_
    and_intros
    refine store_wp fun a m m0 m1 => ?_
    dsimp only
    and_intros
    refine tables_wp (B := [] ++ [(true, [D.int a, D.int m, D.int 0])]) (b := 0) (n := 0) ⟨a, m, 0, rfl, m0, m1, by omega, by omega⟩ (by omega) fun p B1 h u1 s1 => ?_
    and_intros
    refine make_wp h ?_
    and_intros
    refine cell_at_wp (ns := ns) (by omega) fun c1 => ?_
    and_intros
    refine store_wp fun a2 m2 n0 n1 => ?_
    and_intros
    have hs0 : Sto (B1 ++ [(true, [D.int a2, D.int m2, D.int 0])] ++ [(true, [])]) B1.length 0 := ⟨a2, m2, 0, getPush getP, n0, n1, by omega, by omega⟩
    have hc0 : (B1 ++ [(true, [D.int a2, D.int m2, D.int 0])] ++ [(true, [])])[(B1 ++ [(true, [D.int a2, D.int m2, D.int 0])]).length]? = some (true, []) := getP
    have of0 : ([] ++ [schO p])[0]? = some (schO p) := rfl
    have bne : B1.length ≠ (B1 ++ [(true, [D.int a2, D.int m2, D.int 0])]).length := by simp
    show wFor (fun _ => true) (gNm 5) tb_law_2 (rng 3) [some (.d (.scr (ns.map D.int))), some (.d (planD p)), some (.d (.obj 0)), some (.box B1.length), some (.box (B1 ++ [(true, [D.int a2, D.int m2, D.int 0])]).length), none, none, none, none, none, none] _ _ _ _ _ _
    revert hs0 hc0 of0 bne
    generalize B1 ++ [(true, [D.int a2, D.int m2, D.int 0])] ++ [(true, [])] = B0
    generalize (B1 ++ [(true, [D.int a2, D.int m2, D.int 0])]).length = bc
    generalize B1.length = bs
    generalize [] ++ [schO p] = P0
    intro hs0 hc0 of0 bne
    refine wFor_inv (fun rest σ S => ∃ (P : List Ob) (B : Bx) (cs : List (Nat × List Stp × Bool)) (n : Int) (a5 a6 a7 a8 a9 a10 : Option Vl), S = ⟨P, B⟩ ∧ σ = [some (.d (.scr (ns.map D.int))), some (.d (planD p)), some (.d (.obj 0)), some (.box bs), some (.box bc), a5, a6, a7, a8, a9, a10] ∧ Sto B bs n ∧ n ≤ 10 * (cs.length : Nat) ∧ B[bc]? = some (true, cs.map kD) ∧ P[0]? = some (schO p) ∧ Csz p P cs ∧ cs.length + rest.length = 3 ∧ ∀ x ∈ rest, x ∈ rng 3)
      ⟨P0, B0, [], 0, _, _, _, _, _, _, rfl, rfl, hs0, by simp, hc0, of0, (fun c hc => by cases hc), by simp, fun x hx => hx⟩ (fun _ _ _ _ => rfl) ?_ ?_
    · rintro x rest σ S ⟨P, B, cs, n, a5, a6, a7, a8, a9, a10, rfl, rfl, hs, hn, hc, of_, ok, hl3, hr⟩
      have hl3' : cs.length + (rest.length + 1) = 3 := by simpa using hl3
      obtain ⟨kn, hkn, rfl⟩ : ∃ kn : Nat, kn < 3 ∧ x = .int (kn : Int) := by
        have := hr x List.mem_cons_self
        unfold rng at this
        obtain ⟨kn, h1, h2⟩ := List.mem_map.mp this
        exact ⟨kn, by simpa using h1, h2.symm⟩
      refine ⟨_, rfl, ?_⟩
      and_intros
      have e0 : cut (ns.map D.int) (some (2 + 20 * (kn : Int))) (some (22 + 20 * (kn : Int))) = (cut ns (some ((2 + 20 * kn : Nat) : Int)) (some ((22 + 20 * kn : Nat) : Int))).map D.int := by
        rw [cut_map]; congr 2 <;> (congr 1; omega)
      have l20 := cut_span ns (2 + 20 * kn) (22 + 20 * kn)
      dsimp only
      rw [e0]
      revert l20
      generalize cut ns (some ((2 + 20 * kn : Nat) : Int)) (some ((22 + 20 * kn : Nat) : Int)) = cells
      intro l20
      refine row_wp (cells := cells) (fun S => decide_eq_true rfl) h (by omega) fun row B2 rl okr u2 => ?_
      have hs2 := hs.up u2 (by simp)
      have hc2 := keepU u2 hc (by simp)
      have r20 : row.length ≤ 20 := by omega
      and_intros
      refine draw_wp hs2 (by omega) (by omega) (by omega) fun way B3 w0 w1 u3 s3 => ?_
      have hc3 := keepB u3 hc2 (by simpa using bne.symm)
      have csl : (cs.map kD).length < sizeLine := by rw [List.length_map]; unfold sizeLine; omega
      and_intros
      refine br_dec (fun hw => ?_) (fun hw => ?_)
      · and_intros
        refine make_script_wp of_ h r20 okr ?_
        and_intros
        refine wp_append hc3 csl fun B4 u4 hc4 => ?_
        refine ⟨P ++ [scO 0 row true], B4, cs ++ [(P.length, row, true)], n + 1, _, _, _, _, _, _, rfl, rfl, s3.ch u4 (by simpa using bne), by simp; omega, by rw [hc4]; simp [kD], getApp of_, ?_, by simp; omega, fun y hy => hr y (List.mem_cons_of_mem _ hy)⟩
        refine (ok.up fun j x hx => getApp hx).app fun c hc => ?_
        rw [List.mem_singleton.mp hc]
        exact ⟨0, by simp, getApp of_, r20, okr⟩
      · and_intros
        refine make_wp h ?_
        and_intros
        refine make_script_wp (P := P ++ [schO p]) (i := P.length) (by simp) h r20 okr ?_
        and_intros
        refine wp_append hc3 csl fun B4 u4 hc4 => ?_
        refine ⟨P ++ [schO p] ++ [scO P.length row (decide (way = 1))], B4, cs ++ [((P ++ [schO p]).length, row, decide (way = 1))], n + 1, _, _, _, _, _, _, rfl, rfl, s3.ch u4 (by simpa using bne), by simp; omega, by rw [hc4]; simp [kD], getApp (getApp of_), ?_, by simp; omega, fun y hy => hr y (List.mem_cons_of_mem _ hy)⟩
        refine (ok.up fun j x hx => getApp (getApp hx)).app fun c hc => ?_
        rw [List.mem_singleton.mp hc]
        exact ⟨P.length, by simp, getApp (by simp), r20, okr⟩
    · rintro σ S ⟨P, B, cs, n, a5, a6, a7, a8, a9, a10, rfl, rfl, hs, hn, hc, of_, ok, hl3, hr⟩
      have ll : cs.length = 3 := by simpa using hl3
      obtain ⟨d, t, rfl⟩ : ∃ d t, cs = d :: t := by
        cases cs with
        | nil => simp at ll
        | cons d t => exact ⟨d, t, rfl⟩
      obtain ⟨jd, od, odj, d20, okd⟩ := ok d List.mem_cons_self
      have csl : ((d :: t).map kD).length < sizeLine := by rw [List.length_map]; unfold sizeLine; omega
      obtain ⟨di, drow, dk⟩ := d
      and_intros
      refine wp_ix (a := kD (di, drow, dk)) (rdlOf_box hc) (atI_head _ _) ?_
      and_intros
      refine wp_ix_tup (l := [.obj di, .tup (drow.map stD), .bl dk]) rfl ?_
      and_intros
      refine wp_ix (a := kD (di, drow, dk)) (rdlOf_box hc) (atI_head _ _) ?_
      and_intros
      refine make_script_wp (kp := !dk) of_ h d20 okd ?_
      and_intros
      refine wp_ix (a := kD (di, drow, dk)) (rdlOf_box hc) (atI_head _ _) ?_
      and_intros
      refine wp_ix_tup (l := [.obj di, .tup (drow.map stD), .bl dk]) rfl ?_
      and_intros
      refine wp_ix (a := kD (di, drow, dk)) (rdlOf_box hc) (atI_head _ _) ?_
      and_intros
      refine wp_append hc csl fun B2 u2 hc2 => ?_
      have ok2 : Csz p (P ++ [scO 0 drow (!dk)]) ((di, drow, dk) :: t ++ [(P.length, drow, !dk)]) := by
        refine (ok.up fun j x hx => getApp hx).app fun c hc => ?_
        rw [List.mem_singleton.mp hc]
        exact ⟨0, by simp, getApp of_, d20, okd⟩
      have hc3 : B2[bc]? = some (true, ((di, drow, dk) :: t ++ [(P.length, drow, !dk)]).map kD) := by rw [hc2]; simp [kD]
      have of2 : (P ++ [scO 0 drow (!dk)])[0]? = some (schO p) := getApp of_
      have ll4 : ((di, drow, dk) :: t ++ [(P.length, drow, !dk)]).length = 4 := by simp at ll ⊢; omega
      revert ok2 hc3 of2 ll4
      rw [List.cons_append]
      generalize t ++ [(P.length, drow, !dk)] = t2
      generalize P ++ [scO 0 drow (!dk)] = P2
      intro ok2 hc3 of2 ll4
      and_intros
      refine wp_add_lst (l := ((di, drow, dk) :: t2).map kD) (m := (((di, drow, dk) :: t2).map kD).reverse) (by
        show (match B2[bc]? with | some (_, l) => some l | none => none) = _
        rw [hc3]) rfl (by simp at ll4 ⊢; unfold sizeLine; omega) ?_
      and_intros
      refine wFor_inv (fun rest σ S => ∃ (P : List Ob) (c5 c6 c7 c8 c9 c10 : Option Vl), S = ⟨P, B2⟩ ∧ σ = [some (.d (.scr (ns.map D.int))), some (.d (planD p)), some (.d (.obj 0)), some (.box bs), some (.box bc), c5, c6, c7, c8, c9, c10] ∧ P[0]? = some (schO p) ∧ Csz p P ((di, drow, dk) :: t2) ∧ ∀ x ∈ rest, x ∈ ((di, drow, dk) :: t2).map kD) ⟨P2, _, _, _, _, _, _, rfl, rfl, of2, ok2, fun x hx => by
        rcases List.mem_append.mp hx with hx | hx
        · exact hx
        · exact List.mem_reverse.mp hx⟩ ?_ ?_ ?_
      · rintro rest σ S ⟨P, c5, c6, c7, c8, c9, c10, rfl, rfl, of3, ok3, hr⟩
        exact decide_eq_true rfl
      · rintro x rest σ S ⟨P, c5, c6, c7, c8, c9, c10, rfl, rfl, of3, ok3, hr⟩
        obtain ⟨⟨ci, crow, ck⟩, hcm, rfl⟩ := List.mem_map.mp (hr _ List.mem_cons_self)
        obtain ⟨jc, oc, ojc, c20, okc⟩ := ok3 _ hcm
        refine ⟨_, rfl, ?_⟩
        and_intros
        refine right_wp of3 oc ojc h okc c20 fun P' up => ?_
        and_intros
        exact ⟨P', _, _, _, _, _, _, rfl, rfl, up _ _ of3, ok3.up up, fun y hy => hr y (List.mem_cons_of_mem _ hy)⟩
      · rintro σ S ⟨P, c5, c6, c7, c8, c9, c10, rfl, rfl, of3, ok3, hr⟩
        and_intros
        obtain ⟨jd2, od2, odj2, d202, okd2⟩ := ok3 _ List.mem_cons_self
        refine wFor_inv (fun rest σ S => ∃ (c5 c6 c7 c8 c9 c10 : Option Vl), S = ⟨P, B2⟩ ∧ σ = [some (.d (.scr (ns.map D.int))), some (.d (planD p)), some (.d (.obj 0)), some (.box bs), some (.box bc), c5, c6, c7, c8, c9, c10] ∧ ∀ x ∈ rest, x ∈ ((di, drow, dk) :: t2).map kD) ⟨_, _, _, _, _, _, rfl, rfl, fun x hx => hx⟩ ?_ ?_ ?_
        · rintro rest σ S ⟨c5, c6, c7, c8, c9, c10, rfl, rfl, hr⟩
          exact decide_eq_true (rdlOf_box (S := ⟨P, B2⟩) hc3)
        · rintro x rest σ S ⟨c5, c6, c7, c8, c9, c10, rfl, rfl, hr⟩
          obtain ⟨⟨ci, crow, ck⟩, hcm, rfl⟩ := List.mem_map.mp (hr _ List.mem_cons_self)
          obtain ⟨jc, oc, ojc, c20, okc⟩ := ok3 _ hcm
          refine ⟨_, rfl, ?_⟩
          and_intros
          refine script_text_wp oc h okc c20 ?_
          and_intros
          refine wp_ix (a := kD (di, drow, dk)) (rdlOf_box hc3) (atI_head _ _) ?_
          and_intros
          refine wp_ix_tup (l := [.obj di, .tup (drow.map stD), .bl dk]) rfl ?_
          and_intros
          refine script_text_wp od2 h okd2 d202 ?_
          and_intros
          refine wp_ix (a := kD (di, drow, dk)) (rdlOf_box hc3) (atI_head _ _) ?_
          and_intros
          refine wp_ix_tup (l := [.obj di, .tup (drow.map stD), .bl dk]) rfl ?_
          and_intros
          refine wp_ix (a := kD (di, drow, dk)) (rdlOf_box hc3) (atI_head _ _) ?_
          and_intros
          have ok60 : ∀ (r : List Stp) (b : Bool), okD 60 (.tup [.tup (r.map stD), .bl b]) = true := fun r b => by
            show okDs 59 [.tup (r.map stD), .bl b] = true
            refine okDs_iff.mpr fun x hx => ?_
            rcases List.mem_cons.mp hx with rfl | hx
            · exact okD_row 57 r
            · rw [List.mem_singleton.mp hx]; rfl
          refine wp_eq_d (a := .tup [.tup (crow.map stD), .bl ck]) (b := .tup [.tup (drow.map stD), .bl dk]) rfl rfl (ok60 _ _) (ok60 _ _) ?_
          have ee : eqD (.tup [.tup (crow.map stD), .bl ck]) (.tup [.tup (drow.map stD), .bl dk]) = decide (scT ck crow = scT dk drow) := by
            rw [eqD_tup]
            show (eqD (.tup (crow.map stD)) (.tup (drow.map stD)) && (eqD (.bl ck) (.bl dk) && true)) = _
            rw [eqD_row, eqD_bl]
            have iff : scT ck crow = scT dk drow ↔ crow = drow ∧ ck = dk := ⟨fun z => sc_inj h okc okd2 z, fun ⟨z1, z2⟩ => by rw [z1, z2]⟩
            by_cases z : scT ck crow = scT dk drow
            · obtain ⟨z1, z2⟩ := iff.mp z
              simp [z1, z2]
            · by_cases z1 : crow = drow
              · by_cases z2 : ck = dk
                · exact absurd (iff.mpr ⟨z1, z2⟩) z
                · rw [decide_eq_false z]; simp [z2]
              · rw [decide_eq_false z]; simp [z1]
          rw [ee]
          and_intros
          exact ⟨_, _, _, _, _, _, rfl, rfl, fun y hy => hr y (List.mem_cons_of_mem _ hy)⟩
        · rintro σ S ⟨c5, c6, c7, c8, c9, c10, rfl, rfl, hr⟩
          and_intros
          exact wp_finD rfl
  obtain ⟨v, S1, e, rfl⟩ := ok_of_wp go
  exact ⟨S1, e⟩
end
end Wk

set_option Elab.async false
set_option linter.all false
set_option maxRecDepth 100000
set_option maxHeartbeats 0
namespace Hd
open PySem PySem.Spec PyProof.Rows L2 Ev
def top (i : Nat) : Stmt := PySem.Challenge.pw_carrykeys_k52_script_texts.main.body.getD i (.Pass ⟨0, 0, 0, 0⟩)
abbrev s__law_draw : Stmt := top 40
abbrev s__law_name : Stmt := top 41
abbrev s__law_tables : Stmt := top 42
abbrev s__law_store : Stmt := top 39
abbrev s__law_cell_at : Stmt := top 38
abbrev s_is_name : Stmt := top 13
abbrev s_is_reference : Stmt := top 17
abbrev s_is_table : Stmt := top 18
abbrev s_is_plan : Stmt := top 19
abbrev s_Schema_init : Stmt := inClass (top 20) 0
abbrev s__law_step : Stmt := top 43
abbrev s_Schema_tables : Stmt := inClass (top 20) 2
abbrev s_has_table : Stmt := top 26
abbrev s_is_flag : Stmt := top 25
abbrev s_is_load : Stmt := top 28
abbrev s_Schema_found : Stmt := inClass (top 20) 3
abbrev s_Schema_columns : Stmt := inClass (top 20) 4
abbrev s_has_column : Stmt := top 27
abbrev s_is_step : Stmt := top 29
abbrev s_first_wrong : Stmt := top 30
abbrev s_Script_init : Stmt := inClass (top 31) 0
abbrev s__law_text : Stmt := top 44
abbrev s_Script_steps : Stmt := inClass (top 31) 7
abbrev s_step_text : Stmt := top 33
abbrev s_script_text : Stmt := top 34
abbrev s_step_of : Stmt := top 35
abbrev s_read_script : Stmt := top 36
abbrev s_Script_len : Stmt := inClass (top 31) 3
abbrev s__law_holds : Stmt := top 45
abbrev s_Schema_eq : Stmt := inClass (top 20) 1
abbrev s_Script_eq : Stmt := inClass (top 31) 4
abbrev s_Script_schema : Stmt := inClass (top 31) 8
abbrev s__law_right : Stmt := top 46
abbrev s_law : Stmt := top 47
abbrev s_NoSchema_init : Stmt := inClass (top 5) 0
abbrev s_NoTable_init : Stmt := inClass (top 6) 0
abbrev s_NoStep_init : Stmt := inClass (top 7) 0
abbrev s_NoText_init : Stmt := inClass (top 8) 0
abbrev d__law_draw : He.DefD := ⟨("_law_draw", none), "_law_draw", "_law_draw", defArgs s__law_draw, defBody s__law_draw, defScope s__law_draw, [], []⟩
abbrev d__law_name : He.DefD := ⟨("_law_name", none), "_law_name", "_law_name", defArgs s__law_name, defBody s__law_name, defScope s__law_name, [], []⟩
abbrev d__law_tables : He.DefD := ⟨("_law_tables", none), "_law_tables", "_law_tables", defArgs s__law_tables, defBody s__law_tables, defScope s__law_tables, [], []⟩
abbrev d__law_store : He.DefD := ⟨("_law_store", none), "_law_store", "_law_store", defArgs s__law_store, defBody s__law_store, defScope s__law_store, [], []⟩
abbrev d__law_cell_at : He.DefD := ⟨("_law_cell_at", none), "_law_cell_at", "_law_cell_at", defArgs s__law_cell_at, defBody s__law_cell_at, defScope s__law_cell_at, [], []⟩
abbrev d_is_name : He.DefD := ⟨("is_name", none), "is_name", "is_name", defArgs s_is_name, defBody s_is_name, defScope s_is_name, [], []⟩
abbrev d_is_reference : He.DefD := ⟨("is_reference", none), "is_reference", "is_reference", defArgs s_is_reference, defBody s_is_reference, defScope s_is_reference, [], []⟩
abbrev d_is_table : He.DefD := ⟨("is_table", none), "is_table", "is_table", defArgs s_is_table, defBody s_is_table, defScope s_is_table, [], []⟩
abbrev d_is_plan : He.DefD := ⟨("is_plan", none), "is_plan", "is_plan", defArgs s_is_plan, defBody s_is_plan, defScope s_is_plan, [], []⟩
abbrev d_Schema_init : He.DefD := ⟨("Schema", some "__init__"), "__init__", "Schema.__init__", defArgs s_Schema_init, defBody s_Schema_init, defScope s_Schema_init, [], []⟩
abbrev d__law_step : He.DefD := ⟨("_law_step", none), "_law_step", "_law_step", defArgs s__law_step, defBody s__law_step, defScope s__law_step, [], []⟩
abbrev d_Schema_tables : He.DefD := ⟨("Schema", some "tables"), "tables", "Schema.tables", defArgs s_Schema_tables, defBody s_Schema_tables, defScope s_Schema_tables, [], []⟩
abbrev d_has_table : He.DefD := ⟨("has_table", none), "has_table", "has_table", defArgs s_has_table, defBody s_has_table, defScope s_has_table, [], []⟩
abbrev d_is_flag : He.DefD := ⟨("is_flag", none), "is_flag", "is_flag", defArgs s_is_flag, defBody s_is_flag, defScope s_is_flag, [], []⟩
abbrev d_is_load : He.DefD := ⟨("is_load", none), "is_load", "is_load", defArgs s_is_load, defBody s_is_load, defScope s_is_load, [], []⟩
abbrev d_Schema_found : He.DefD := ⟨("Schema", some "found"), "found", "Schema.found", defArgs s_Schema_found, defBody s_Schema_found, defScope s_Schema_found, [], []⟩
abbrev d_Schema_columns : He.DefD := ⟨("Schema", some "columns"), "columns", "Schema.columns", defArgs s_Schema_columns, defBody s_Schema_columns, defScope s_Schema_columns, [], []⟩
abbrev d_has_column : He.DefD := ⟨("has_column", none), "has_column", "has_column", defArgs s_has_column, defBody s_has_column, defScope s_has_column, [], []⟩
abbrev d_is_step : He.DefD := ⟨("is_step", none), "is_step", "is_step", defArgs s_is_step, defBody s_is_step, defScope s_is_step, [], []⟩
abbrev d_first_wrong : He.DefD := ⟨("first_wrong", none), "first_wrong", "first_wrong", defArgs s_first_wrong, defBody s_first_wrong, defScope s_first_wrong, [], []⟩
abbrev d_Script_init : He.DefD := ⟨("Script", some "__init__"), "__init__", "Script.__init__", defArgs s_Script_init, defBody s_Script_init, defScope s_Script_init, [.bl true], []⟩
abbrev d__law_text : He.DefD := ⟨("_law_text", none), "_law_text", "_law_text", defArgs s__law_text, defBody s__law_text, defScope s__law_text, [], []⟩
abbrev d_Script_steps : He.DefD := ⟨("Script", some "steps"), "steps", "Script.steps", defArgs s_Script_steps, defBody s_Script_steps, defScope s_Script_steps, [], []⟩
abbrev d_step_text : He.DefD := ⟨("step_text", none), "step_text", "step_text", defArgs s_step_text, defBody s_step_text, defScope s_step_text, [], []⟩
abbrev d_script_text : He.DefD := ⟨("script_text", none), "script_text", "script_text", defArgs s_script_text, defBody s_script_text, defScope s_script_text, [], []⟩
abbrev d_step_of : He.DefD := ⟨("step_of", none), "step_of", "step_of", defArgs s_step_of, defBody s_step_of, defScope s_step_of, [], []⟩
abbrev d_read_script : He.DefD := ⟨("read_script", none), "read_script", "read_script", defArgs s_read_script, defBody s_read_script, defScope s_read_script, [], []⟩
abbrev d_Script_len : He.DefD := ⟨("Script", some "__len__"), "__len__", "Script.__len__", defArgs s_Script_len, defBody s_Script_len, defScope s_Script_len, [], []⟩
abbrev d__law_holds : He.DefD := ⟨("_law_holds", none), "_law_holds", "_law_holds", defArgs s__law_holds, defBody s__law_holds, defScope s__law_holds, [], []⟩
abbrev d_Schema_eq : He.DefD := ⟨("Schema", some "__eq__"), "__eq__", "Schema.__eq__", defArgs s_Schema_eq, defBody s_Schema_eq, defScope s_Schema_eq, [], []⟩
abbrev d_Script_eq : He.DefD := ⟨("Script", some "__eq__"), "__eq__", "Script.__eq__", defArgs s_Script_eq, defBody s_Script_eq, defScope s_Script_eq, [], []⟩
abbrev d_Script_schema : He.DefD := ⟨("Script", some "schema"), "schema", "Script.schema", defArgs s_Script_schema, defBody s_Script_schema, defScope s_Script_schema, [], []⟩
abbrev d__law_right : He.DefD := ⟨("_law_right", none), "_law_right", "_law_right", defArgs s__law_right, defBody s__law_right, defScope s__law_right, [], []⟩
abbrev d_law : He.DefD := ⟨("law", none), "law", "law", defArgs s_law, defBody s_law, defScope s_law, [], []⟩
abbrev d_NoSchema_init : He.DefD := ⟨("NoSchema", some "__init__"), "__init__", "NoSchema.__init__", defArgs s_NoSchema_init, defBody s_NoSchema_init, defScope s_NoSchema_init, [], []⟩
abbrev d_NoTable_init : He.DefD := ⟨("NoTable", some "__init__"), "__init__", "NoTable.__init__", defArgs s_NoTable_init, defBody s_NoTable_init, defScope s_NoTable_init, [], []⟩
abbrev d_NoStep_init : He.DefD := ⟨("NoStep", some "__init__"), "__init__", "NoStep.__init__", defArgs s_NoStep_init, defBody s_NoStep_init, defScope s_NoStep_init, [], []⟩
abbrev d_NoText_init : He.DefD := ⟨("NoText", some "__init__"), "__init__", "NoText.__init__", defArgs s_NoText_init, defBody s_NoText_init, defScope s_NoText_init, [], []⟩
abbrev fn : List He.DefD := [d__law_draw, d__law_name, d__law_tables, d__law_store, d__law_cell_at, d_is_name, d_is_reference, d_is_table, d_is_plan, d_Schema_init, d__law_step, d_Schema_tables, d_has_table, d_is_flag, d_is_load, d_Schema_found, d_Schema_columns, d_has_column, d_is_step, d_first_wrong, d_Script_init, d__law_text, d_Script_steps, d_step_text, d_script_text, d_step_of, d_read_script, d_Script_len, d__law_holds, d_Schema_eq, d_Script_eq, d_Script_schema, d__law_right, d_law, d_NoSchema_init, d_NoTable_init, d_NoStep_init, d_NoText_init]
abbrev fa : List He.Fa := [.free "int", .glo "_law_draw", .free "range", .free "len", .free "list", .glo "_law_name", .free "tuple", .free "max", .glo "_law_cell_at", .glo "_law_store", .glo "_law_tables", .free "isinstance", .int "MOST_TABLES" 5, .free "str", .int "LONGEST" 8, .str "LETTERS" "abcdefghijklmnopqrstuvwxyz", .free "all", .glo "is_name", .free "bool", .int "MOST_COLUMNS" 3, .glo "is_reference", .free "set", .glo "is_table", .glo "is_plan", .meth "NoSchema" "__init__", .noat "NoSchema" "part", .glo "NoSchema", .cls "Schema", .noat "Schema" "plan", .mkr "Schema", .glo "Schema", .glo "_law_step", .free "enumerate", .int "MOST_STEPS" 20, .meth "Schema" "tables", .glo "has_table", .glo "POLICIES", .glo "is_flag", .glo "is_load", .glo "CHANGES", .meth "NoTable" "__init__", .noat "NoTable" "name", .glo "NoTable", .meth "Schema" "found", .meth "Schema" "columns", .glo "has_column", .glo "is_step", .glo "first_wrong", .meth "NoStep" "__init__", .noat "NoStep" "index", .glo "NoStep", .cls "Script", .noat "Script" "frame", .noat "Script" "sequence", .noat "Script" "keeping", .mkr "Script", .glo "Script", .glo "_law_text", .meth "Script" "steps", .glo "step_text", .glo "script_text", .meth "NoText" "__init__", .noat "NoText" "part", .glo "NoText", .glo "step_of", .glo "read_script", .meth "Script" "__len__", .glo "_law_holds", .meth "Schema" "__eq__", .meth "Script" "__eq__", .meth "Script" "schema", .glo "_law_right", .glo "law"]
abbrev xs : Ev.XSpec := ⟨["NoSchema", "NoTable", "NoStep", "NoText"], [tupB "POLICIES" [("raw" : Str), ("blank" : Str), ("refuse" : Str)], tupB "CHANGES" [("patch" : Str), ("fill" : Str), ("sweep" : Str)], propB "Script" "kept" "keeping", isTB "Script" ["Schema", "Script"], isTB "Schema" ["Schema", "Script"], nfB "Schema" ["Schema", "Script"], nfB "Script" ["Schema", "Script"]]⟩
abbrev R : PySem.W.OpenRow := PySem.W.OpenLaw.row PySem.Challenge.rw_carrykeys_k52_script_texts
abbrev hk : PySem.W.Hook := Ev.hookX 6 fa fn xs
def ob (s : PySem.W.SharedT) : Ev.AlX := Ev.obsXG 6 fa fn xs (HandSHeadRun.getT s)
theorem ob_eq (s : PySem.W.SharedT) : ob s = hk.obs s.abs := Ev.obsXG_eq (HandSHeadRun.getT_eq s)
def loose : List PySem.Str := (["_wall", "CarryError", "NoKept", "NotSame", "NoSchema", "NoTable", "NoStep", "NoText", "LETTERS", "LONGEST", "is_whole", "is_name"] : List PySem.Str) ++ (["MOST_TABLES", "MOST_COLUMNS", "is_reference", "is_table", "is_plan", "Schema", "MOST_STEPS", "POLICIES", "CHANGES", "is_flag", "has_table", "has_column"] : List PySem.Str) ++ (["is_load", "is_step", "first_wrong", "Script", "step_text", "script_text", "step_of", "read_script", "_law_cell_at", "_law_store", "_law_draw", "_law_name"] : List PySem.Str) ++ (["_law_tables", "_law_step", "_law_text", "_law_holds", "_law_right"] : List PySem.Str)
theorem run (w : World) : HandSHeadRun.RunEq R (PySem.W.view R.prog [47]) hk ob 6000 loose w := by
  intro os
  kernel_rfl
end Hd
namespace Wk
open PySem PySem.Spec PyProof.Rows L2 Ev Hd
variable {g : G}
abbrev N_NoSchema_init : List Str := ["self", "part"]
theorem sc_NoSchema_init : FnScope N_NoSchema_init ["self", "part"] (defScope s_NoSchema_init) := ⟨rfl, rfl, rfl, by decide +kernel, rfl, by decide +kernel, by decide +kernel⟩
theorem xb_NoSchema_init : XBody N_NoSchema_init (defScope s_NoSchema_init) (defBody s_NoSchema_init) (ixs (["part"].map enc)) := (.cons 1 rfl (Or.inl rfl) rfl (Or.inl rfl) (by decide) (by decide) (by decide) (by decide) .nil)
theorem xj_NoSchema (E : EnvE fa fn xs g) (hk : 2 ≤ g.k) : XFn g (g.cls "NoSchema") (He.fAd g.K ("NoSchema", some "__init__")) (["part"].map enc) := xfn_at (d := d_NoSchema_init) E "NoSchema" 34 rfl rfl rfl sc_NoSchema_init xb_NoSchema_init (E.xcl "NoSchema" (by decide +kernel)).1 (by
  intro n hn
  simp only [List.map_cons, List.map_nil, List.mem_cons, List.not_mem_nil, or_false] at hn
  rcases hn with rfl
  · exact E.noat 25 "NoSchema") (fun _ _ _ _ _ _ us hl => match us, hl with | [_, _], _ => rfl) hk
abbrev N_NoTable_init : List Str := ["self", "name"]
theorem sc_NoTable_init : FnScope N_NoTable_init ["self", "name"] (defScope s_NoTable_init) := ⟨rfl, rfl, rfl, by decide +kernel, rfl, by decide +kernel, by decide +kernel⟩
theorem xb_NoTable_init : XBody N_NoTable_init (defScope s_NoTable_init) (defBody s_NoTable_init) (ixs (["name"].map enc)) := (.cons 1 rfl (Or.inl rfl) rfl (Or.inl rfl) (by decide) (by decide) (by decide) (by decide) .nil)
theorem xj_NoTable (E : EnvE fa fn xs g) (hk : 2 ≤ g.k) : XFn g (g.cls "NoTable") (He.fAd g.K ("NoTable", some "__init__")) (["name"].map enc) := xfn_at (d := d_NoTable_init) E "NoTable" 35 rfl rfl rfl sc_NoTable_init xb_NoTable_init (E.xcl "NoTable" (by decide +kernel)).1 (by
  intro n hn
  simp only [List.map_cons, List.map_nil, List.mem_cons, List.not_mem_nil, or_false] at hn
  rcases hn with rfl
  · exact E.noat 41 "NoTable") (fun _ _ _ _ _ _ us hl => match us, hl with | [_, _], _ => rfl) hk
abbrev N_NoStep_init : List Str := ["self", "index"]
theorem sc_NoStep_init : FnScope N_NoStep_init ["self", "index"] (defScope s_NoStep_init) := ⟨rfl, rfl, rfl, by decide +kernel, rfl, by decide +kernel, by decide +kernel⟩
theorem xb_NoStep_init : XBody N_NoStep_init (defScope s_NoStep_init) (defBody s_NoStep_init) (ixs (["index"].map enc)) := (.cons 1 rfl (Or.inl rfl) rfl (Or.inl rfl) (by decide) (by decide) (by decide) (by decide) .nil)
theorem xj_NoStep (E : EnvE fa fn xs g) (hk : 2 ≤ g.k) : XFn g (g.cls "NoStep") (He.fAd g.K ("NoStep", some "__init__")) (["index"].map enc) := xfn_at (d := d_NoStep_init) E "NoStep" 36 rfl rfl rfl sc_NoStep_init xb_NoStep_init (E.xcl "NoStep" (by decide +kernel)).1 (by
  intro n hn
  simp only [List.map_cons, List.map_nil, List.mem_cons, List.not_mem_nil, or_false] at hn
  rcases hn with rfl
  · exact E.noat 49 "NoStep") (fun _ _ _ _ _ _ us hl => match us, hl with | [_, _], _ => rfl) hk
abbrev N_NoText_init : List Str := ["self", "part"]
theorem sc_NoText_init : FnScope N_NoText_init ["self", "part"] (defScope s_NoText_init) := ⟨rfl, rfl, rfl, by decide +kernel, rfl, by decide +kernel, by decide +kernel⟩
theorem xb_NoText_init : XBody N_NoText_init (defScope s_NoText_init) (defBody s_NoText_init) (ixs (["part"].map enc)) := (.cons 1 rfl (Or.inl rfl) rfl (Or.inl rfl) (by decide) (by decide) (by decide) (by decide) .nil)
theorem xj_NoText (E : EnvE fa fn xs g) (hk : 2 ≤ g.k) : XFn g (g.cls "NoText") (He.fAd g.K ("NoText", some "__init__")) (["part"].map enc) := xfn_at (d := d_NoText_init) E "NoText" 37 rfl rfl rfl sc_NoText_init xb_NoText_init (E.xcl "NoText" (by decide +kernel)).1 (by
  intro n hn
  simp only [List.map_cons, List.map_nil, List.mem_cons, List.not_mem_nil, or_false] at hn
  rcases hn with rfl
  · exact E.noat 62 "NoText") (fun _ _ _ _ _ _ us hl => match us, hl with | [_, _], _ => rfl) hk
/-! ### _law_draw -/
abbrev N__law_draw : List Str := ["store", "many", "digit", "mixed"]
theorem sc__law_draw : FnScope N__law_draw ["store", "many"] (defScope s__law_draw) := ⟨rfl, rfl, rfl, by decide +kernel, rfl, by decide +kernel, by decide +kernel⟩
theorem w__law_draw (E : EnvE fa fn xs g) : JSs (g.at_ 0 N__law_draw (defScope s__law_draw)) (defBody s__law_draw) t__law_draw := jss_cons (js_if (jt_gt (je_ix (je_var 0) (je_int)) (je_int)) (jss_cons (js_set 2 (je_mod (je_int1 rfl (E.any.free 0) (ja_cons (je_ix (je_var 0) (je_int)) (ja_nil))) (je_var 1))) (jss_cons (js_sub (je_var 0) (je_int) (je_div (je_ix (je_var 0) (je_int)) (je_var 1))) (jss_one (js_ret (je_var 2))))) (jss_nil)) (jss_cons (js_sub (je_var 0) (je_int) (je_add (je_ix (je_var 0) (je_int)) (je_int))) (jss_cons (js_set 3 (je_mod (je_int1 rfl (E.any.free 0) (ja_cons (je_add (je_ix (je_var 0) (je_int)) (je_mul (je_mul (je_int) (je_ix (je_var 0) (je_int))) (je_ix (je_var 0) (je_int)))) (ja_nil))) (je_int))) (jss_cons (js_set 3 (je_mod (je_int1 rfl (E.any.free 0) (ja_cons (je_mul (je_var 3) (je_var 3)) (ja_nil))) (je_int))) (jss_cons (js_set 3 (je_mod (je_int1 rfl (E.any.free 0) (ja_cons (je_add (je_add (je_var 3) (je_ix (je_var 0) (je_int))) (je_mul (je_int) (je_ix (je_var 0) (je_int)))) (ja_nil))) (je_int))) (jss_one (js_ret (je_mod (je_div (je_mod (je_int1 rfl (E.any.free 0) (ja_cons (je_mul (je_var 3) (je_var 3)) (ja_nil))) (je_int)) (je_int)) (je_var 1))))))))
theorem j__law_draw (E : EnvE fa fn xs g) (hk : 0 + 1 ≤ g.k) : FnJ g (He.fAd g.K ("_law_draw", none)) [] F__law_draw := fn_at (d := d__law_draw) E 0 rfl rfl rfl sc__law_draw (w__law_draw E) (fun _ _ _ _ _ _ us hl => match us, hl with | [_, _], _ => rfl) hk
/-! ### _law_name -/
abbrev N__law_name : List Str := ["store", "taken", "letters", "style", "name", "k", "at", "letter", "middle", "words"]
theorem sc__law_name : FnScope N__law_name ["store", "taken"] (defScope s__law_name) := ⟨rfl, rfl, rfl, by decide +kernel, rfl, by decide +kernel, by decide +kernel⟩
theorem w__law_name (E : EnvE fa fn xs g) : JSs (g.at_ 1 N__law_name (defScope s__law_name)) (defBody s__law_name) t__law_name := jss_cons (js_set 2 (je_str)) (jss_cons (js_set 3 (je_call (j__law_draw E.any (Nat.le_of_ble_eq_true rfl)) rfl (E.any.glo 1) (ja_cons (je_var 0) (ja_cons (je_int) (ja_nil))))) (jss_cons (js_set 4 (je_str)) (jss_cons (js_if (jt_bool (jw_or (jt_lt (je_var 3) (je_int)) (jw_or1 (jt_eq (je_var 1) (je_lst (ja_nil)))))) (jss_one (js_set 4 (je_join (je_str) (je_lc (own := [("k", 5)]) (ji_range1 rfl (E.any.free 2) (ja_cons (je_add (je_int) (je_call (j__law_draw E.any (Nat.le_of_ble_eq_true rfl)) rfl (E.any.glo 1) (ja_cons (je_var 0) (ja_cons (je_int) (ja_nil))))) (ja_nil))) (jg_name 5) (jts_nil) (je_ix (je_var 2) (je_call (j__law_draw E.any (Nat.le_of_ble_eq_true rfl)) rfl (E.any.glo 1) (ja_cons (je_var 0) (ja_cons (je_int) (ja_nil))))) (show BlkOk N__law_name (defScope s__law_name) _ [("k", 5)] from ⟨by rfl, by decide +kernel, by decide +kernel, by decide +kernel, by decide +kernel⟩))))) (jss_one (js_if (jt_lt (je_var 3) (je_int)) (jss_cons (js_set 6 (je_call (j__law_draw E.any (Nat.le_of_ble_eq_true rfl)) rfl (E.any.glo 1) (ja_cons (je_var 0) (ja_cons (je_len rfl (E.any.free 3) (ja_cons (je_ix (je_var 1) (je_neg (je_int))) (ja_nil))) (ja_nil))))) (jss_cons (js_set 7 (je_ix (je_var 2) (je_call (j__law_draw E.any (Nat.le_of_ble_eq_true rfl)) rfl (E.any.glo 1) (ja_cons (je_var 0) (ja_cons (je_int) (ja_nil)))))) (jss_cons (js_set 8 (je_ix (je_lst (ja_cons (je_var 7) (ja_cons (je_add (je_var 7) (je_ix (je_ix (je_var 1) (je_neg (je_int))) (je_var 6))) (ja_cons (je_str) (ja_nil))))) (je_sub (je_var 3) (je_int)))) (jss_one (js_set 4 (je_sl (je_add (je_add (je_sl (je_ix (je_var 1) (je_neg (je_int))) (jo_none) (jo_some (je_var 6))) (je_var 8)) (je_sl (je_ix (je_var 1) (je_neg (je_int))) (jo_some (je_add (je_var 6) (je_int))) (jo_none))) (jo_none) (jo_some (je_int)))))))) (jss_cons (js_set 9 (je_lst (ja_cons (je_str) (ja_cons (je_str) (ja_cons (je_str) (ja_cons (je_str) (ja_cons (je_str) (ja_cons (je_str) (ja_cons (je_str) (ja_cons (je_str) (ja_cons (je_str) (ja_cons (je_str) (ja_cons (je_str) (ja_cons (je_str) (ja_nil))))))))))))))) (jss_one (js_set 4 (je_ix (je_add (je_var 9) (je_lst (ja_cons (je_str) (ja_nil)))) (je_call (j__law_draw E.any (Nat.le_of_ble_eq_true rfl)) rfl (E.any.glo 1) (ja_cons (je_var 0) (ja_cons (je_int) (ja_nil))))))))))) (jss_cons (js_if (jt_bool (jw_or (jt_eq (je_var 4) (je_str)) (jw_or1 (jt_in (je_var 4) (je_var 1))))) (jss_one (js_set 4 (je_ix (je_lc (own := [("letter", 7)]) (ji_any (je_listT rfl (E.any.free 4) (ja_cons (je_var 2) (ja_nil)))) (jg_name 7) (jts_one (jt_notIn (je_var 7) (je_var 1))) (je_var 7) (show BlkOk N__law_name (defScope s__law_name) _ [("letter", 7)] from ⟨by rfl, by decide +kernel, by decide +kernel, by decide +kernel, by decide +kernel⟩)) (je_int)))) (jss_nil)) (jss_one (js_ret (je_var 4)))))))
theorem j__law_name (E : EnvE fa fn xs g) (hk : 1 + 1 ≤ g.k) : FnJ g (He.fAd g.K ("_law_name", none)) [] F__law_name := fn_at (d := d__law_name) E 1 rfl rfl rfl sc__law_name (w__law_name E) (fun _ _ _ _ _ _ us hl => match us, hl with | [_, _], _ => rfl) hk
/-! ### _law_tables -/
abbrev N__law_tables : List Str := ["store", "names", "k", "tables", "name", "columns", "references", "column"]
theorem sc__law_tables : FnScope N__law_tables ["store"] (defScope s__law_tables) := ⟨rfl, rfl, rfl, by decide +kernel, rfl, by decide +kernel, by decide +kernel⟩
theorem w__law_tables (E : EnvE fa fn xs g) : JSs (g.at_ 2 N__law_tables (defScope s__law_tables)) (defBody s__law_tables) t__law_tables := jss_cons (js_setB 1 (je_lst (ja_nil))) (jss_cons (js_for (ji_range1 rfl (E.any.free 2) (ja_cons (je_add (je_int) (je_call (j__law_draw E.any (Nat.le_of_ble_eq_true rfl)) rfl (E.any.glo 1) (ja_cons (je_var 0) (ja_cons (je_int) (ja_nil))))) (ja_nil))) (jg_name 2) (jss_one (js_expr (je_append (je_var 1) (je_call (j__law_name E.any (Nat.le_of_ble_eq_true rfl)) rfl (E.any.glo 5) (ja_cons (je_var 0) (ja_cons (je_var 1) (ja_nil)))))))) (jss_cons (js_setB 3 (je_lst (ja_nil))) (jss_cons (js_for (ji_any (je_var 1)) (jg_name 4) (jss_cons (js_setB 5 (je_lst (ja_nil))) (jss_cons (js_setB 6 (je_lst (ja_nil))) (jss_cons (js_for (ji_range1 rfl (E.any.free 2) (ja_cons (je_call (j__law_draw E.any (Nat.le_of_ble_eq_true rfl)) rfl (E.any.glo 1) (ja_cons (je_var 0) (ja_cons (je_int) (ja_nil)))) (ja_nil))) (jg_name 2) (jss_cons (js_set 7 (je_ix (je_var 1) (je_call (j__law_draw E.any (Nat.le_of_ble_eq_true rfl)) rfl (E.any.glo 1) (ja_cons (je_var 0) (ja_cons (je_len rfl (E.any.free 3) (ja_cons (je_var 1) (ja_nil))) (ja_nil)))))) (jss_cons (js_if (jt_bool (jw_or (jt_in (je_var 7) (je_var 5)) (jw_or1 (jt_gt (je_call (j__law_draw E.any (Nat.le_of_ble_eq_true rfl)) rfl (E.any.glo 1) (ja_cons (je_var 0) (ja_cons (je_int) (ja_nil)))) (je_int))))) (jss_one (js_set 7 (je_call (j__law_name E.any (Nat.le_of_ble_eq_true rfl)) rfl (E.any.glo 5) (ja_cons (je_var 0) (ja_cons (je_var 5) (ja_nil)))))) (jss_nil)) (jss_cons (js_expr (je_append (je_var 5) (je_var 7))) (jss_one (js_expr (je_append (je_var 6) (je_tup (ja_cons (je_var 7) (ja_cons (je_ix (je_var 1) (je_call (j__law_draw E.any (Nat.le_of_ble_eq_true rfl)) rfl (E.any.glo 1) (ja_cons (je_var 0) (ja_cons (je_len rfl (E.any.free 3) (ja_cons (je_var 1) (ja_nil))) (ja_nil))))) (ja_nil))))))))))) (jss_one (js_expr (je_append (je_var 3) (je_tup (ja_cons (je_var 4) (ja_cons (je_eq (je_call (j__law_draw E.any (Nat.le_of_ble_eq_true rfl)) rfl (E.any.glo 1) (ja_cons (je_var 0) (ja_cons (je_int) (ja_nil)))) (je_int)) (ja_cons (je_tuple rfl (E.any.free 6) (ja_cons (je_var 6) (ja_nil))) (ja_nil)))))))))))) (jss_one (js_ret (je_tuple rfl (E.any.free 6) (ja_cons (je_var 3) (ja_nil))))))))
theorem j__law_tables (E : EnvE fa fn xs g) (hk : 2 + 1 ≤ g.k) : FnJ g (He.fAd g.K ("_law_tables", none)) [] F__law_tables := fn_at (d := d__law_tables) E 2 rfl rfl rfl sc__law_tables (w__law_tables E) (fun _ _ _ _ _ _ us hl => match us, hl with | [_], _ => rfl) hk
/-! ### _law_store -/
abbrev N__law_store : List Str := ["cell"]
theorem sc__law_store : FnScope N__law_store ["cell"] (defScope s__law_store) := ⟨rfl, rfl, rfl, by decide +kernel, rfl, by decide +kernel, by decide +kernel⟩
theorem w__law_store (E : EnvE fa fn xs g) : JSs (g.at_ 0 N__law_store (defScope s__law_store)) (defBody s__law_store) t__law_store := jss_one (js_ret (je_lst (ja_cons (je_max rfl (E.any.free 7) (ja_cons (je_int) (ja_cons (je_sub (je_var 0) (je_pow (je_int) (je_int))) (ja_nil)))) (ja_cons (je_mod (je_int1 rfl (E.any.free 0) (ja_cons (je_var 0) (ja_nil))) (je_int)) (ja_cons (je_int) (ja_nil))))))
theorem j__law_store (E : EnvE fa fn xs g) (hk : 0 + 1 ≤ g.k) : FnJ g (He.fAd g.K ("_law_store", none)) [] F__law_store := fn_at (d := d__law_store) E 3 rfl rfl rfl sc__law_store (w__law_store E) (fun _ _ _ _ _ _ us hl => match us, hl with | [_], _ => rfl) hk
/-! ### _law_cell_at -/
abbrev N__law_cell_at : List Str := ["script", "k"]
theorem sc__law_cell_at : FnScope N__law_cell_at ["script", "k"] (defScope s__law_cell_at) := ⟨rfl, rfl, rfl, by decide +kernel, rfl, by decide +kernel, by decide +kernel⟩
theorem w__law_cell_at (E : EnvE fa fn xs g) : JSs (g.at_ 0 N__law_cell_at (defScope s__law_cell_at)) (defBody s__law_cell_at) t__law_cell_at := jss_cons (js_if (jt_lt (je_var 1) (je_len rfl (E.any.free 3) (ja_cons (je_var 0) (ja_nil)))) (jss_one (js_ret (je_ix (je_var 0) (je_var 1)))) (jss_nil)) (jss_one (js_ret (je_int)))
theorem j__law_cell_at (E : EnvE fa fn xs g) (hk : 0 + 1 ≤ g.k) : FnJ g (He.fAd g.K ("_law_cell_at", none)) [] F__law_cell_at := fn_at (d := d__law_cell_at) E 4 rfl rfl rfl sc__law_cell_at (w__law_cell_at E) (fun _ _ _ _ _ _ us hl => match us, hl with | [_, _], _ => rfl) hk
/-! ### is_name -/
abbrev N_is_name : List Str := ["thing", "letter"]
theorem sc_is_name : FnScope N_is_name ["thing"] (defScope s_is_name) := ⟨rfl, rfl, rfl, by decide +kernel, rfl, by decide +kernel, by decide +kernel⟩
theorem w_is_name (E : EnvE fa fn xs g) : JSs (g.at_ 0 N_is_name (defScope s_is_name)) (defBody s_is_name) t_is_name := jss_cons (js_if (jt_bool (jw_or (jt_not (jt_val (je_isTy rfl (E.any.free 11) rfl (E.any.free 13) (by decide +kernel) (je_var 0)))) (jw_or (jt_eq (je_var 0) (je_str)) (jw_or1 (jt_gt (je_len rfl (E.any.free 3) (ja_cons (je_var 0) (ja_nil))) (je_gintE (E.any.int_ 14))))))) (jss_one (js_ret (je_bl))) (jss_nil)) (jss_one (js_ret (je_all rfl (E.any.free 16) (ja_cons (je_lc (own := [("letter", 1)]) (ji_any (je_var 0)) (jg_name 1) (jts_nil) (je_in (je_var 1) (je_gstrE (E.any.str_ 15))) (show BlkOk N_is_name (defScope s_is_name) _ [("letter", 1)] from ⟨by rfl, by decide +kernel, by decide +kernel, by decide +kernel, by decide +kernel⟩)) (ja_nil)))))
theorem j_is_name (E : EnvE fa fn xs g) (hk : 0 + 1 ≤ g.k) : FnJ g (He.fAd g.K ("is_name", none)) [] F_is_name := fn_at (d := d_is_name) E 5 rfl rfl rfl sc_is_name (w_is_name E) (fun _ _ _ _ _ _ us hl => match us, hl with | [_], _ => rfl) hk
/-! ### is_reference -/
abbrev N_is_reference : List Str := ["thing"]
theorem sc_is_reference : FnScope N_is_reference ["thing"] (defScope s_is_reference) := ⟨rfl, rfl, rfl, by decide +kernel, rfl, by decide +kernel, by decide +kernel⟩
theorem w_is_reference (E : EnvE fa fn xs g) : JSs (g.at_ 1 N_is_reference (defScope s_is_reference)) (defBody s_is_reference) t_is_reference := jss_one (js_ret (je_and (je_isTy rfl (E.any.free 11) rfl (E.any.free 6) (by decide +kernel) (je_var 0)) (je_and (je_eq (je_len rfl (E.any.free 3) (ja_cons (je_var 0) (ja_nil))) (je_int)) (je_and (je_call (j_is_name E.any (Nat.le_of_ble_eq_true rfl)) rfl (E.any.glo 17) (ja_cons (je_ix (je_var 0) (je_int)) (ja_nil))) (je_one (je_call (j_is_name E.any (Nat.le_of_ble_eq_true rfl)) rfl (E.any.glo 17) (ja_cons (je_ix (je_var 0) (je_int)) (ja_nil))))))))
theorem j_is_reference (E : EnvE fa fn xs g) (hk : 1 + 1 ≤ g.k) : FnJ g (He.fAd g.K ("is_reference", none)) [] F_is_reference := fn_at (d := d_is_reference) E 6 rfl rfl rfl sc_is_reference (w_is_reference E) (fun _ _ _ _ _ _ us hl => match us, hl with | [_], _ => rfl) hk
/-! ### is_table -/
abbrev N_is_table : List Str := ["thing", "name", "unique", "references", "one"]
theorem sc_is_table : FnScope N_is_table ["thing"] (defScope s_is_table) := ⟨rfl, rfl, rfl, by decide +kernel, rfl, by decide +kernel, by decide +kernel⟩
theorem w_is_table (E : EnvE fa fn xs g) : JSs (g.at_ 2 N_is_table (defScope s_is_table)) (defBody s_is_table) t_is_table := jss_cons (js_if (jt_bool (jw_or (jt_not (jt_val (je_isTy rfl (E.any.free 11) rfl (E.any.free 6) (by decide +kernel) (je_var 0)))) (jw_or1 (jt_ne (je_len rfl (E.any.free 3) (ja_cons (je_var 0) (ja_nil))) (je_int))))) (jss_one (js_ret (je_bl))) (jss_nil)) (jss_cons (js_unp (je_var 0) (jg_tup (jgs_cons (jg_name 1) (jgs_cons (jg_name 2) (jgs_cons (jg_name 3) (jgs_nil)))))) (jss_cons (js_if (jt_bool (jw_or (jt_not (jt_val (je_call (j_is_name E.any (Nat.le_of_ble_eq_true rfl)) rfl (E.any.glo 17) (ja_cons (je_var 1) (ja_nil))))) (jw_or1 (jt_not (jt_val (je_isTy rfl (E.any.free 11) rfl (E.any.free 18) (by decide +kernel) (je_var 2))))))) (jss_one (js_ret (je_bl))) (jss_nil)) (jss_cons (js_if (jt_bool (jw_or (jt_not (jt_val (je_isTy rfl (E.any.free 11) rfl (E.any.free 6) (by decide +kernel) (je_var 3)))) (jw_or1 (jt_gt (je_len rfl (E.any.free 3) (ja_cons (je_var 3) (ja_nil))) (je_gintE (E.any.int_ 19)))))) (jss_one (js_ret (je_bl))) (jss_nil)) (jss_cons (js_if (jt_not (jt_val (je_all rfl (E.any.free 16) (ja_cons (je_lc (own := [("one", 4)]) (ji_any (je_var 3)) (jg_name 4) (jts_nil) (je_call (j_is_reference E.any (Nat.le_of_ble_eq_true rfl)) rfl (E.any.glo 20) (ja_cons (je_var 4) (ja_nil))) (show BlkOk N_is_table (defScope s_is_table) _ [("one", 4)] from ⟨by rfl, by decide +kernel, by decide +kernel, by decide +kernel, by decide +kernel⟩)) (ja_nil))))) (jss_one (js_ret (je_bl))) (jss_nil)) (jss_one (js_ret (je_eq (je_lenSet rfl (E.any.free 3) rfl (E.any.free 21) (je_lc (own := [("one", 4)]) (ji_any (je_var 3)) (jg_name 4) (jts_nil) (je_ix (je_var 4) (je_int)) (show BlkOk N_is_table (defScope s_is_table) _ [("one", 4)] from ⟨by rfl, by decide +kernel, by decide +kernel, by decide +kernel, by decide +kernel⟩))) (je_len rfl (E.any.free 3) (ja_cons (je_var 3) (ja_nil))))))))))
theorem j_is_table (E : EnvE fa fn xs g) (hk : 2 + 1 ≤ g.k) : FnJ g (He.fAd g.K ("is_table", none)) [] F_is_table := fn_at (d := d_is_table) E 7 rfl rfl rfl sc_is_table (w_is_table E) (fun _ _ _ _ _ _ us hl => match us, hl with | [_], _ => rfl) hk
/-! ### is_plan -/
abbrev N_is_plan : List Str := ["thing", "one"]
theorem sc_is_plan : FnScope N_is_plan ["thing"] (defScope s_is_plan) := ⟨rfl, rfl, rfl, by decide +kernel, rfl, by decide +kernel, by decide +kernel⟩
theorem w_is_plan (E : EnvE fa fn xs g) : JSs (g.at_ 3 N_is_plan (defScope s_is_plan)) (defBody s_is_plan) t_is_plan := jss_cons (js_if (jt_bool (jw_or (jt_not (jt_val (je_isTy rfl (E.any.free 11) rfl (E.any.free 6) (by decide +kernel) (je_var 0)))) (jw_or (jt_eq (je_var 0) (je_tup (ja_nil))) (jw_or1 (jt_gt (je_len rfl (E.any.free 3) (ja_cons (je_var 0) (ja_nil))) (je_gintE (E.any.int_ 12))))))) (jss_one (js_ret (je_bl))) (jss_nil)) (jss_cons (js_if (jt_not (jt_val (je_all rfl (E.any.free 16) (ja_cons (je_lc (own := [("one", 1)]) (ji_any (je_var 0)) (jg_name 1) (jts_nil) (je_call (j_is_table E.any (Nat.le_of_ble_eq_true rfl)) rfl (E.any.glo 22) (ja_cons (je_var 1) (ja_nil))) (show BlkOk N_is_plan (defScope s_is_plan) _ [("one", 1)] from ⟨by rfl, by decide +kernel, by decide +kernel, by decide +kernel, by decide +kernel⟩)) (ja_nil))))) (jss_one (js_ret (je_bl))) (jss_nil)) (jss_one (js_ret (je_eq (je_lenSet rfl (E.any.free 3) rfl (E.any.free 21) (je_lc (own := [("one", 1)]) (ji_any (je_var 0)) (jg_name 1) (jts_nil) (je_ix (je_var 1) (je_int)) (show BlkOk N_is_plan (defScope s_is_plan) _ [("one", 1)] from ⟨by rfl, by decide +kernel, by decide +kernel, by decide +kernel, by decide +kernel⟩))) (je_len rfl (E.any.free 3) (ja_cons (je_var 0) (ja_nil)))))))
theorem j_is_plan (E : EnvE fa fn xs g) (hk : 3 + 1 ≤ g.k) : FnJ g (He.fAd g.K ("is_plan", none)) [] F_is_plan := fn_at (d := d_is_plan) E 8 rfl rfl rfl sc_is_plan (w_is_plan E) (fun _ _ _ _ _ _ us hl => match us, hl with | [_], _ => rfl) hk
/-! ### Schema_init -/
abbrev N_Schema_init : List Str := ["self", "tables", "names", "table", "places", "column", "place"]
theorem sc_Schema_init : FnScope N_Schema_init ["self", "tables"] (defScope s_Schema_init) := ⟨rfl, rfl, rfl, by decide +kernel, rfl, by decide +kernel, by decide +kernel⟩
theorem w_Schema_init (E : EnvE fa fn xs g) : JSs (g.at_ 4 N_Schema_init (defScope s_Schema_init)) (defBody s_Schema_init) t_Schema_init := jss_cons (js_if (jt_not (jt_val (je_call (j_is_plan E.any (Nat.le_of_ble_eq_true rfl)) rfl (E.any.glo 23) (ja_cons (je_var 1) (ja_nil))))) (jss_one (js_raise (fI := He.fAd _ ("NoSchema", some "__init__")) "NoSchema" ["part"] (E.any.xcl "NoSchema" (by decide +kernel)).1 (E.any.meth 24 "NoSchema").at_ (beq_iff_eq.mp (E.any.meth (m := "__init__") 24 "NoSchema").fn) (xj_NoSchema E.any (Nat.le_of_ble_eq_true rfl)) rfl (E.any.gcl 26 "NoSchema") (ja_cons (je_str) (ja_nil)))) (jss_nil)) (jss_cons (js_set 2 (je_lc (own := [("table", 3)]) (ji_any (je_var 1)) (jg_name 3) (jts_nil) (je_ix (je_var 3) (je_int)) (show BlkOk N_Schema_init (defScope s_Schema_init) _ [("table", 3)] from ⟨by rfl, by decide +kernel, by decide +kernel, by decide +kernel, by decide +kernel⟩)) (hs := sw_cell rfl)) (jss_cons (js_setL (set_lc2 4 (own := [("table", 3), ("column", 5), ("place", 6)]) (vs1 := [5, 6]) (ji_any (je_var 1)) (jg_name 3) (jts_nil) (ji_any (je_ix (je_var 3) (je_int))) (jg_tup (jgs_cons (jg_name 5) (jgs_cons (jg_name 6) (jgs_nil)))) (jts_nil) (je_var 6) (show BlkOk N_Schema_init (defScope s_Schema_init) _ [("table", 3), ("column", 5), ("place", 6)] from ⟨by rfl, by decide +kernel, by decide +kernel, by decide +kernel, by decide +kernel⟩))) (jss_cons (js_if (jt_not (jt_val (je_all rfl (E.any.free 16) (ja_cons (je_lc (own := [("place", 6)]) (ji_any (je_var 4)) (jg_name 6) (jts_nil) (je_in (je_var 6) (je_var 2)) (show BlkOk N_Schema_init (defScope s_Schema_init) _ [("place", 6)] from ⟨by rfl, by decide +kernel, by decide +kernel, by decide +kernel, by decide +kernel⟩)) (ja_nil))))) (jss_one (js_raise (fI := He.fAd _ ("NoSchema", some "__init__")) "NoSchema" ["part"] (E.any.xcl "NoSchema" (by decide +kernel)).1 (E.any.meth 24 "NoSchema").at_ (beq_iff_eq.mp (E.any.meth (m := "__init__") 24 "NoSchema").fn) (xj_NoSchema E.any (Nat.le_of_ble_eq_true rfl)) rfl (E.any.gcl 26 "NoSchema") (ja_cons (je_str) (ja_nil)))) (jss_nil)) (jss_one (js_fld "Schema" "plan" (E.any.cls_ 27 "Schema") (E.any.noat 28 "Schema") (je_var 0) (je_var 1))))))
theorem j_Schema_init (E : EnvE fa fn xs g) (hk : 4 + 1 ≤ g.k) : FnJ g (He.fAd g.K ("Schema", some "__init__")) [] F_Schema_init := fn_at (d := d_Schema_init) E 9 rfl rfl rfl sc_Schema_init (w_Schema_init E) (fun _ _ _ _ _ _ us hl => match us, hl with | [_, _], _ => rfl) hk
/-! ### _law_step -/
abbrev N__law_step : List Str := ["store", "tables", "name", "unique", "references", "way"]
theorem sc__law_step : FnScope N__law_step ["store", "tables"] (defScope s__law_step) := ⟨rfl, rfl, rfl, by decide +kernel, rfl, by decide +kernel, by decide +kernel⟩
theorem w__law_step (E : EnvE fa fn xs g) : JSs (g.at_ 1 N__law_step (defScope s__law_step)) (defBody s__law_step) t__law_step := jss_cons (js_unp (je_ix (je_var 1) (je_call (j__law_draw E.any (Nat.le_of_ble_eq_true rfl)) rfl (E.any.glo 1) (ja_cons (je_var 0) (ja_cons (je_len rfl (E.any.free 3) (ja_cons (je_var 1) (ja_nil))) (ja_nil))))) (jg_tup (jgs_cons (jg_name 2) (jgs_cons (jg_name 3) (jgs_cons (jg_name 4) (jgs_nil)))))) (jss_cons (js_set 5 (je_call (j__law_draw E.any (Nat.le_of_ble_eq_true rfl)) rfl (E.any.glo 1) (ja_cons (je_var 0) (ja_cons (je_int) (ja_nil))))) (jss_cons (js_if (jt_bool (jw_or (jt_lt (je_var 5) (je_int)) (jw_or1 (jt_eq (je_var 4) (je_tup (ja_nil)))))) (jss_one (js_ret (je_tup (ja_cons (je_str) (ja_cons (je_var 2) (ja_cons (je_ix (je_lst (ja_cons (je_str) (ja_cons (je_str) (ja_cons (je_str) (ja_nil))))) (je_call (j__law_draw E.any (Nat.le_of_ble_eq_true rfl)) rfl (E.any.glo 1) (ja_cons (je_var 0) (ja_cons (je_int) (ja_nil))))) (ja_cons (je_eq (je_call (j__law_draw E.any (Nat.le_of_ble_eq_true rfl)) rfl (E.any.glo 1) (ja_cons (je_var 0) (ja_cons (je_int) (ja_nil)))) (je_int)) (ja_nil)))))))) (jss_nil)) (jss_one (js_ret (je_tup (ja_cons (je_ix (je_lst (ja_cons (je_str) (ja_cons (je_str) (ja_cons (je_str) (ja_nil))))) (je_sub (je_var 5) (je_int))) (ja_cons (je_var 2) (ja_cons (je_ix (je_ix (je_var 4) (je_call (j__law_draw E.any (Nat.le_of_ble_eq_true rfl)) rfl (E.any.glo 1) (ja_cons (je_var 0) (ja_cons (je_len rfl (E.any.free 3) (ja_cons (je_var 4) (ja_nil))) (ja_nil))))) (je_int)) (ja_nil)))))))))
theorem j__law_step (E : EnvE fa fn xs g) (hk : 1 + 1 ≤ g.k) : FnJ g (He.fAd g.K ("_law_step", none)) [] F__law_step := fn_at (d := d__law_step) E 10 rfl rfl rfl sc__law_step (w__law_step E) (fun _ _ _ _ _ _ us hl => match us, hl with | [_, _], _ => rfl) hk
/-! ### Schema_tables -/
abbrev N_Schema_tables : List Str := ["self"]
theorem sc_Schema_tables : FnScope N_Schema_tables ["self"] (defScope s_Schema_tables) := ⟨rfl, rfl, rfl, by decide +kernel, rfl, by decide +kernel, by decide +kernel⟩
theorem w_Schema_tables (E : EnvE fa fn xs g) : JSs (g.at_ 0 N_Schema_tables (defScope s_Schema_tables)) (defBody s_Schema_tables) t_Schema_tables := jss_one (js_ret (je_fld "Schema" "plan" (E.any.cls_ 27 "Schema") (E.any.noat 28 "Schema") (je_var 0)))
theorem j_Schema_tables (E : EnvE fa fn xs g) (hk : 0 + 1 ≤ g.k) : FnJ g (He.fAd g.K ("Schema", some "tables")) [] F_Schema_tables := fn_at (d := d_Schema_tables) E 11 rfl rfl rfl sc_Schema_tables (w_Schema_tables E) (fun _ _ _ _ _ _ us hl => match us, hl with | [_], _ => rfl) hk
/-! ### has_table -/
abbrev N_has_table : List Str := ["schema", "name", "table", "unique", "references"]
theorem sc_has_table : FnScope N_has_table ["schema", "name"] (defScope s_has_table) := ⟨rfl, rfl, rfl, by decide +kernel, rfl, by decide +kernel, by decide +kernel⟩
theorem w_has_table (E : EnvE fa fn xs g) : JSs (g.at_ 1 N_has_table (defScope s_has_table)) (defBody s_has_table) t_has_table := jss_cons (js_if (jt_not (jt_val (je_isTy rfl (E.any.free 11) rfl (E.any.free 13) (by decide +kernel) (je_var 1)))) (jss_one (js_ret (je_bl))) (jss_nil)) (jss_one (js_ret (je_in (je_var 1) (je_lc (own := [("table", 2), ("unique", 3), ("references", 4)]) (ji_any (je_meth0 "Schema" "tables" (j_Schema_tables E.any (Nat.le_of_ble_eq_true rfl)) (E.any.cls_ 27 "Schema") (E.any.meth 34 "Schema") (je_var 0))) (jg_tup (jgs_cons (jg_name 2) (jgs_cons (jg_name 3) (jgs_cons (jg_name 4) (jgs_nil))))) (jts_nil) (je_var 2) (show BlkOk N_has_table (defScope s_has_table) _ [("table", 2), ("unique", 3), ("references", 4)] from ⟨by rfl, by decide +kernel, by decide +kernel, by decide +kernel, by decide +kernel⟩)))))
theorem j_has_table (E : EnvE fa fn xs g) (hk : 1 + 1 ≤ g.k) : FnJ g (He.fAd g.K ("has_table", none)) [] F_has_table := fn_at (d := d_has_table) E 12 rfl rfl rfl sc_has_table (w_has_table E) (fun _ _ _ _ _ _ us hl => match us, hl with | [_, _], _ => rfl) hk
/-! ### is_flag -/
abbrev N_is_flag : List Str := ["thing"]
theorem sc_is_flag : FnScope N_is_flag ["thing"] (defScope s_is_flag) := ⟨rfl, rfl, rfl, by decide +kernel, rfl, by decide +kernel, by decide +kernel⟩
theorem w_is_flag (E : EnvE fa fn xs g) : JSs (g.at_ 0 N_is_flag (defScope s_is_flag)) (defBody s_is_flag) t_is_flag := jss_one (js_ret (je_or (je_isB true false (je_var 0)) (je_one (je_isB false false (je_var 0)))))
theorem j_is_flag (E : EnvE fa fn xs g) (hk : 0 + 1 ≤ g.k) : FnJ g (He.fAd g.K ("is_flag", none)) [] F_is_flag := fn_at (d := d_is_flag) E 13 rfl rfl rfl sc_is_flag (w_is_flag E) (fun _ _ _ _ _ _ us hl => match us, hl with | [_], _ => rfl) hk
/-! ### is_load -/
abbrev N_is_load : List Str := ["schema", "thing"]
theorem sc_is_load : FnScope N_is_load ["schema", "thing"] (defScope s_is_load) := ⟨rfl, rfl, rfl, by decide +kernel, rfl, by decide +kernel, by decide +kernel⟩
theorem w_is_load (E : EnvE fa fn xs g) : JSs (g.at_ 2 N_is_load (defScope s_is_load)) (defBody s_is_load) t_is_load := jss_cons (js_if (jt_bool (jw_or (jt_not (jt_val (je_call (j_has_table E.any (Nat.le_of_ble_eq_true rfl)) rfl (E.any.glo 35) (ja_cons (je_var 0) (ja_cons (je_ix (je_var 1) (je_int)) (ja_nil)))))) (jw_or1 (jt_not (jt_val (je_isTy rfl (E.any.free 11) rfl (E.any.free 13) (by decide +kernel) (je_ix (je_var 1) (je_int)))))))) (jss_one (js_ret (je_bl))) (jss_nil)) (jss_one (js_ret (je_and (je_in (je_ix (je_var 1) (je_int)) (je_gtup "POLICIES" [("raw" : Str), ("blank" : Str), ("refuse" : Str)] (E.any.prd 0) (E.any.glo 36))) (je_one (je_call (j_is_flag E.any (Nat.le_of_ble_eq_true rfl)) rfl (E.any.glo 37) (ja_cons (je_ix (je_var 1) (je_int)) (ja_nil)))))))
theorem j_is_load (E : EnvE fa fn xs g) (hk : 2 + 1 ≤ g.k) : FnJ g (He.fAd g.K ("is_load", none)) [] F_is_load := fn_at (d := d_is_load) E 14 rfl rfl rfl sc_is_load (w_is_load E) (fun _ _ _ _ _ _ us hl => match us, hl with | [_, _], _ => rfl) hk
/-! ### Schema_found -/
abbrev N_Schema_found : List Str := ["self", "name", "table"]
theorem sc_Schema_found : FnScope N_Schema_found ["self", "name"] (defScope s_Schema_found) := ⟨rfl, rfl, rfl, by decide +kernel, rfl, by decide +kernel, by decide +kernel⟩
theorem w_Schema_found (E : EnvE fa fn xs g) : JSs (g.at_ 2 N_Schema_found (defScope s_Schema_found)) (defBody s_Schema_found) t_Schema_found := jss_cons (js_for (ji_any (je_fld "Schema" "plan" (E.any.cls_ 27 "Schema") (E.any.noat 28 "Schema") (je_var 0))) (jg_name 2) (jss_one (js_if (jt_eq (je_ix (je_var 2) (je_int)) (je_var 1)) (jss_one (js_ret (je_var 2))) (jss_nil)))) (jss_one (js_raise (fI := He.fAd _ ("NoTable", some "__init__")) "NoTable" ["name"] (E.any.xcl "NoTable" (by decide +kernel)).1 (E.any.meth 40 "NoTable").at_ (beq_iff_eq.mp (E.any.meth (m := "__init__") 40 "NoTable").fn) (xj_NoTable E.any (Nat.le_of_ble_eq_true rfl)) rfl (E.any.gcl 42 "NoTable") (ja_cons (je_var 1) (ja_nil))))
theorem j_Schema_found (E : EnvE fa fn xs g) (hk : 2 + 1 ≤ g.k) : FnJ g (He.fAd g.K ("Schema", some "found")) [] F_Schema_found := fn_at (d := d_Schema_found) E 15 rfl rfl rfl sc_Schema_found (w_Schema_found E) (fun _ _ _ _ _ _ us hl => match us, hl with | [_, _], _ => rfl) hk
/-! ### Schema_columns -/
abbrev N_Schema_columns : List Str := ["self", "name", "column", "place"]
theorem sc_Schema_columns : FnScope N_Schema_columns ["self", "name"] (defScope s_Schema_columns) := ⟨rfl, rfl, rfl, by decide +kernel, rfl, by decide +kernel, by decide +kernel⟩
theorem w_Schema_columns (E : EnvE fa fn xs g) : JSs (g.at_ 3 N_Schema_columns (defScope s_Schema_columns)) (defBody s_Schema_columns) t_Schema_columns := jss_one (js_ret (je_tuple rfl (E.any.free 6) (ja_cons (je_lc (own := [("column", 2), ("place", 3)]) (ji_any (je_ix (je_meth "Schema" "found" (j_Schema_found E.any (Nat.le_of_ble_eq_true rfl)) (E.any.cls_ 27 "Schema") (E.any.meth 43 "Schema") (je_var 0) (ja_cons (je_var 1) (ja_nil))) (je_int))) (jg_tup (jgs_cons (jg_name 2) (jgs_cons (jg_name 3) (jgs_nil)))) (jts_nil) (je_var 2) (show BlkOk N_Schema_columns (defScope s_Schema_columns) _ [("column", 2), ("place", 3)] from ⟨by rfl, by decide +kernel, by decide +kernel, by decide +kernel, by decide +kernel⟩)) (ja_nil))))
theorem j_Schema_columns (E : EnvE fa fn xs g) (hk : 3 + 1 ≤ g.k) : FnJ g (He.fAd g.K ("Schema", some "columns")) [] F_Schema_columns := fn_at (d := d_Schema_columns) E 16 rfl rfl rfl sc_Schema_columns (w_Schema_columns E) (fun _ _ _ _ _ _ us hl => match us, hl with | [_, _], _ => rfl) hk
/-! ### has_column -/
abbrev N_has_column : List Str := ["schema", "name", "column"]
theorem sc_has_column : FnScope N_has_column ["schema", "name", "column"] (defScope s_has_column) := ⟨rfl, rfl, rfl, by decide +kernel, rfl, by decide +kernel, by decide +kernel⟩
theorem w_has_column (E : EnvE fa fn xs g) : JSs (g.at_ 4 N_has_column (defScope s_has_column)) (defBody s_has_column) t_has_column := jss_cons (js_if (jt_bool (jw_or (jt_not (jt_val (je_call (j_has_table E.any (Nat.le_of_ble_eq_true rfl)) rfl (E.any.glo 35) (ja_cons (je_var 0) (ja_cons (je_var 1) (ja_nil)))))) (jw_or1 (jt_not (jt_val (je_isTy rfl (E.any.free 11) rfl (E.any.free 13) (by decide +kernel) (je_var 2))))))) (jss_one (js_ret (je_bl))) (jss_nil)) (jss_one (js_ret (je_in (je_var 2) (je_meth "Schema" "columns" (j_Schema_columns E.any (Nat.le_of_ble_eq_true rfl)) (E.any.cls_ 27 "Schema") (E.any.meth 44 "Schema") (je_var 0) (ja_cons (je_var 1) (ja_nil))))))
theorem j_has_column (E : EnvE fa fn xs g) (hk : 4 + 1 ≤ g.k) : FnJ g (He.fAd g.K ("has_column", none)) [] F_has_column := fn_at (d := d_has_column) E 17 rfl rfl rfl sc_has_column (w_has_column E) (fun _ _ _ _ _ _ us hl => match us, hl with | [_, _, _], _ => rfl) hk
/-! ### is_step -/
abbrev N_is_step : List Str := ["schema", "thing"]
theorem sc_is_step : FnScope N_is_step ["schema", "thing"] (defScope s_is_step) := ⟨rfl, rfl, rfl, by decide +kernel, rfl, by decide +kernel, by decide +kernel⟩
theorem w_is_step (E : EnvE fa fn xs g) : JSs (g.at_ 5 N_is_step (defScope s_is_step)) (defBody s_is_step) t_is_step := jss_cons (js_if (jt_bool (jw_or (jt_not (jt_val (je_isTy rfl (E.any.free 11) rfl (E.any.free 6) (by decide +kernel) (je_var 1)))) (jw_or (jt_lt (je_len rfl (E.any.free 3) (ja_cons (je_var 1) (ja_nil))) (je_int)) (jw_or1 (jt_not (jt_val (je_isTy rfl (E.any.free 11) rfl (E.any.free 13) (by decide +kernel) (je_ix (je_var 1) (je_int))))))))) (jss_one (js_ret (je_bl))) (jss_nil)) (jss_cons (js_if (jt_eq (je_ix (je_var 1) (je_int)) (je_str)) (jss_one (js_ret (je_and (je_eq (je_len rfl (E.any.free 3) (ja_cons (je_var 1) (ja_nil))) (je_int)) (je_one (je_call (j_is_load E.any (Nat.le_of_ble_eq_true rfl)) rfl (E.any.glo 38) (ja_cons (je_var 0) (ja_cons (je_var 1) (ja_nil)))))))) (jss_nil)) (jss_one (js_ret (je_and (je_in (je_ix (je_var 1) (je_int)) (je_gtup "CHANGES" [("patch" : Str), ("fill" : Str), ("sweep" : Str)] (E.any.prd 1) (E.any.glo 39))) (je_and (je_eq (je_len rfl (E.any.free 3) (ja_cons (je_var 1) (ja_nil))) (je_int)) (je_one (je_call (j_has_column E.any (Nat.le_of_ble_eq_true rfl)) rfl (E.any.glo 45) (ja_cons (je_var 0) (ja_cons (je_ix (je_var 1) (je_int)) (ja_cons (je_ix (je_var 1) (je_int)) (ja_nil)))))))))))
theorem j_is_step (E : EnvE fa fn xs g) (hk : 5 + 1 ≤ g.k) : FnJ g (He.fAd g.K ("is_step", none)) [] F_is_step := fn_at (d := d_is_step) E 18 rfl rfl rfl sc_is_step (w_is_step E) (fun _ _ _ _ _ _ us hl => match us, hl with | [_, _], _ => rfl) hk
/-! ### first_wrong -/
abbrev N_first_wrong : List Str := ["schema", "steps", "index", "thing"]
theorem sc_first_wrong : FnScope N_first_wrong ["schema", "steps"] (defScope s_first_wrong) := ⟨rfl, rfl, rfl, by decide +kernel, rfl, by decide +kernel, by decide +kernel⟩
theorem w_first_wrong (E : EnvE fa fn xs g) : JSs (g.at_ 6 N_first_wrong (defScope s_first_wrong)) (defBody s_first_wrong) t_first_wrong := jss_cons (js_if (jt_not (jt_val (je_isTy rfl (E.any.free 11) rfl (E.any.free 6) (by decide +kernel) (je_var 1)))) (jss_one (js_ret (je_int))) (jss_nil)) (jss_cons (js_for (ji_enum rfl (E.any.free 32) (ja_cons (je_var 1) (ja_nil))) (jg_tup (jgs_cons (jg_name 2) (jgs_cons (jg_name 3) (jgs_nil)))) (jss_one (js_if (jt_bool (jw_or (jt_ge (je_var 2) (je_gintE (E.any.int_ 33))) (jw_or1 (jt_not (jt_val (je_call (j_is_step E.any (Nat.le_of_ble_eq_true rfl)) rfl (E.any.glo 46) (ja_cons (je_var 0) (ja_cons (je_var 3) (ja_nil))))))))) (jss_one (js_ret (je_var 2))) (jss_nil)))) (jss_one (js_ret (je_non))))
theorem j_first_wrong (E : EnvE fa fn xs g) (hk : 6 + 1 ≤ g.k) : FnJ g (He.fAd g.K ("first_wrong", none)) [] F_first_wrong := fn_at (d := d_first_wrong) E 19 rfl rfl rfl sc_first_wrong (w_first_wrong E) (fun _ _ _ _ _ _ us hl => match us, hl with | [_, _], _ => rfl) hk
/-! ### Script_init -/
abbrev N_Script_init : List Str := ["self", "schema", "steps", "kept", "wrong"]
theorem sc_Script_init : FnScope N_Script_init ["self", "schema", "steps", "kept"] (defScope s_Script_init) := ⟨rfl, rfl, rfl, by decide +kernel, rfl, by decide +kernel, by decide +kernel⟩
theorem w_Script_init (E : EnvE fa fn xs g) : JSs (g.at_ 7 N_Script_init (defScope s_Script_init)) (defBody s_Script_init) t_Script_init := jss_cons (js_set 4 (je_call (j_first_wrong E.any (Nat.le_of_ble_eq_true rfl)) rfl (E.any.glo 47) (ja_cons (je_var 1) (ja_cons (je_var 2) (ja_nil))))) (jss_cons (js_if (jt_notN (je_var 4)) (jss_one (js_raise (fI := He.fAd _ ("NoStep", some "__init__")) "NoStep" ["index"] (E.any.xcl "NoStep" (by decide +kernel)).1 (E.any.meth 48 "NoStep").at_ (beq_iff_eq.mp (E.any.meth (m := "__init__") 48 "NoStep").fn) (xj_NoStep E.any (Nat.le_of_ble_eq_true rfl)) rfl (E.any.gcl 50 "NoStep") (ja_cons (je_var 4) (ja_nil)))) (jss_nil)) (jss_cons (js_if (jt_not (jt_val (je_call (j_is_flag E.any (Nat.le_of_ble_eq_true rfl)) rfl (E.any.glo 37) (ja_cons (je_var 3) (ja_nil))))) (jss_one (js_bad)) (jss_nil)) (jss_cons (js_fld "Script" "frame" (E.any.cls_ 51 "Script") (E.any.noat 52 "Script") (je_var 0) (je_var 1)) (jss_cons (js_fld "Script" "sequence" (E.any.cls_ 51 "Script") (E.any.noat 53 "Script") (je_var 0) (je_var 2)) (jss_one (js_fld "Script" "keeping" (E.any.cls_ 51 "Script") (E.any.noat 54 "Script") (je_var 0) (je_var 3)))))))
theorem jg_Script_init_0 (E : EnvE fa fn xs g) (hk : 7 + 1 ≤ g.k) : GMk g (He.fAd g.K ("Script", some "__init__")) 2 [] [0, 1, 2] [.bl true] F_Script_init := gmk_dfl (d := d_Script_init) E 20 rfl (by intro z; cases z) rfl sc_Script_init (w_Script_init E) (fun wd => by simp [He.DefD.dvs, He.Dv.v, RDs, RD]) (fun _ _ _ _ _ _ _ _ us ws its h1 h2 h3 => match us, ws, its, h1, h2, h3 with | [_, _], [], [_], _, _, _ => ⟨_, rfl, rfl⟩) hk
theorem jg_Script_init_1 (E : EnvE fa fn xs g) (hk : 7 + 1 ≤ g.k) : GMk g (He.fAd g.K ("Script", some "__init__")) 3 [] [0, 1, 2] [.bl true] F_Script_init := gmk_dfl (d := d_Script_init) E 20 rfl (by intro z; cases z) rfl sc_Script_init (w_Script_init E) (fun wd => by simp [He.DefD.dvs, He.Dv.v, RDs, RD]) (fun _ _ _ _ _ _ _ _ us ws its h1 h2 h3 => match us, ws, its, h1, h2, h3 with | [_, _, _], [], [_], _, _, _ => ⟨_, rfl, rfl⟩) hk
/-! ### _law_text -/
abbrev N__law_text : List Str := ["row", "flag", "written", "step"]
theorem sc__law_text : FnScope N__law_text ["row", "flag"] (defScope s__law_text) := ⟨rfl, rfl, rfl, by decide +kernel, rfl, by decide +kernel, by decide +kernel⟩
theorem w__law_text (E : EnvE fa fn xs g) : JSs (g.at_ 0 N__law_text (defScope s__law_text)) (defBody s__law_text) t__law_text := jss_cons (js_set 2 (je_ix (je_lst (ja_cons (je_str) (ja_cons (je_str) (ja_nil)))) (je_int1 rfl (E.any.free 0) (ja_cons (je_var 1) (ja_nil))))) (jss_cons (js_for (ji_any (je_var 0)) (jg_name 3) (jss_cons (js_set 2 (je_add (je_add (je_add (je_add (je_add (je_add (je_var 2) (je_str)) (je_ix (je_var 3) (je_int))) (je_str)) (je_ix (je_var 3) (je_int))) (je_str)) (je_ix (je_var 3) (je_int)))) (jss_one (js_if (jt_bool (jw_and (jt_eq (je_ix (je_var 3) (je_int)) (je_str)) (jw_and1 (jt_val (je_ix (je_var 3) (je_int)))))) (jss_one (js_set 2 (je_add (je_var 2) (je_str)))) (jss_nil))))) (jss_one (js_ret (je_var 2))))
theorem j__law_text (E : EnvE fa fn xs g) (hk : 0 + 1 ≤ g.k) : FnJ g (He.fAd g.K ("_law_text", none)) [] F__law_text := fn_at (d := d__law_text) E 21 rfl rfl rfl sc__law_text (w__law_text E) (fun _ _ _ _ _ _ us hl => match us, hl with | [_, _], _ => rfl) hk
/-! ### Script_steps -/
abbrev N_Script_steps : List Str := ["self"]
theorem sc_Script_steps : FnScope N_Script_steps ["self"] (defScope s_Script_steps) := ⟨rfl, rfl, rfl, by decide +kernel, rfl, by decide +kernel, by decide +kernel⟩
theorem w_Script_steps (E : EnvE fa fn xs g) : JSs (g.at_ 0 N_Script_steps (defScope s_Script_steps)) (defBody s_Script_steps) t_Script_steps := jss_one (js_ret (je_fld "Script" "sequence" (E.any.cls_ 51 "Script") (E.any.noat 53 "Script") (je_var 0)))
theorem j_Script_steps (E : EnvE fa fn xs g) (hk : 0 + 1 ≤ g.k) : FnJ g (He.fAd g.K ("Script", some "steps")) [] F_Script_steps := fn_at (d := d_Script_steps) E 22 rfl rfl rfl sc_Script_steps (w_Script_steps E) (fun _ _ _ _ _ _ us hl => match us, hl with | [_], _ => rfl) hk
/-! ### step_text -/
abbrev N_step_text : List Str := ["step", "words"]
theorem sc_step_text : FnScope N_step_text ["step"] (defScope s_step_text) := ⟨rfl, rfl, rfl, by decide +kernel, rfl, by decide +kernel, by decide +kernel⟩
theorem w_step_text (E : EnvE fa fn xs g) : JSs (g.at_ 0 N_step_text (defScope s_step_text)) (defBody s_step_text) t_step_text := jss_cons (js_if (jt_eq (je_ix (je_var 0) (je_int)) (je_str)) (jss_cons (js_setB 1 (je_lst (ja_cons (je_ix (je_var 0) (je_int)) (ja_cons (je_ix (je_var 0) (je_int)) (ja_cons (je_ix (je_var 0) (je_int)) (ja_nil)))))) (jss_cons (js_if (jt_val (je_ix (je_var 0) (je_int))) (jss_one (js_expr (je_append (je_var 1) (je_str)))) (jss_nil)) (jss_one (js_ret (je_join (je_str) (je_var 1)))))) (jss_nil)) (jss_one (js_ret (je_join (je_str) (je_listT rfl (E.any.free 4) (ja_cons (je_var 0) (ja_nil))))))
theorem j_step_text (E : EnvE fa fn xs g) (hk : 0 + 1 ≤ g.k) : FnJ g (He.fAd g.K ("step_text", none)) [] F_step_text := fn_at (d := d_step_text) E 23 rfl rfl rfl sc_step_text (w_step_text E) (fun _ _ _ _ _ _ us hl => match us, hl with | [_], _ => rfl) hk
/-! ### script_text -/
abbrev N_script_text : List Str := ["script", "parts", "step"]
theorem sc_script_text : FnScope N_script_text ["script"] (defScope s_script_text) := ⟨rfl, rfl, rfl, by decide +kernel, rfl, by decide +kernel, by decide +kernel⟩
theorem w_script_text (E : EnvE fa fn xs g) : JSs (g.at_ 2 N_script_text (defScope s_script_text)) (defBody s_script_text) t_script_text := jss_cons (js_setB 1 (je_lst (ja_cons (je_if (jt_val (je_prop "Script" "kept" "keeping" (E.any.prd 2) (E.any.cls_ 51 "Script") (E.any.noat 54 "Script") (E.any.cad "Script") (Nat.le_of_ble_eq_true rfl) (je_var 0))) (je_str) (je_str)) (ja_nil)))) (jss_cons (js_for (ji_any (je_meth0 "Script" "steps" (j_Script_steps E.any (Nat.le_of_ble_eq_true rfl)) (E.any.cls_ 51 "Script") (E.any.meth 58 "Script") (je_var 0))) (jg_name 2) (jss_one (js_expr (je_append (je_var 1) (je_call (j_step_text E.any (Nat.le_of_ble_eq_true rfl)) rfl (E.any.glo 59) (ja_cons (je_var 2) (ja_nil))))))) (jss_one (js_ret (je_join (je_str) (je_var 1)))))
theorem j_script_text (E : EnvE fa fn xs g) (hk : 2 + 1 ≤ g.k) : FnJ g (He.fAd g.K ("script_text", none)) [] F_script_text := fn_at (d := d_script_text) E 24 rfl rfl rfl sc_script_text (w_script_text E) (fun _ _ _ _ _ _ us hl => match us, hl with | [_], _ => rfl) hk
/-! ### step_of -/
abbrev N_step_of : List Str := ["part", "words"]
theorem sc_step_of : FnScope N_step_of ["part"] (defScope s_step_of) := ⟨rfl, rfl, rfl, by decide +kernel, rfl, by decide +kernel, by decide +kernel⟩
theorem w_step_of (E : EnvE fa fn xs g) : JSs (g.at_ 1 N_step_of (defScope s_step_of)) (defBody s_step_of) t_step_of := jss_cons (js_set 1 (je_split (je_var 0) (je_str))) (jss_cons (js_if (jt_bool (jw_or (jt_lt (je_len rfl (E.any.free 3) (ja_cons (je_var 1) (ja_nil))) (je_int)) (jw_or1 (jt_not (jt_val (je_call (j_is_name E.any (Nat.le_of_ble_eq_true rfl)) rfl (E.any.glo 17) (ja_cons (je_ix (je_var 1) (je_int)) (ja_nil)))))))) (jss_one (js_ret (je_non))) (jss_nil)) (jss_cons (js_if (jt_eq (je_ix (je_var 1) (je_int)) (je_str)) (jss_cons (js_if (jt_bool (jw_or (jt_notIn (je_ix (je_var 1) (je_int)) (je_gtup "POLICIES" [("raw" : Str), ("blank" : Str), ("refuse" : Str)] (E.any.prd 0) (E.any.glo 36))) (jw_or1 (jt_notInT (je_sl (je_var 1) (jo_some (je_int)) (jo_none)) (je_tup (ja_cons (je_lst (ja_nil)) (ja_cons (je_lst (ja_cons (je_str) (ja_nil))) (ja_nil)))))))) (jss_one (js_ret (je_non))) (jss_nil)) (jss_one (js_ret (je_tup (ja_cons (je_str) (ja_cons (je_ix (je_var 1) (je_int)) (ja_cons (je_ix (je_var 1) (je_int)) (ja_cons (je_eq (je_len rfl (E.any.free 3) (ja_cons (je_var 1) (ja_nil))) (je_int)) (ja_nil))))))))) (jss_nil)) (jss_cons (js_if (jt_bool (jw_or (jt_notIn (je_ix (je_var 1) (je_int)) (je_gtup "CHANGES" [("patch" : Str), ("fill" : Str), ("sweep" : Str)] (E.any.prd 1) (E.any.glo 39))) (jw_or (jt_ne (je_len rfl (E.any.free 3) (ja_cons (je_var 1) (ja_nil))) (je_int)) (jw_or1 (jt_not (jt_val (je_call (j_is_name E.any (Nat.le_of_ble_eq_true rfl)) rfl (E.any.glo 17) (ja_cons (je_ix (je_var 1) (je_int)) (ja_nil))))))))) (jss_one (js_ret (je_non))) (jss_nil)) (jss_one (js_ret (je_tup (ja_cons (je_ix (je_var 1) (je_int)) (ja_cons (je_ix (je_var 1) (je_int)) (ja_cons (je_ix (je_var 1) (je_int)) (ja_nil))))))))))
theorem j_step_of (E : EnvE fa fn xs g) (hk : 1 + 1 ≤ g.k) : FnJ g (He.fAd g.K ("step_of", none)) [] F_step_of := fn_at (d := d_step_of) E 25 rfl rfl rfl sc_step_of (w_step_of E) (fun _ _ _ _ _ _ us hl => match us, hl with | [_], _ => rfl) hk
/-! ### read_script -/
abbrev N_read_script : List Str := ["schema", "text", "parts", "steps", "index", "step"]
theorem sc_read_script : FnScope N_read_script ["schema", "text"] (defScope s_read_script) := ⟨rfl, rfl, rfl, by decide +kernel, rfl, by decide +kernel, by decide +kernel⟩
theorem w_read_script (E : EnvE fa fn xs g) : JSs (g.at_ 9 N_read_script (defScope s_read_script)) (defBody s_read_script) t_read_script := jss_cons (js_if (jt_not (jt_val (je_isTy rfl (E.any.free 11) rfl (E.any.free 13) (by decide +kernel) (je_var 1)))) (jss_one (js_raise (fI := He.fAd _ ("NoText", some "__init__")) "NoText" ["part"] (E.any.xcl "NoText" (by decide +kernel)).1 (E.any.meth 61 "NoText").at_ (beq_iff_eq.mp (E.any.meth (m := "__init__") 61 "NoText").fn) (xj_NoText E.any (Nat.le_of_ble_eq_true rfl)) rfl (E.any.gcl 63 "NoText") (ja_cons (je_int) (ja_nil)))) (jss_nil)) (jss_cons (js_set 2 (je_split (je_var 1) (je_str))) (jss_cons (js_if (jt_notIn (je_ix (je_var 2) (je_int)) (je_tup (ja_cons (je_str) (ja_cons (je_str) (ja_nil))))) (jss_one (js_raise (fI := He.fAd _ ("NoText", some "__init__")) "NoText" ["part"] (E.any.xcl "NoText" (by decide +kernel)).1 (E.any.meth 61 "NoText").at_ (beq_iff_eq.mp (E.any.meth (m := "__init__") 61 "NoText").fn) (xj_NoText E.any (Nat.le_of_ble_eq_true rfl)) rfl (E.any.gcl 63 "NoText") (ja_cons (je_int) (ja_nil)))) (jss_nil)) (jss_cons (js_setB 3 (je_lst (ja_nil))) (jss_cons (js_for (ji_range2 rfl (E.any.free 2) (ja_cons (je_int) (ja_cons (je_len rfl (E.any.free 3) (ja_cons (je_var 2) (ja_nil))) (ja_nil)))) (jg_name 4) (jss_cons (js_set 5 (je_call (j_step_of E.any (Nat.le_of_ble_eq_true rfl)) rfl (E.any.glo 64) (ja_cons (je_ix (je_var 2) (je_var 4)) (ja_nil)))) (jss_cons (js_if (jt_isN (je_var 5)) (jss_one (js_raise (fI := He.fAd _ ("NoText", some "__init__")) "NoText" ["part"] (E.any.xcl "NoText" (by decide +kernel)).1 (E.any.meth 61 "NoText").at_ (beq_iff_eq.mp (E.any.meth (m := "__init__") 61 "NoText").fn) (xj_NoText E.any (Nat.le_of_ble_eq_true rfl)) rfl (E.any.gcl 63 "NoText") (ja_cons (je_var 4) (ja_nil)))) (jss_nil)) (jss_one (js_expr (je_append (je_var 3) (je_var 5))))))) (jss_one (js_ret (je_mgp (k0 := 8) "Script" (jg_Script_init_1 E.any (Nat.le_of_ble_eq_true rfl)) (Nat.le_of_ble_eq_true rfl) (E.any.mkr 55 "Script") rfl (E.any.gcl 56 "Script") (ja_cons (je_var 0) (ja_cons (je_tuple rfl (E.any.free 6) (ja_cons (je_var 3) (ja_nil))) (ja_cons (je_eq (je_ix (je_var 2) (je_int)) (je_str)) (ja_nil)))))))))))
theorem j_read_script (E : EnvE fa fn xs g) (hk : 9 + 1 ≤ g.k) : FnJ g (He.fAd g.K ("read_script", none)) [] F_read_script := fn_at (d := d_read_script) E 26 rfl rfl rfl sc_read_script (w_read_script E) (fun _ _ _ _ _ _ us hl => match us, hl with | [_, _], _ => rfl) hk
theorem jg_read_script_0 (E : EnvE fa fn xs g) (hk : 9 + 1 ≤ g.k) : GFn g (He.fAd g.K ("read_script", none)) 0 ["text", "schema"] [1, 0] [] F_read_script := gfn_at (d := d_read_script) E 26 rfl rfl rfl sc_read_script (w_read_script E) (fun _ _ _ _ _ _ us ws h1 h2 => match us, ws, h1, h2 with | [], [_, _], _, _ => rfl) hk
/-! ### Script_len -/
abbrev N_Script_len : List Str := ["self"]
theorem sc_Script_len : FnScope N_Script_len ["self"] (defScope s_Script_len) := ⟨rfl, rfl, rfl, by decide +kernel, rfl, by decide +kernel, by decide +kernel⟩
theorem w_Script_len (E : EnvE fa fn xs g) : JSs (g.at_ 0 N_Script_len (defScope s_Script_len)) (defBody s_Script_len) t_Script_len := jss_one (js_ret (je_len rfl (E.any.free 3) (ja_cons (je_fld "Script" "sequence" (E.any.cls_ 51 "Script") (E.any.noat 53 "Script") (je_var 0)) (ja_nil))))
theorem j_Script_len (E : EnvE fa fn xs g) (hk : 0 + 1 ≤ g.k) : FnJ g (He.fAd g.K ("Script", some "__len__")) [] F_Script_len := fn_at (d := d_Script_len) E 27 rfl rfl rfl sc_Script_len (w_Script_len E) (fun _ _ _ _ _ _ us hl => match us, hl with | [_], _ => rfl) hk
/-! ### _law_holds -/
abbrev N__law_holds : List Str := ["made", "row", "flag", "step"]
theorem sc__law_holds : FnScope N__law_holds ["made", "row", "flag"] (defScope s__law_holds) := ⟨rfl, rfl, rfl, by decide +kernel, rfl, by decide +kernel, by decide +kernel⟩
theorem w__law_holds (E : EnvE fa fn xs g) : JSs (g.at_ 2 N__law_holds (defScope s__law_holds)) (defBody s__law_holds) t__law_holds := jss_cons (js_if (jt_bool (jw_or (jt_not (jt_val (je_isTy rfl (E.any.free 11) rfl (E.any.free 6) (by decide +kernel) (je_meth0 "Script" "steps" (j_Script_steps E.any (Nat.le_of_ble_eq_true rfl)) (E.any.cls_ 51 "Script") (E.any.meth 58 "Script") (je_var 0))))) (jw_or (jt_ne (je_meth0 "Script" "steps" (j_Script_steps E.any (Nat.le_of_ble_eq_true rfl)) (E.any.cls_ 51 "Script") (E.any.meth 58 "Script") (je_var 0)) (je_var 1)) (jw_or1 (jt_ne (je_own_len "Script" (k0 := 1) (j_Script_len E.any (Nat.le_of_ble_eq_true rfl)) (Nat.le_of_ble_eq_true rfl) (E.any.meth 66 "Script") rfl (E.any.free 3) (je_var 0)) (je_len rfl (E.any.free 3) (ja_cons (je_var 1) (ja_nil)))))))) (jss_one (js_ret (je_bl))) (jss_nil)) (jss_cons (js_for (ji_any (je_meth0 "Script" "steps" (j_Script_steps E.any (Nat.le_of_ble_eq_true rfl)) (E.any.cls_ 51 "Script") (E.any.meth 58 "Script") (je_var 0))) (jg_name 3) (jss_one (js_if (jt_bool (jw_and (jt_eq (je_len rfl (E.any.free 3) (ja_cons (je_var 3) (ja_nil))) (je_int)) (jw_and1 (jt_not (jt_val (je_isTy rfl (E.any.free 11) rfl (E.any.free 18) (by decide +kernel) (je_ix (je_var 3) (je_int)))))))) (jss_one (js_ret (je_bl))) (jss_nil)))) (jss_one (js_ret (je_and (je_isTy rfl (E.any.free 11) rfl (E.any.free 18) (by decide +kernel) (je_prop "Script" "kept" "keeping" (E.any.prd 2) (E.any.cls_ 51 "Script") (E.any.noat 54 "Script") (E.any.cad "Script") (Nat.le_of_ble_eq_true rfl) (je_var 0))) (je_one (je_eq (je_prop "Script" "kept" "keeping" (E.any.prd 2) (E.any.cls_ 51 "Script") (E.any.noat 54 "Script") (E.any.cad "Script") (Nat.le_of_ble_eq_true rfl) (je_var 0)) (je_var 2)))))))
theorem j__law_holds (E : EnvE fa fn xs g) (hk : 2 + 1 ≤ g.k) : FnJ g (He.fAd g.K ("_law_holds", none)) [] F__law_holds := fn_at (d := d__law_holds) E 28 rfl rfl rfl sc__law_holds (w__law_holds E) (fun _ _ _ _ _ _ us hl => match us, hl with | [_, _, _], _ => rfl) hk
/-! ### Schema_eq -/
abbrev N_Schema_eq : List Str := ["self", "other"]
theorem sc_Schema_eq : FnScope N_Schema_eq ["self", "other"] (defScope s_Schema_eq) := ⟨rfl, rfl, rfl, by decide +kernel, rfl, by decide +kernel, by decide +kernel⟩
theorem w_Schema_eq (E : EnvE fa fn xs g) : JSs (g.at_ 0 N_Schema_eq (defScope s_Schema_eq)) (defBody s_Schema_eq) t_Schema_eq := jss_one (js_ret (je_and (je_isC "Schema" (tabOwn "Schema" ["Schema", "Script"]) (E.any.isT 4 "Schema" ["Schema", "Script"]) rfl (E.any.free 11) rfl (E.any.gcl 30 "Schema") (je_var 1)) (je_one (je_eq (je_fld "Schema" "plan" (E.any.cls_ 27 "Schema") (E.any.noat 28 "Schema") (je_var 0)) (je_fld "Schema" "plan" (E.any.cls_ 27 "Schema") (E.any.noat 28 "Schema") (je_var 1))))))
theorem j_Schema_eq (E : EnvE fa fn xs g) (hk : 0 + 1 ≤ g.k) : FnJ g (He.fAd g.K ("Schema", some "__eq__")) [] F_Schema_eq := fn_at (d := d_Schema_eq) E 29 rfl rfl rfl sc_Schema_eq (w_Schema_eq E) (fun _ _ _ _ _ _ us hl => match us, hl with | [_, _], _ => rfl) hk
/-! ### Script_eq -/
abbrev N_Script_eq : List Str := ["self", "other"]
theorem sc_Script_eq : FnScope N_Script_eq ["self", "other"] (defScope s_Script_eq) := ⟨rfl, rfl, rfl, by decide +kernel, rfl, by decide +kernel, by decide +kernel⟩
theorem w_Script_eq (E : EnvE fa fn xs g) : JSs (g.at_ 2 N_Script_eq (defScope s_Script_eq)) (defBody s_Script_eq) t_Script_eq := jss_cons (js_if (jt_not (jt_val (je_isC "Script" (tabOwn "Script" ["Schema", "Script"]) (E.any.isT 3 "Script" ["Schema", "Script"]) rfl (E.any.free 11) rfl (E.any.gcl 56 "Script") (je_var 1)))) (jss_one (js_ret (je_bl))) (jss_nil)) (jss_one (js_ret (je_and (je_own_eq "Schema" (k0 := 1) (j_Schema_eq E.any (Nat.le_of_ble_eq_true rfl)) (Nat.le_of_ble_eq_true rfl) (E.any.meth 68 "Schema") (nfOwn ["Schema", "Script"]) (E.any.nf 5 "Schema" ["Schema", "Script"]) (je_fld "Script" "frame" (E.any.cls_ 51 "Script") (E.any.noat 52 "Script") (je_var 0)) (je_fld "Script" "frame" (E.any.cls_ 51 "Script") (E.any.noat 52 "Script") (je_var 1))) (je_and (je_eq (je_fld "Script" "sequence" (E.any.cls_ 51 "Script") (E.any.noat 53 "Script") (je_var 0)) (je_fld "Script" "sequence" (E.any.cls_ 51 "Script") (E.any.noat 53 "Script") (je_var 1))) (je_one (je_eq (je_fld "Script" "keeping" (E.any.cls_ 51 "Script") (E.any.noat 54 "Script") (je_var 0)) (je_fld "Script" "keeping" (E.any.cls_ 51 "Script") (E.any.noat 54 "Script") (je_var 1))))))))
theorem j_Script_eq (E : EnvE fa fn xs g) (hk : 2 + 1 ≤ g.k) : FnJ g (He.fAd g.K ("Script", some "__eq__")) [] F_Script_eq := fn_at (d := d_Script_eq) E 30 rfl rfl rfl sc_Script_eq (w_Script_eq E) (fun _ _ _ _ _ _ us hl => match us, hl with | [_, _], _ => rfl) hk
/-! ### Script_schema -/
abbrev N_Script_schema : List Str := ["self"]
theorem sc_Script_schema : FnScope N_Script_schema ["self"] (defScope s_Script_schema) := ⟨rfl, rfl, rfl, by decide +kernel, rfl, by decide +kernel, by decide +kernel⟩
theorem w_Script_schema (E : EnvE fa fn xs g) : JSs (g.at_ 0 N_Script_schema (defScope s_Script_schema)) (defBody s_Script_schema) t_Script_schema := jss_one (js_ret (je_fld "Script" "frame" (E.any.cls_ 51 "Script") (E.any.noat 52 "Script") (je_var 0)))
theorem j_Script_schema (E : EnvE fa fn xs g) (hk : 0 + 1 ≤ g.k) : FnJ g (He.fAd g.K ("Script", some "schema")) [] F_Script_schema := fn_at (d := d_Script_schema) E 31 rfl rfl rfl sc_Script_schema (w_Script_schema E) (fun _ _ _ _ _ _ us hl => match us, hl with | [_], _ => rfl) hk
/-! ### _law_right -/
abbrev N__law_right : List Str := ["frame", "made", "row", "flag", "due", "found", "back"]
theorem sc__law_right : FnScope N__law_right ["frame", "made", "row", "flag"] (defScope s__law_right) := ⟨rfl, rfl, rfl, by decide +kernel, rfl, by decide +kernel, by decide +kernel⟩
theorem w__law_right (E : EnvE fa fn xs g) : JSs (g.at_ 10 N__law_right (defScope s__law_right)) (defBody s__law_right) t__law_right := jss_cons (js_set 4 (je_call (j__law_text E.any (Nat.le_of_ble_eq_true rfl)) rfl (E.any.glo 57) (ja_cons (je_var 2) (ja_cons (je_var 3) (ja_nil))))) (jss_cons (js_set 5 (je_call (j_script_text E.any (Nat.le_of_ble_eq_true rfl)) rfl (E.any.glo 60) (ja_cons (je_var 1) (ja_nil)))) (jss_cons (js_if (jt_bool (jw_or (jt_not (jt_val (je_isTy rfl (E.any.free 11) rfl (E.any.free 13) (by decide +kernel) (je_var 5)))) (jw_or1 (jt_ne (je_var 5) (je_var 4))))) (jss_one (js_ret (je_bl))) (jss_nil)) (jss_cons (js_for (ji_any (je_lst (ja_cons (je_call (j_read_script E.any (Nat.le_of_ble_eq_true rfl)) rfl (E.any.glo 65) (ja_cons (je_var 0) (ja_cons (je_var 5) (ja_nil)))) (ja_cons (je_gkw0 (jg_read_script_0 E.any (Nat.le_of_ble_eq_true rfl)) rfl (E.any.glo 65) (jk_cons (je_var 4) (jk_cons (je_var 0) (jk_nil)))) (ja_nil))))) (jg_name 6) (jss_cons (js_if (jt_bool (jw_or (jt_not (jt_val (je_call (j__law_holds E.any (Nat.le_of_ble_eq_true rfl)) rfl (E.any.glo 67) (ja_cons (je_var 6) (ja_cons (je_var 2) (ja_cons (je_var 3) (ja_nil))))))) (jw_or (jt_not (jt_own_eq "Script" (k0 := 3) (j_Script_eq E.any (Nat.le_of_ble_eq_true rfl)) (Nat.le_of_ble_eq_true rfl) (E.any.meth 69 "Script") (nfOwn ["Schema", "Script"]) (E.any.nf 6 "Script" ["Schema", "Script"]) (je_var 6) (je_var 1))) (jw_or1 (jt_not (jt_own_eq "Schema" (k0 := 1) (j_Schema_eq E.any (Nat.le_of_ble_eq_true rfl)) (Nat.le_of_ble_eq_true rfl) (E.any.meth 68 "Schema") (nfOwn ["Schema", "Script"]) (E.any.nf 5 "Schema" ["Schema", "Script"]) (je_meth0 "Script" "schema" (j_Script_schema E.any (Nat.le_of_ble_eq_true rfl)) (E.any.cls_ 51 "Script") (E.any.meth 70 "Script") (je_var 6)) (je_var 0))))))) (jss_one (js_ret (je_bl))) (jss_nil)) (jss_one (js_if (jt_ne (je_call (j_script_text E.any (Nat.le_of_ble_eq_true rfl)) rfl (E.any.glo 60) (ja_cons (je_var 6) (ja_nil))) (je_var 4)) (jss_one (js_ret (je_bl))) (jss_nil))))) (jss_one (js_ret (je_call (j__law_holds E.any (Nat.le_of_ble_eq_true rfl)) rfl (E.any.glo 67) (ja_cons (je_var 1) (ja_cons (je_var 2) (ja_cons (je_var 3) (ja_nil))))))))))
theorem j__law_right (E : EnvE fa fn xs g) (hk : 10 + 1 ≤ g.k) : FnJ g (He.fAd g.K ("_law_right", none)) [] F__law_right := fn_at (d := d__law_right) E 32 rfl rfl rfl sc__law_right (w__law_right E) (fun _ _ _ _ _ _ us hl => match us, hl with | [_, _, _, _], _ => rfl) hk
/-! ### law -/
abbrev N_law : List Str := ["script", "tables", "frame", "store", "cases", "k", "row", "cell", "way", "made", "flag"]
theorem sc_law : FnScope N_law ["script"] (defScope s_law) := ⟨rfl, rfl, rfl, by decide +kernel, rfl, by decide +kernel, by decide +kernel⟩
theorem w_law (E : EnvE fa fn xs g) : JSs (g.at_ 11 N_law (defScope s_law)) (defBody s_law) t_law := jss_cons (js_set 1 (je_call (j__law_tables E.any (Nat.le_of_ble_eq_true rfl)) rfl (E.any.glo 10) (ja_consB (je_call (j__law_store E.any (Nat.le_of_ble_eq_true rfl)) rfl (E.any.glo 9) (ja_cons (je_call (j__law_cell_at E.any (Nat.le_of_ble_eq_true rfl)) rfl (E.any.glo 8) (ja_cons (je_var 0) (ja_cons (je_int) (ja_nil)))) (ja_nil))) (ja_nil)))) (jss_cons (js_set 2 (je_make (k0 := 5) "Schema" (j_Schema_init E.any (Nat.le_of_ble_eq_true rfl)) (Nat.le_of_ble_eq_true rfl) (E.any.mkr 29 "Schema") rfl (E.any.gcl 30 "Schema") (ja_cons (je_var 1) (ja_nil)))) (jss_cons (js_setB 3 (je_call (j__law_store E.any (Nat.le_of_ble_eq_true rfl)) rfl (E.any.glo 9) (ja_cons (je_call (j__law_cell_at E.any (Nat.le_of_ble_eq_true rfl)) rfl (E.any.glo 8) (ja_cons (je_var 0) (ja_cons (je_int) (ja_nil)))) (ja_nil)))) (jss_cons (js_setB 4 (je_lst (ja_nil))) (jss_cons (js_for (ji_range1 rfl (E.any.free 2) (ja_cons (je_int) (ja_nil))) (jg_name 5) (jss_cons (js_set 6 (je_tuple rfl (E.any.free 6) (ja_cons (je_lc (own := [("cell", 7)]) (ji_any (je_sl (je_var 0) (jo_some (je_add (je_int) (je_mul (je_int) (je_var 5)))) (jo_some (je_add (je_int) (je_mul (je_int) (je_var 5)))))) (jg_name 7) (jts_nil) (je_call (j__law_step E.any (Nat.le_of_ble_eq_true rfl)) rfl (E.any.glo 31) (ja_consB (je_call (j__law_store E.any (Nat.le_of_ble_eq_true rfl)) rfl (E.any.glo 9) (ja_cons (je_var 7) (ja_nil))) (ja_cons (je_var 1) (ja_nil)))) (show BlkOk N_law (defScope s_law) _ [("cell", 7)] from ⟨by rfl, by decide +kernel, by decide +kernel, by decide +kernel, by decide +kernel⟩)) (ja_nil)))) (jss_cons (js_set 8 (je_call (j__law_draw E.any (Nat.le_of_ble_eq_true rfl)) rfl (E.any.glo 1) (ja_cons (je_var 3) (ja_cons (je_int) (ja_nil))))) (jss_one (js_if (jt_eq (je_var 8) (je_int)) (jss_one (js_expr (je_append (je_var 4) (je_tup (ja_cons (je_mgp (k0 := 8) "Script" (jg_Script_init_0 E.any (Nat.le_of_ble_eq_true rfl)) (Nat.le_of_ble_eq_true rfl) (E.any.mkr 55 "Script") rfl (E.any.gcl 56 "Script") (ja_cons (je_var 2) (ja_cons (je_var 6) (ja_nil)))) (ja_cons (je_var 6) (ja_cons (je_bl) (ja_nil)))))))) (jss_one (js_expr (je_append (je_var 4) (je_tup (ja_cons (je_mgp (k0 := 8) "Script" (jg_Script_init_1 E.any (Nat.le_of_ble_eq_true rfl)) (Nat.le_of_ble_eq_true rfl) (E.any.mkr 55 "Script") rfl (E.any.gcl 56 "Script") (ja_cons (je_make (k0 := 5) "Schema" (j_Schema_init E.any (Nat.le_of_ble_eq_true rfl)) (Nat.le_of_ble_eq_true rfl) (E.any.mkr 29 "Schema") rfl (E.any.gcl 30 "Schema") (ja_cons (je_var 1) (ja_nil))) (ja_cons (je_var 6) (ja_cons (je_eq (je_var 8) (je_int)) (ja_nil))))) (ja_cons (je_var 6) (ja_cons (je_eq (je_var 8) (je_int)) (ja_nil))))))))))))) (jss_cons (js_expr (je_append (je_var 4) (je_tup (ja_cons (je_mgp (k0 := 8) "Script" (jg_Script_init_1 E.any (Nat.le_of_ble_eq_true rfl)) (Nat.le_of_ble_eq_true rfl) (E.any.mkr 55 "Script") rfl (E.any.gcl 56 "Script") (ja_cons (je_var 2) (ja_cons (je_ix (je_ix (je_var 4) (je_int)) (je_int)) (ja_cons (je_not (je_ix (je_ix (je_var 4) (je_int)) (je_int))) (ja_nil))))) (ja_cons (je_ix (je_ix (je_var 4) (je_int)) (je_int)) (ja_cons (je_not (je_ix (je_ix (je_var 4) (je_int)) (je_int))) (ja_nil))))))) (jss_cons (js_for (ji_any (je_add (je_var 4) (je_rev (je_var 4)))) (jg_tup (jgs_cons (jg_name 9) (jgs_cons (jg_name 6) (jgs_cons (jg_name 10) (jgs_nil))))) (jss_one (js_if (jt_not (jt_val (je_call (j__law_right E.any (Nat.le_of_ble_eq_true rfl)) rfl (E.any.glo 71) (ja_cons (je_var 2) (ja_cons (je_var 9) (ja_cons (je_var 6) (ja_cons (je_var 10) (ja_nil)))))))) (jss_one (js_ret (je_bl))) (jss_nil)))) (jss_cons (js_for (ji_any (je_var 4)) (jg_tup (jgs_cons (jg_name 9) (jgs_cons (jg_name 6) (jgs_cons (jg_name 10) (jgs_nil))))) (jss_one (js_if (jt_ne (je_eq (je_call (j_script_text E.any (Nat.le_of_ble_eq_true rfl)) rfl (E.any.glo 60) (ja_cons (je_var 9) (ja_nil))) (je_call (j_script_text E.any (Nat.le_of_ble_eq_true rfl)) rfl (E.any.glo 60) (ja_cons (je_ix (je_ix (je_var 4) (je_int)) (je_int)) (ja_nil)))) (je_eq (je_tup (ja_cons (je_var 6) (ja_cons (je_var 10) (ja_nil)))) (je_tup (ja_cons (je_ix (je_ix (je_var 4) (je_int)) (je_int)) (ja_cons (je_ix (je_ix (je_var 4) (je_int)) (je_int)) (ja_nil)))))) (jss_one (js_ret (je_bl))) (jss_nil)))) (jss_one (js_ret (je_bl))))))))))
theorem j_law (E : EnvE fa fn xs g) (hk : 11 + 1 ≤ g.k) : FnJ g (He.fAd g.K ("law", none)) [] F_law := fn_at (d := d_law) E 33 rfl rfl rfl sc_law (w_law E) (fun _ _ _ _ _ _ us hl => match us, hl with | [_], _ => rfl) hk
end Wk

namespace Wk
open PySem PySem.Spec PyProof.Rows L2 Ev Hd
theorem facts {P : Program} {w : World} {K : PySem.W.Frag} {h : Heap} {mg : Str → Option Value} {f : Addr} (X : K.In h) (N : h.Ns mainGlobals mg) (at_ : mg ("law" : Str) = some (.ref f)) (c : He.SaysD fa fn K) (hx : xs.ok K = true) :
    ∃ fd : FuncData, (∀ (s : Shared) (v : Value), BindsTo s fd ⟨[v], []⟩ [("script", v)]) ∧ ∀ base : Heap, K.In base → base.Ns mainGlobals mg → FnOk P w K mg base CXn 12 f fd ["script"] (spF K (fun s => He.ga K (enc s)) 1 F_law) := by
  obtain ⟨fd, F⟩ := c.def_ 33 (d := d_law) rfl
  have same := at_.symm.trans (He.glo_ok X N (c.fact 72 (f := .glo "law") rfl))
  cases same
  have b := FunD.bindsA (ps := ["script"]) F fun _ _ _ _ _ _ us hl => match us, hl with | [_], _ => rfl
  refine ⟨fd, fun s v => b s [v] rfl, fun base kb nb => fnok_cx ?_⟩
  exact fn_ok (g := ⟨P, w, K, mg, base, fun s => He.ga K (enc s), 11, N_law, defScope s_law, fun _ => true⟩) F sc_law (w_law ⟨c, ⟨base, kb, nb⟩, rfl, hx⟩)
end Wk
open PySem PySem.W PySem.Calls PyProof.Rows
theorem PySem.Challenge.cw_carrykeys_k52_script_texts_holds : PySem.Challenge.rw_carrykeys_k52_script_texts.Holds := by
  w_on; o_law
  refine HandSHeadRun.head_any (r := OpenLaw.row PySem.Challenge.rw_carrykeys_k52_script_texts) (q := view (OpenLaw.row PySem.Challenge.rw_carrykeys_k52_script_texts).prog [47]) (H := Hd.hk) (ob := Hd.ob) (M := 6000) (loose := Hd.loose) (d := HandSHeadRun.topDef (OpenLaw.row PySem.Challenge.rw_carrykeys_k52_script_texts).prog 47) (kwd := []) Hd.ob_eq
    (by kernel_rfl) (fun s => by kernel_rfl) Hd.run (by kernel_rfl) (by kernel_rfl) (by kernel_rfl) (by rfl) (by first | assumption | decide +kernel) (by decide +kernel) ⟨rfl, rfl, rfl, rfl, rfl, by decide +kernel⟩ ?hw ?hc
  case hw => w_witness2
  case hc =>
    refine L2.walk_ofE (l := PySem.Challenge.rw_carrykeys_k52_script_texts) (n := 63) (k := 12) (x := "script") (CX := Ev.CXn) rfl (by decide) (by kernel_rfl) ⟨rfl, by decide, by decide⟩ ?F Ev.cxn_none
    intro w mg fa h Y N hmg0
    obtain ⟨K, KX, c, hx⟩ := Y
    have hmg : mg ("law" : PySem.Str) = some (.ref fa) := by
      have e : (HandSHeadRun.topDef (OpenLaw.row PySem.Challenge.rw_carrykeys_k52_script_texts).prog 47).name = ("law" : PySem.Str) := by kernel_rfl
      rw [← e]
      exact hmg0
    obtain ⟨fd, hb, hF⟩ := Wk.facts (P := (PySem.Challenge.rw_carrykeys_k52_script_texts).prog) (w := w) KX N hmg c hx
    exact ⟨K, fd, _, KX, hb, fun H a ns hl hO hS => Ev.sp_start hO hS (Wk.pure_law ns hl), hF⟩

