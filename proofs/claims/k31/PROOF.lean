import PyProof.Rows.All
import Wide.All
import OpenK.AllK
import Wide.FinOn
import HandS.ForMost
import HandS.Exc
import HandS.TryOnly
import HandS.ExcInit
import HandS.ExcField
import HandS.Star
import HandS.Wide
import HandS.Lambda
import HandS.Walk
import HandS.Zip
import HandS.Defaults
import HandS.ClsMeth
import HandS.ExcOwn
import HandS.ExcIs
import HandS.ExcValue
import HandS.IsInst
import KE.KExcIs
import PyProof.Rows.EqDataRows
import PyProof.ReprRoads
import PyProof.P3In
import HandS.RaiseMore
import HandS.Style
import HandS.FStr
import HandS.Text
import PyProof.EnumMake
import HandS.Zip0
import KE.KOpsOwn
import KE.KCallOwn
import PyProof.StrBlock2
import HandS.EndTab
import HandS.Head0
import HandS.Head1
import HandS.Head2
import HandS.HeadHook1
import HandS.HeadHook2
import HandS.HeadHook3
import HandS.HeadHook4
import HandS.NestedK
import HandS.TupAny
import HandS.Dict
import HandS.Codes
import PySem.Challenge.RW_longchances_k31_conditions_made_and_thei
set_option maxHeartbeats 0
set_option Elab.async false
set_option linter.all false
set_option maxRecDepth 100000
set_option autoImplicit false
namespace MM
open PySem PySem.Spec PyProof.Rows L2

inductive W where
  | non | bl (b : Bool) | int (i : Int) | str (x : Str) | tup (ws : List W) | frz (ws : List W) | ref (n : Nat) | glo (a : Addr) | ty (n : String)
inductive O where
  | lst (ws : List W)
  | dic (kvs : List (Key × W))
  | ins (C : Addr) (fs : List (Str × W))
  | exc (C : Addr) (fs : List (Str × W))
structure S where
  sz : Nat
  get : Nat → Option O
def S.put (s : S) (n : Nat) (o : O) : S := ⟨s.sz, fun m => if m = n then some o else s.get m⟩
def S.add (s : S) (o : O) : S := ⟨s.sz + 1, fun m => if m = s.sz then some o else s.get m⟩
abbrev Env := List (Option W)

section
variable (K : PySem.W.Frag)
def FrzL (H : Hp) (a : Addr) (vs : List V) : Prop :=
  (∃ o, H a = some (.frz o (.lst vs))) ∨ ∃ (o : Obj) (its : Array Value) (n : Nat), K.lookup a = some o ∧ o.cls = .type "list" ∧ o.dict = none ∧ o.data = .seq its n ∧ its.size ≤ sizeLine ∧ Vals vs its.toList
mutual
inductive RW (ad : List Addr) (H : Hp) : W → V → Prop
  | non : RW ad H .non .non
  | bl (b) : RW ad H (.bl b) (.bl b)
  | int (i) : RW ad H (.int i) (.int i)
  | str (x) : RW ad H (.str x) (.str x)
  | ty (n) : RW ad H (.ty n) (.ty n)
  | glo (a) : RW ad H (.glo a) (.ref a)
  | ref {n : Nat} {a : Addr} : ad[n]? = some a → RW ad H (.ref n) (.ref a)
  | tup {ws a vs} : SqT K H a vs → RWs ad H ws vs → RW ad H (.tup ws) (.ref a)
  | frz {ws a vs} : FrzL K H a vs → RWs ad H ws vs → RW ad H (.frz ws) (.ref a)
inductive RWs (ad : List Addr) (H : Hp) : List W → List V → Prop
  | nil : RWs ad H [] []
  | cons {w ws v vs} : RW ad H w v → RWs ad H ws vs → RWs ad H (w :: ws) (v :: vs)
end
structure Ext (ad : List Addr) (H : Hp) (ad' : List Addr) (H' : Hp) : Prop where
  pre : ∀ (n : Nat) (a : Addr), ad[n]? = some a → ad'[n]? = some a
  tup : ∀ a vs, SqT K H a vs → SqT K H' a vs
  frz : ∀ a vs, FrzL K H a vs → FrzL K H' a vs
  cod : ∀ c q, H c = some (LamX.CodeO c q) → H' c = some (LamX.CodeO c q)
class Link where
  lk : List Addr → Hp → Prop
  tabs : List (Addr × Str)
  cl : ∀ ad H ad' H', Ext K ad H ad' H' → lk ad H → lk ad' H'
end
section
variable {K : PySem.W.Frag} {ad ad' ad2 : List Addr} {H H' H2 : Hp}
theorem Ext.refl : Ext K ad H ad H := ⟨fun _ _ h => h, fun _ _ h => h, fun _ _ h => h, fun _ _ h => h⟩
theorem Ext.trans (a : Ext K ad H ad' H') (b : Ext K ad' H' ad2 H2) : Ext K ad H ad2 H2 :=
  ⟨fun n x h => b.pre n x (a.pre n x h), fun x vs h => b.tup x vs (a.tup x vs h), fun x vs h => b.frz x vs (a.frz x vs h), fun c q h => b.cod c q (a.cod c q h)⟩
mutual
theorem RW.mono {w : W} {v : V} (h : RW K ad H w v) (e : Ext K ad H ad' H') : RW K ad' H' w v := by
  cases h with
  | non => exact .non
  | bl b => exact .bl b
  | int i => exact .int i
  | str x => exact .str x
  | ty n => exact .ty n
  | glo a => exact .glo a
  | ref h => exact .ref (e.pre _ _ h)
  | tup h r => exact .tup (e.tup _ _ h) (RWs.mono r e)
  | frz h r => exact .frz (e.frz _ _ h) (RWs.mono r e)
theorem RWs.mono {ws : List W} {vs : List V} (h : RWs K ad H ws vs) (e : Ext K ad H ad' H') : RWs K ad' H' ws vs := by
  cases h with
  | nil => exact .nil
  | cons h r => exact .cons (RW.mono h e) (RWs.mono r e)
end
theorem RWs.length : ∀ {ws : List W} {vs : List V}, RWs K ad H ws vs → ws.length = vs.length
  | _, _, .nil => rfl
  | _, _, .cons _ r => by rw [List.length_cons, List.length_cons, RWs.length r]
theorem RWs.append : ∀ {ws ws' : List W} {vs vs' : List V}, RWs K ad H ws vs → RWs K ad H ws' vs' → RWs K ad H (ws ++ ws') (vs ++ vs')
  | _, _, _, _, .nil, s => s
  | _, _, _, _, .cons r t, s => .cons r (RWs.append t s)
theorem RWs.get : ∀ {ws : List W} {vs : List V} {i : Nat} {w : W}, RWs K ad H ws vs → ws[i]? = some w → ∃ v, vs[i]? = some v ∧ RW K ad H w v
  | _, _, _, _, .nil, e => by simp at e
  | _, _, 0, _, .cons r _, e => by simp at e; subst e; exact ⟨_, rfl, r⟩
  | _, _, i + 1, w, .cons _ t, e => by
    obtain ⟨v, h1, h2⟩ := RWs.get (i := i) (w := w) t (by simpa using e)
    exact ⟨v, by simpa using h1, h2⟩
theorem RWs.getV : ∀ {ws : List W} {vs : List V} {i : Nat} {v : V}, RWs K ad H ws vs → vs[i]? = some v → ∃ w, ws[i]? = some w ∧ RW K ad H w v
  | _, _, _, _, .nil, e => by simp at e
  | _, _, 0, _, .cons r _, e => by simp at e; subst e; exact ⟨_, rfl, r⟩
  | _, _, i + 1, w, .cons _ t, e => by
    obtain ⟨v, h1, h2⟩ := RWs.getV (i := i) (v := w) t (by simpa using e)
    exact ⟨v, by simpa using h1, h2⟩
theorem RWs.set {w : W} {v : V} (r : RW K ad H w v) : ∀ {ws : List W} {vs : List V} (i : Nat), RWs K ad H ws vs → RWs K ad H (ws.set i w) (vs.set i v)
  | _, _, _, .nil => .nil
  | _, _, 0, .cons _ t => .cons r t
  | _, _, i + 1, .cons q t => .cons q (RWs.set r i t)
theorem RWs.take : ∀ {ws : List W} {vs : List V} (n : Nat), RWs K ad H ws vs → RWs K ad H (ws.take n) (vs.take n)
  | _, _, 0, _ => .nil
  | _, _, _ + 1, .nil => .nil
  | _, _, n + 1, .cons r t => .cons r (RWs.take n t)
theorem RWs.drop : ∀ {ws : List W} {vs : List V} (n : Nat), RWs K ad H ws vs → RWs K ad H (ws.drop n) (vs.drop n)
  | _, _, 0, r => r
  | _, _, _ + 1, .nil => .nil
  | _, _, n + 1, .cons _ t => RWs.drop n t
theorem RWs.reverse : ∀ {ws : List W} {vs : List V}, RWs K ad H ws vs → RWs K ad H ws.reverse vs.reverse
  | _, _, .nil => .nil
  | _, _, .cons r t => by rw [List.reverse_cons, List.reverse_cons]; exact (RWs.reverse t).append (.cons r .nil)

inductive RFs (K : PySem.W.Frag) (ad : List Addr) (H : Hp) {κ : Type} : List (κ × W) → List (κ × V) → Prop
  | nil : RFs K ad H [] []
  | cons {f w fs v fvs} : RW K ad H w v → RFs K ad H fs fvs → RFs K ad H ((f, w) :: fs) ((f, v) :: fvs)
theorem RFs.mono {κ : Type} {fs : List (κ × W)} {fvs : List (κ × V)} (h : RFs K ad H fs fvs) (e : Ext K ad H ad' H') : RFs K ad' H' fs fvs := by
  induction h with
  | nil => exact .nil
  | cons r _ ih => exact .cons (r.mono e) ih

def ExV (cls : Value) (d : Option Addr) (a : Addr) : HO := .ext fun h => ∃ (oe : Obj) (vs : Array Value), h.get? a = some oe ∧ Zc cls d oe ∧ oe.data = .fields vs
def RO (K : PySem.W.Frag) (ad : List Addr) (H : Hp) : O → Addr → Prop
  | .lst ws, a => ∃ vs, H a = some (.lst vs) ∧ RWs K ad H ws vs
  | .dic kvs, a => ∃ kvs', H a = some (.dK kvs') ∧ RFs K ad H kvs kvs'
  | .ins C fs, a => ∃ dx fvs, H a = some (.ins C dx fvs) ∧ RFs K ad H fs fvs
  | .exc C fs, a => (fs = [] ∧ H a = some (ExV (.ref C) none a)) ∨ ∃ d fvs, H a = some (ExV (.ref C) (some d) a) ∧ H d = some (.xd fvs) ∧ RFs K ad H fs fvs
theorem RO.there {o : O} {a : Addr} (r : RO K ad H o a) : ∃ u, H a = some u := by
  cases o with
  | lst ws => obtain ⟨vs, h, _⟩ := r; exact ⟨_, h⟩
  | dic kvs => obtain ⟨vs, h, _⟩ := r; exact ⟨_, h⟩
  | ins C fs => obtain ⟨dx, fvs, h, _⟩ := r; exact ⟨_, h⟩
  | exc C fs => rcases r with ⟨_, h⟩ | ⟨d, fvs, h, _⟩ <;> exact ⟨_, h⟩
theorem RO.mono {o : O} {a : Addr} (r : RO K ad H o a) (e : Ext K ad H ad' H') (h1 : ∀ u, H a = some u → H' a = some u) (h2 : ∀ d fvs, H d = some (.xd fvs) → H' d = some (.xd fvs)) : RO K ad' H' o a := by
  cases o with
  | lst ws => obtain ⟨vs, h, q⟩ := r; exact ⟨vs, h1 _ h, q.mono e⟩
  | dic kvs => obtain ⟨vs, h, q⟩ := r; exact ⟨vs, h1 _ h, q.mono e⟩
  | ins C fs => obtain ⟨dx, fvs, h, q⟩ := r; exact ⟨dx, fvs, h1 _ h, q.mono e⟩
  | exc C fs =>
    rcases r with ⟨z, h⟩ | ⟨d, fvs, h, hd, q⟩
    · exact .inl ⟨z, h1 _ h⟩
    · exact .inr ⟨d, fvs, h1 _ h, h2 _ _ hd, q.mono e⟩

structure Sim0 (K : PySem.W.Frag) [Link K] (ad : List Addr) (s : S) (H : Hp) : Prop where
  len : ad.length = s.sz
  all : ∀ n, n < s.sz → ∃ o, s.get n = some o
  lt : ∀ n o, s.get n = some o → n < s.sz
  nd : ad.Nodup
  obj : ∀ (n : Nat) (o : O) (a : Addr), s.get n = some o → ad[n]? = some a → RO K ad H o a
  lk : Link.lk K ad H
  tab : LamX.Tabs (Link.tabs K) H
structure REnv (K : PySem.W.Frag) (ad : List Addr) (H : Hp) (env : Env) (σ : L2.St) : Prop where
  len : env.length = σ.length
  val : ∀ (i : Nat) (w : W), env[i]? = some (some w) → ∃ v, σ[i]? = some (some v) ∧ RW K ad H w v
theorem REnv.mono {env : Env} {σ : L2.St} (r : REnv K ad H env σ) (e : Ext K ad H ad' H') : REnv K ad' H' env σ :=
  ⟨r.len, fun i w h => let ⟨v, h1, h2⟩ := r.val i w h; ⟨v, h1, h2.mono e⟩⟩
theorem REnv.set {env : Env} {σ : L2.St} {i : Nat} {w : W} {v : V} (r : REnv K ad H env σ) (q : RW K ad H w v) : REnv K ad H (env.set i (some w)) (σ.set i (some v)) := by
  refine ⟨by rw [List.length_set, List.length_set, r.len], fun j x h => ?_⟩
  by_cases e : i = j
  · subst e
    rw [List.getElem?_set] at h
    by_cases hl : i < env.length
    · rw [if_pos rfl, if_pos hl] at h
      cases h
      exact ⟨v, by rw [List.getElem?_set_self (by rw [← r.len]; exact hl)], q⟩
    · rw [if_pos rfl, if_neg hl] at h
      cases h
  · rw [List.getElem?_set_ne e] at h
    obtain ⟨u, h1, h2⟩ := r.val j x h
    exact ⟨u, by rw [List.getElem?_set_ne e]; exact h1, h2⟩
theorem REnv.unset {env : Env} {σ : L2.St} {i : Nat} (r : REnv K ad H env σ) : REnv K ad H (env.set i none) (σ.set i none) := by
  refine ⟨by rw [List.length_set, List.length_set, r.len], fun j x h => ?_⟩
  by_cases e : i = j
  · subst e
    rw [List.getElem?_set] at h
    by_cases hl : i < env.length
    · rw [if_pos rfl, if_pos hl] at h
      cases h
    · rw [if_pos rfl, if_neg hl] at h
      cases h
  · rw [List.getElem?_set_ne e] at h
    obtain ⟨u, h1, h2⟩ := r.val j x h
    exact ⟨u, by rw [List.getElem?_set_ne e]; exact h1, h2⟩
section
variable [Link K]
theorem Sim0.addr {s : S} {n : Nat} {o : O} (x : Sim0 K ad s H) (h : s.get n = some o) : ∃ a, ad[n]? = some a ∧ RO K ad H o a := by
  have hl := x.lt n o h
  have : n < ad.length := by rw [x.len]; exact hl
  exact ⟨ad[n], List.getElem?_eq_getElem this, x.obj n o _ h (List.getElem?_eq_getElem this)⟩

theorem Sim0.new {s : S} {o : O} {a : Addr} (x : Sim0 K ad s H) (ha : H a = none) (k : ∀ b u, H b = some u → H' b = some u) (r : RO K (ad ++ [a]) H' o a) (e : Ext K ad H (ad ++ [a]) H') : Sim0 K (ad ++ [a]) (s.add o) H' := by
  refine ⟨by rw [List.length_append, x.len]; rfl, fun n h => ?_, fun n u h => ?_, ?_, fun n u b h1 h2 => ?_, Link.cl _ _ _ _ e x.lk, x.tab.ext fun b u h => k b u h⟩
  · by_cases q : n = s.sz
    · exact ⟨o, if_pos q⟩
    · obtain ⟨u, hu⟩ := x.all n (by have : n < s.sz + 1 := h; omega)
      exact ⟨u, (if_neg q).trans hu⟩
  · have h : (if n = s.sz then some o else s.get n) = some u := h
    by_cases q : n = s.sz
    · show n < s.sz + 1
      omega
    · rw [if_neg q] at h
      have := x.lt n u h
      show n < s.sz + 1
      omega
  · refine List.nodup_append.mpr ⟨x.nd, by simp, fun b hb c hc => ?_⟩
    obtain rfl : c = a := by simpa using hc
    rintro rfl
    obtain ⟨n, hn, e⟩ := List.mem_iff_getElem.mp hb
    obtain ⟨u, hu⟩ := x.all n (by rw [← x.len]; exact hn)
    obtain ⟨z, hz⟩ := (x.obj n u b hu (by rw [List.getElem?_eq_getElem hn, e])).there
    rw [ha] at hz
    cases hz
  · have h1 : (if n = s.sz then some o else s.get n) = some u := h1
    by_cases q : n = s.sz
    · rw [if_pos q] at h1
      cases h1
      rw [List.getElem?_append_right (by rw [x.len]; omega), x.len, q, Nat.sub_self] at h2
      cases h2
      exact r
    · rw [if_neg q] at h1
      have hl := x.lt n u h1
      rw [List.getElem?_append_left (by rw [x.len]; exact hl)] at h2
      exact (x.obj n u b h1 h2).mono e (fun _ h => k _ _ h) fun _ _ h => k _ _ h
end
theorem ext_new {a : Addr} (k : ∀ b u, H b = some u → H' b = some u) : Ext K ad H (ad ++ [a]) H' := by
  refine ⟨fun n b h => ?_, fun b vs h => ?_, fun b vs h => ?_, fun b q h => k _ _ h⟩
  · have hl := (List.getElem?_eq_some_iff.mp h).1
    rw [List.getElem?_append_left hl]
    exact h
  · rcases h with (h | ⟨o, h⟩) | h
    · exact .inl (.inl (k _ _ h))
    · exact .inl (.inr ⟨o, k _ _ h⟩)
    · exact .inr h
  · rcases h with ⟨o, h⟩ | h
    · exact .inl ⟨o, k _ _ h⟩
    · exact .inr h
theorem ext_keep (k : ∀ b u, H b = some u → H' b = some u) : Ext K ad H ad H' := by
  refine ⟨fun n b h => h, fun b vs h => ?_, fun b vs h => ?_, fun b q h => k _ _ h⟩
  · rcases h with (h | ⟨o, h⟩) | h
    · exact .inl (.inl (k _ _ h))
    · exact .inl (.inr ⟨o, k _ _ h⟩)
    · exact .inr h
  · rcases h with ⟨o, h⟩ | h
    · exact .inl ⟨o, k _ _ h⟩
    · exact .inr h
theorem Sim0.keep [Link K] {s : S} (x : Sim0 K ad s H) (k : ∀ b u, H b = some u → H' b = some u) : Sim0 K ad s H' :=
  ⟨x.len, x.all, x.lt, x.nd, fun n o a h1 h2 => (x.obj n o a h1 h2).mono (ext_keep k) (fun _ h => k _ _ h) fun _ _ h => k _ _ h, Link.cl _ _ _ _ (ext_keep k) x.lk, x.tab.ext k⟩
def Wr (u : HO) : Prop := (∃ vs, u = .lst vs) ∨ (∃ kvs, u = .dK kvs) ∨ ∃ C dx fs, u = .ins C dx fs
theorem ext_put {a : Addr} {u : HO} (ha : H a = some u) (wr : Wr u) (k : ∀ b z, b ≠ a → H b = some z → H' b = some z) : Ext K ad H ad H' := by
  have ne : ∀ {b : Addr} {z : HO}, H b = some z → (∀ vs, z ≠ .lst vs) → (∀ kvs, z ≠ .dK kvs) → (∀ C dx fs, z ≠ .ins C dx fs) → b ≠ a := fun {b z} h h1 h2 h3 e => by
    rw [e, ha] at h
    cases h
    rcases wr with ⟨vs, e⟩ | ⟨kvs, e⟩ | ⟨C, dx, fs, e⟩
    · exact h1 _ e
    · exact h2 _ e
    · exact h3 _ _ _ e
  refine ⟨fun n b h => h, fun b vs h => ?_, fun b vs h => ?_, fun c q h => k _ _ (ne h (by intro _ z; unfold LamX.CodeO at z; cases z) (by intro _ z; unfold LamX.CodeO at z; cases z) (by intro _ _ _ z; unfold LamX.CodeO at z; cases z)) h⟩
  · rcases h with (h | ⟨o, h⟩) | h
    · exact .inl (.inl (k _ _ (ne h (by intro _ q; cases q) (by intro _ q; cases q) (by intro _ _ _ q; cases q)) h))
    · exact .inl (.inr ⟨o, k _ _ (ne h (by intro _ q; cases q) (by intro _ q; cases q) (by intro _ _ _ q; cases q)) h⟩)
    · exact .inr h
  · rcases h with ⟨o, h⟩ | h
    · exact .inl ⟨o, k _ _ (ne h (by intro _ q; cases q) (by intro _ q; cases q) (by intro _ _ _ q; cases q)) h⟩
    · exact .inr h
theorem tabs_put {T : List (Addr × Str)} {a : Addr} {u : HO} (ha : H a = some u) (wr : Wr u) (k : ∀ b z, b ≠ a → H b = some z → H' b = some z) (t : LamX.Tabs T H) : LamX.Tabs T H' := fun p hp => by
  obtain ⟨ps, h1, h2, h3⟩ := t p hp
  have ne : ∀ {b : Addr} {z : HO}, H b = some z → (∀ vs, z ≠ .lst vs) → (∀ kvs, z ≠ .dK kvs) → (∀ C dx fs, z ≠ .ins C dx fs) → b ≠ a := fun {b z} h e1 e2 e3 e => by
    rw [e, ha] at h
    cases h
    rcases wr with ⟨vs, e⟩ | ⟨kvs, e⟩ | ⟨C, dx, fs, e⟩
    · exact e1 _ e
    · exact e2 _ e
    · exact e3 _ _ _ e
  refine ⟨ps, k _ _ (ne h1 (by intro _ z; cases z) (by intro _ z; cases z) (by intro _ _ _ z; cases z)) h1, h2, fun pos cv hc => ?_⟩
  obtain ⟨c, e1, e2⟩ := h3 pos cv hc
  exact ⟨c, e1, k _ _ (ne e2 (by intro _ z; unfold LamX.CodeO at z; cases z) (by intro _ z; unfold LamX.CodeO at z; cases z) (by intro _ _ _ z; unfold LamX.CodeO at z; cases z)) e2⟩
theorem Sim0.wr [Link K] {s : S} {n : Nat} {o : O} {a : Addr} {u : HO} (x : Sim0 K ad s H) (hn : ad[n]? = some a) (ha : H a = some u) (wr : Wr u) (k : ∀ b z, b ≠ a → H b = some z → H' b = some z) (r : RO K ad H' o a) : Sim0 K ad (s.put n o) H' := by
  have hl : n < s.sz := by rw [← x.len]; exact (List.getElem?_eq_some_iff.mp hn).1
  refine ⟨x.len, fun m h => ?_, fun m z h => ?_, x.nd, fun m z b h1 h2 => ?_, Link.cl _ _ _ _ (ext_put ha wr k) x.lk, tabs_put ha wr k x.tab⟩
  · by_cases q : m = n
    · exact ⟨o, if_pos q⟩
    · obtain ⟨z, hz⟩ := x.all m h
      exact ⟨z, (if_neg q).trans hz⟩
  · have h : (if m = n then some o else s.get m) = some z := h
    by_cases q : m = n
    · rw [q]; exact hl
    · rw [if_neg q] at h
      exact x.lt m z h
  · have h1 : (if m = n then some o else s.get m) = some z := h1
    by_cases q : m = n
    · rw [if_pos q] at h1
      cases h1
      rw [q, hn] at h2
      cases h2
      exact r
    · rw [if_neg q] at h1
      have ne : b ≠ a := fun e => by
        rw [e] at h2
        have l1 := (List.getElem?_eq_some_iff.mp h2)
        have l2 := (List.getElem?_eq_some_iff.mp hn)
        exact q ((List.getElem_inj x.nd).mp (l1.2.trans l2.2.symm))
      refine (x.obj m z b h1 h2).mono (ext_put ha wr k) (fun _ h => k _ _ ne h) fun d fvs h => k _ _ (fun e => ?_) h
      rw [e, ha] at h
      cases h
      rcases wr with ⟨_, e⟩ | ⟨_, e⟩ | ⟨_, _, _, e⟩ <;> cases e
end

inductive R (α : Type) where
  | ok (a : α) (s : S)
  | exc (C : Addr) (fs : List (Str × W)) (s : S)
  | bad
def R.bind {α β : Type} (r : R α) (k : α → S → R β) : R β := match r with
  | .ok a s => k a s
  | .exc C fs s => .exc C fs s
  | .bad => .bad
@[simp] theorem R.bind_ok {α β : Type} (a : α) (s : S) (k : α → S → R β) : (R.ok a s).bind k = k a s := rfl
@[simp] theorem R.bind_exc {α β : Type} (C : Addr) (fs : List (Str × W)) (s : S) (k : α → S → R β) : (R.exc C fs s).bind k = .exc C fs s := rfl
@[simp] theorem R.bind_bad {α β : Type} (k : α → S → R β) : (R.bad).bind k = .bad := rfl
inductive RS where
  | nx (env : Env) (s : S)
  | rt (w : W) (s : S)
  | bk (env : Env) (s : S)
  | ct (env : Env) (s : S)
  | exc (C : Addr) (fs : List (Str × W)) (env : Env) (s : S)
  | bad
abbrev ME := Env → S → R W
abbrev MB := Env → S → R Bool
abbrev MA := Env → S → R (List W)
abbrev MS := Env → S → RS

section
variable (K : PySem.W.Frag) [Link K]
def XR (ad : List Addr) (H : Hp) (C : Addr) (fs : List (Str × W)) (cls : Value) (d : Option Addr) : Prop :=
  cls = .ref C ∧ ((fs = [] ∧ d = none) ∨ ∃ dd fvs, d = some dd ∧ H dd = some (.xd fvs) ∧ RFs K ad H fs fvs)
structure Sim (ad : List Addr) (env : Env) (σ : L2.St) (s : S) (H : Hp) : Prop where
  st : Sim0 K ad s H
  en : REnv K ad H env σ
def PW (Wx : WX) (ad : List Addr) (env : Env) (σ : L2.St) (H : Hp) (Q : VK) : R W → Prop
  | .ok w s => ∀ ad' H' v, Ext K ad H ad' H' → Sim K ad' env σ s H' → RW K ad' H' w v → Q v H'
  | .exc C fs s => ∀ ad' H' cls d, Ext K ad H ad' H' → Sim K ad' env σ s H' → XR K ad' H' C fs cls d → Wx cls d σ H'
  | .bad => False
def PB (Wx : WX) (ad : List Addr) (env : Env) (σ : L2.St) (H : Hp) (Q : Bool → Hp → Prop) : R Bool → Prop
  | .ok b s => ∀ ad' H', Ext K ad H ad' H' → Sim K ad' env σ s H' → Q b H'
  | .exc C fs s => ∀ ad' H' cls d, Ext K ad H ad' H' → Sim K ad' env σ s H' → XR K ad' H' C fs cls d → Wx cls d σ H'
  | .bad => False
def PL (Wx : WX) (ad : List Addr) (env : Env) (σ : L2.St) (H : Hp) (Q : List V → Hp → Prop) : R (List W) → Prop
  | .ok ws s => ∀ ad' H' vs, Ext K ad H ad' H' → Sim K ad' env σ s H' → RWs K ad' H' ws vs → Q vs H'
  | .exc C fs s => ∀ ad' H' cls d, Ext K ad H ad' H' → Sim K ad' env σ s H' → XR K ad' H' C fs cls d → Wx cls d σ H'
  | .bad => False
def PSt (Wx : WX) (ad : List Addr) (H : Hp) (D : Ends) : RS → Prop
  | .nx env s => ∀ ad' H' σ, Ext K ad H ad' H' → Sim K ad' env σ s H' → D.nx σ H'
  | .bk env s => ∀ ad' H' σ, Ext K ad H ad' H' → Sim K ad' env σ s H' → D.bk σ H'
  | .ct env s => ∀ ad' H' σ, Ext K ad H ad' H' → Sim K ad' env σ s H' → D.ct σ H'
  | .rt w s => ∀ ad' H' v, Ext K ad H ad' H' → Sim0 K ad' s H' → RW K ad' H' w v → D.rt v H'
  | .exc C fs env s => ∀ ad' H' σ cls d, Ext K ad H ad' H' → Sim K ad' env σ s H' → XR K ad' H' C fs cls d → Wx cls d σ H'
  | .bad => False
def tE (Wx : WX) (m : ME) : TE := fun σ H Q => ∃ ad env s, Sim K ad env σ s H ∧ PW K Wx ad env σ H Q (m env s)
def tB (Wx : WX) (m : MB) : TT := fun σ H Q => ∃ ad env s, Sim K ad env σ s H ∧ PB K Wx ad env σ H Q (m env s)
def tL (Wx : WX) (m : MA) : TA := fun σ H Q => ∃ ad env s, Sim K ad env σ s H ∧ PL K Wx ad env σ H Q (m env s)
def tS (Wx : WX) (m : MS) : TS := fun D σ H => ∃ ad env s, Sim K ad env σ s H ∧ PSt K Wx ad H D (m env s)
end
section
variable {K : PySem.W.Frag} [Link K] {Wx : WX} {ad ad' : List Addr} {env : Env} {σ : L2.St} {H H' : Hp} {s : S}
theorem Sim.ext {s' : S} (x : Sim K ad env σ s H) (x' : Sim0 K ad' s' H') (e : Ext K ad H ad' H') : Sim K ad' env σ s' H' := ⟨x', x.en.mono e⟩
theorem PW.ext {Q : VK} {r : R W} (h : PW K Wx ad env σ H Q r) (e : Ext K ad H ad' H') : PW K Wx ad' env σ H' Q r := by
  cases r with
  | ok w s => exact fun ad2 H2 v e2 => h ad2 H2 v (e.trans e2)
  | exc C fs s => exact fun ad2 H2 c d e2 => h ad2 H2 c d (e.trans e2)
  | bad => exact h
theorem PB.ext {Q : Bool → Hp → Prop} {r : R Bool} (h : PB K Wx ad env σ H Q r) (e : Ext K ad H ad' H') : PB K Wx ad' env σ H' Q r := by
  cases r with
  | ok w s => exact fun ad2 H2 e2 => h ad2 H2 (e.trans e2)
  | exc C fs s => exact fun ad2 H2 c d e2 => h ad2 H2 c d (e.trans e2)
  | bad => exact h
theorem PL.ext {Q : List V → Hp → Prop} {r : R (List W)} (h : PL K Wx ad env σ H Q r) (e : Ext K ad H ad' H') : PL K Wx ad' env σ H' Q r := by
  cases r with
  | ok w s => exact fun ad2 H2 v e2 => h ad2 H2 v (e.trans e2)
  | exc C fs s => exact fun ad2 H2 c d e2 => h ad2 H2 c d (e.trans e2)
  | bad => exact h
theorem PSt.ext {D : Ends} {r : RS} (h : PSt K Wx ad H D r) (e : Ext K ad H ad' H') : PSt K Wx ad' H' D r := by
  cases r with
  | nx env s => exact fun ad2 H2 v e2 => h ad2 H2 v (e.trans e2)
  | bk env s => exact fun ad2 H2 v e2 => h ad2 H2 v (e.trans e2)
  | ct env s => exact fun ad2 H2 v e2 => h ad2 H2 v (e.trans e2)
  | rt w s => exact fun ad2 H2 v e2 => h ad2 H2 v (e.trans e2)
  | exc C fs env s => exact fun ad2 H2 v c d e2 => h ad2 H2 v c d (e.trans e2)
  | bad => exact h
end
end MM

namespace MM
open PySem PySem.Spec PyProof.Rows L2

section
variable {X : Cx} [Link X.K] {Wx : WX} {pins : List (Addr × Obj)} {s : Shared} {σ : L2.St} {H : Hp} {ad : List Addr} {env : MM.Env} {st : S}

def ExcOk (K : PySem.W.Frag) [Link K] (Wx : WX) (ad : List Addr) (env : MM.Env) (σ : L2.St) (H : Hp) {β : Type} (P : R β → Prop) : Prop :=
  (∀ C fs st', P (.exc C fs st') → ∀ ad' H' cls d, Ext K ad H ad' H' → Sim K ad' env σ st' H' → XR K ad' H' C fs cls d → Wx cls d σ H') ∧ ¬ P .bad
theorem PW.excOk {Q : VK} : ExcOk X.K Wx ad env σ H (PW X.K Wx ad env σ H Q) := ⟨fun _ _ _ h => h, fun h => h⟩
theorem PB.excOk {Q : Bool → Hp → Prop} : ExcOk X.K Wx ad env σ H (PB X.K Wx ad env σ H Q) := ⟨fun _ _ _ h => h, fun h => h⟩
theorem PL.excOk {Q : List V → Hp → Prop} : ExcOk X.K Wx ad env σ H (PL X.K Wx ad env σ H Q) := ⟨fun _ _ _ h => h, fun h => h⟩

theorem run_bind {β : Type} {P : R β → Prop} {e : Expr} {m : ME} {k : W → S → R β} {G : Value → Shared → Prop} (he : PE X e (tE X.K Wx m)) (hP : ExcOk X.K Wx ad env σ H P) (I : Inv X pins σ H s) (sim : Sim X.K ad env σ st H)
    (h : P ((m env st).bind k))
    (hok : ∀ w st1 v u H1 ad1 s1, m env st = .ok w st1 → Ext X.K ad H ad1 H1 → Sim X.K ad1 env σ st1 H1 → RW X.K ad1 H1 w v → RelV v u → Inv X pins σ H1 s1 → P (k w st1) → G u s1) :
    wpAny (model X.prog X.w) X.A (eval e X.env) G X.xe s := by
  have step : tE X.K Wx m σ H (fun v H1 => ∃ w st1 ad1, m env st = .ok w st1 ∧ Ext X.K ad H ad1 H1 ∧ Sim X.K ad1 env σ st1 H1 ∧ RW X.K ad1 H1 w v ∧ P (k w st1)) := by
    refine ⟨ad, env, st, sim, ?_⟩
    cases q : m env st with
    | ok w st1 =>
      rw [q] at h
      exact fun ad1 H1 v e1 s1 r1 => ⟨w, st1, ad1, rfl, e1, s1, r1, h⟩
    | exc C fs st1 =>
      rw [q] at h
      exact hP.1 C fs st1 h
    | bad =>
      rw [q] at h
      exact hP.2 h
  refine thn (he.run pins s σ H _ I step) fun u s1 ⟨v, H1, I1, r1, w, st1, ad1, e1, x1, m1, rw1, p1⟩ => ?_
  exact hok w st1 v u H1 ad1 s1 e1 x1 m1 rw1 r1 I1 p1
theorem run_bindB {β : Type} {P : R β → Prop} {e : Expr} {m : MB} {k : Bool → S → R β} {G : Bool → Shared → Prop} (he : PT X e (tB X.K Wx m)) (hP : ExcOk X.K Wx ad env σ H P) (I : Inv X pins σ H s) (sim : Sim X.K ad env σ st H)
    (h : P ((m env st).bind k))
    (hok : ∀ b st1 H1 ad1 s1, m env st = .ok b st1 → Ext X.K ad H ad1 H1 → Sim X.K ad1 env σ st1 H1 → Inv X pins σ H1 s1 → P (k b st1) → G b s1) :
    wpAny (model X.prog X.w) X.A (isTrue e X.env (eval e X.env)) G X.xe s := by
  have step : tB X.K Wx m σ H (fun b H1 => ∃ st1 ad1, m env st = .ok b st1 ∧ Ext X.K ad H ad1 H1 ∧ Sim X.K ad1 env σ st1 H1 ∧ P (k b st1)) := by
    refine ⟨ad, env, st, sim, ?_⟩
    cases q : m env st with
    | ok w st1 =>
      rw [q] at h
      exact fun ad1 H1 e1 s1 => ⟨st1, ad1, rfl, e1, s1, h⟩
    | exc C fs st1 =>
      rw [q] at h
      exact hP.1 C fs st1 h
    | bad =>
      rw [q] at h
      exact hP.2 h
  refine thn (he.run pins s σ H _ I step) fun b s1 ⟨H1, I1, st1, ad1, e1, x1, m1, p1⟩ => ?_
  exact hok b st1 H1 ad1 s1 e1 x1 m1 I1 p1
theorem run_bindL {β : Type} {P : R β → Prop} {es : List Expr} {m : MA} {k : List W → S → R β} {G : List Value → Shared → Prop} {pos : Pos} (he : PA X es (tL X.K Wx m)) (hP : ExcOk X.K Wx ad env σ H P) (I : Inv X pins σ H s) (sim : Sim X.K ad env σ st H)
    (h : P ((m env st).bind k))
    (hok : ∀ ws st1 vs us H1 ad1 s1, m env st = .ok ws st1 → Ext X.K ad H ad1 H1 → Sim X.K ad1 env σ st1 H1 → RWs X.K ad1 H1 ws vs → Vals vs us → Inv X pins σ H1 s1 → P (k ws st1) → G us s1) :
    wpAny (model X.prog X.w) X.A (spliced (backTo pos (starEach es X.env))) G X.xe s := by
  have step : tL X.K Wx m σ H (fun vs H1 => ∃ ws st1 ad1, m env st = .ok ws st1 ∧ Ext X.K ad H ad1 H1 ∧ Sim X.K ad1 env σ st1 H1 ∧ RWs X.K ad1 H1 ws vs ∧ P (k ws st1)) := by
    refine ⟨ad, env, st, sim, ?_⟩
    cases q : m env st with
    | ok w st1 =>
      rw [q] at h
      exact fun ad1 H1 v e1 s1 r1 => ⟨w, st1, ad1, rfl, e1, s1, r1, h⟩
    | exc C fs st1 =>
      rw [q] at h
      exact hP.1 C fs st1 h
    | bad =>
      rw [q] at h
      exact hP.2 h
  refine thn (he.run pos pins s σ H _ I step) fun us s1 ⟨vs, H1, I1, r1, ws, st1, ad1, e1, x1, m1, rw1, p1⟩ => ?_
  exact hok ws st1 vs us H1 ad1 s1 e1 x1 m1 rw1 r1 I1 p1
theorem fin_w {w : W} {v : V} {u : Value} {ad' : List Addr} {H' : Hp} {st' : S} {s' : Shared} {Q : VK} (I : Inv X pins σ H' s') (sim : Sim X.K ad' env σ st' H') (e : Ext X.K ad H ad' H') (r : RW X.K ad' H' w v) (rv : RelV v u)
    (p : PW X.K Wx ad env σ H Q (.ok w st')) : EP X pins σ Q u s' := ⟨v, H', I, rv, p ad' H' v e sim r⟩

def mVar (i : Nat) : ME := fun env st => match env[i]? with
  | some (some w) => .ok w st
  | _ => .bad
theorem se_var {i : Nat} {x : Str} {pos : Pos} (hN : X.N[i]? = some x) (hv : Vis X.env.scope x) (hd : (x == ("__debug__" : Str)) = false := by decide) (hcd : (x == ("__classdict__" : Str)) = false := by decide) : PE X (.Name x pos) (tE X.K Wx (mVar i)) := by
  refine ⟨fun pins s σ H Q I h => ?_⟩
  obtain ⟨ad, env, st, sim, h⟩ := h
  unfold mVar at h
  cases q : env[i]? with
  | none => rw [q] at h; exact h.elim
  | some o =>
    cases o with
    | none => rw [q] at h; exact h.elim
    | some w =>
      rw [q] at h
      obtain ⟨v, hσ, r⟩ := sim.en.val i w q
      exact (pe_var hN hv hd hcd).run pins s σ H Q I ⟨v, hσ, h ad H v .refl sim r⟩
def mC (w : W) : ME := fun _ st => .ok w st
theorem se_c {e : Expr} {v : V} {w : W} (he : PE X e (tC v)) (hr : ∀ ad H, RW X.K ad H w v) : PE X e (tE X.K Wx (mC w)) := by
  refine ⟨fun pins s σ H Q I ⟨ad, env, st, sim, h⟩ => ?_⟩
  exact he.run pins s σ H Q I (h ad H v .refl sim (hr ad H))
theorem se_int {i : Int} {j : Nat} {pos : Pos} : PE X (.Constant (.int i) j pos) (tE X.K Wx (mC (.int i))) := se_c pe_int fun _ _ => .int i
theorem se_bl {b : Bool} {j : Nat} {pos : Pos} : PE X (.Constant (.bool b) j pos) (tE X.K Wx (mC (.bl b))) := se_c pe_bl fun _ _ => .bl b
theorem se_non {j : Nat} {pos : Pos} : PE X (.Constant .none j pos) (tE X.K Wx (mC .non)) := se_c pe_non fun _ _ => .non
theorem se_str {x : Str} {j : Nat} {pos : Pos} : PE X (.Constant (.str x) j pos) (tE X.K Wx (mC (.str x))) := se_c pe_str fun _ _ => .str x
theorem se_glob {x : Str} {w : W} {v : V} {u : Value} {pos : Pos} (hg : Gl X x) (hm : X.mg x = some u) (r : RelV v u) (hr : ∀ ad H, RW X.K ad H w v) (hd : (x == ("__debug__" : Str)) = false := by decide) : PE X (.Name x pos) (tE X.K Wx (mC w)) :=
  se_c (pe_glob hg hm r hd) hr
theorem se_bltn {x : Str} {w : W} {v : V} {u : Value} {pos : Pos} (hg : Gl X x) (hm : X.mg x = none) (hv : bootBuiltins x = some u) (r : RelV v u) (hr : ∀ ad H, RW X.K ad H w v) (hn : x ≠ "__name__" := by decide) (hd : (x == ("__debug__" : Str)) = false := by decide) :
    PE X (.Name x pos) (tE X.K Wx (mC w)) := se_c (pe_bltn hg hm hv r hn hd) hr

def Lf1 (X : Cx) [Link X.K] (Wx : WX) (f : Value → Sem Value) (g : W → S → R W) : Prop :=
  ∀ (pins : List (Addr × Obj)) (s : Shared) (σ : L2.St) (H : Hp) (ad : List Addr) (env : MM.Env) (st : S) (w : W) (v : V) (u : Value) (Q : VK), Inv X pins σ H s → Sim X.K ad env σ st H → RW X.K ad H w v → RelV v u →
    PW X.K Wx ad env σ H Q (g w st) → wpAny (model X.prog X.w) X.A (f u) (EP X pins σ Q) X.xe s
def Lf2 (X : Cx) [Link X.K] (Wx : WX) (f : Value → Value → Sem Value) (g : W → W → S → R W) : Prop :=
  ∀ (pins : List (Addr × Obj)) (s : Shared) (σ : L2.St) (H : Hp) (ad : List Addr) (env : MM.Env) (st : S) (w w' : W) (v v' : V) (u u' : Value) (Q : VK), Inv X pins σ H s → Sim X.K ad env σ st H → RW X.K ad H w v → RW X.K ad H w' v' → RelV v u → RelV v' u' →
    PW X.K Wx ad env σ H Q (g w w' st) → wpAny (model X.prog X.w) X.A (f u u') (EP X pins σ Q) X.xe s
def LfT (X : Cx) [Link X.K] (Wx : WX) (g : W → S → R Bool) : Prop :=
  ∀ (pins : List (Addr × Obj)) (s : Shared) (σ : L2.St) (H : Hp) (ad : List Addr) (env : MM.Env) (st : S) (w : W) (v : V) (u : Value) (Q : Bool → Hp → Prop), Inv X pins σ H s → Sim X.K ad env σ st H → RW X.K ad H w v → RelV v u →
    PB X.K Wx ad env σ H Q (g w st) → wpAny (model X.prog X.w) X.A (truthy u) (TP X pins σ Q) X.xe s
def LfN (X : Cx) [Link X.K] (Wx : WX) (f : Value) (g : List W → S → R W) : Prop :=
  ∀ (pins : List (Addr × Obj)) (s : Shared) (σ : L2.St) (H : Hp) (ad : List Addr) (env : MM.Env) (st : S) (ws : List W) (vs : List V) (us : List Value) (Q : VK), Inv X pins σ H s → Sim X.K ad env σ st H → RWs X.K ad H ws vs → Vals vs us →
    PW X.K Wx ad env σ H Q (g ws st) → wpAny (model X.prog X.w) X.A (call f us) (EP X pins σ Q) X.xe s
theorem Lf2.of {f : Value → Value → Sem Value} {r : R2} {g : W → W → S → R W} (ho : OpR X f r)
    (h : ∀ (σ : L2.St) (H : Hp) (ad : List Addr) (env : MM.Env) (st : S) (w w' : W) (v v' : V) (Q : VK), Sim X.K ad env σ st H → RW X.K ad H w v → RW X.K ad H w' v' → PW X.K Wx ad env σ H Q (g w w' st) → r v v' H Q) : Lf2 X Wx f g :=
  fun pins s σ H ad env st w w' v v' u u' Q I sim r1 r2 q1 q2 p => ho pins s σ H v v' u u' Q I q1 q2 (h σ H ad env st w w' v v' Q sim r1 r2 p)
theorem LfN.of {f : Value} {r : List V → Hp → VK → Prop} {g : List W → S → R W} (ho : CallR X f r)
    (h : ∀ (σ : L2.St) (H : Hp) (ad : List Addr) (env : MM.Env) (st : S) (ws : List W) (vs : List V) (Q : VK), Sim X.K ad env σ st H → RWs X.K ad H ws vs → PW X.K Wx ad env σ H Q (g ws st) → r vs H Q) : LfN X Wx f g :=
  fun pins s σ H ad env st ws vs us Q I sim r1 q1 p => ho pins s σ H vs us Q I q1 (h σ H ad env st ws vs Q sim r1 p)

def m1 (g : W → S → R W) (ma : ME) : ME := fun env st => (ma env st).bind g
def m2 (g : W → W → S → R W) (ma mb : ME) : ME := fun env st => (ma env st).bind fun w s1 => (mb env s1).bind fun w' s2 => g w w' s2
def mN (g : List W → S → R W) (ma : MA) : ME := fun env st => (ma env st).bind g
variable {a b c : Expr} {ma mb mc : ME} {pos : Pos}
theorem run2 {f : Value → Value → Sem Value} {g : W → W → S → R W} (L : Lf2 X Wx f g) (ha : PE X a (tE X.K Wx ma)) (hb : PE X b (tE X.K Wx mb)) {Q : VK} (I : Inv X pins σ H s) (sim : Sim X.K ad env σ st H) (h : PW X.K Wx ad env σ H Q (m2 g ma mb env st)) :
    wpAny (model X.prog X.w) X.A (eval a X.env) (fun v s₁ => wpAny (model X.prog X.w) X.A (eval b X.env) (fun u s₂ => wpAny (model X.prog X.w) X.A (f v u) (EP X pins σ Q) X.xe s₂) X.xe s₁) X.xe s := by
  refine run_bind ha PW.excOk I sim h fun w st1 v u H1 ad1 s1 _ x1 sim1 r1 q1 I1 p1 => ?_
  refine run_bind hb PW.excOk I1 sim1 (p1.ext x1) fun w' st2 v' u' H2 ad2 s2 _ x2 sim2 r2 q2 I2 p2 => ?_
  exact L pins s2 σ H2 ad2 env st2 w w' v v' u u' Q I2 sim2 (r1.mono x2) r2 q1 q2 (p2.ext x2)
theorem se_bin {op : Operator} {g : W → W → S → R W} (L : Lf2 X Wx (binaryOp op) g) (ha : PE X a (tE X.K Wx ma)) (hb : PE X b (tE X.K Wx mb)) : PE X (.BinOp a op b pos) (tE X.K Wx (m2 g ma mb)) :=
  ⟨fun pins s σ H Q I ⟨ad, env, st, sim, h⟩ => wpAny_BinOp (run2 L ha hb I sim h)⟩
theorem se_cmp {op : CmpOp} {g : W → W → S → R W} (L : Lf2 X Wx (compareOp op) g) (ha : PE X a (tE X.K Wx ma)) (hb : PE X b (tE X.K Wx mb)) (hm : behindInMarks op b = false) : PE X (.Compare a [op] [b] pos) (tE X.K Wx (m2 g ma mb)) :=
  ⟨fun pins s σ H Q I ⟨ad, env, st, sim, h⟩ => wpAny_Compare1 (run2 L ha hb I sim h) hm⟩
theorem se_un {op : UnaryOp} {g : W → S → R W} (L : Lf1 X Wx (unaryOp op) g) (ha : PE X a (tE X.K Wx ma)) : PE X (.UnaryOp op a pos) (tE X.K Wx (m1 g ma)) := by
  refine ⟨fun pins s σ H Q I ⟨ad, env, st, sim, h⟩ => UnaryOp_ (run_bind ha PW.excOk I sim h fun w st1 v u H1 ad1 s1 _ x1 sim1 r1 q1 I1 p1 => ?_)⟩
  exact L pins s1 σ H1 ad1 env st1 w v u Q I1 sim1 r1 q1 (p1.ext x1)

def truth : W → S → R Bool
  | .non, s => .ok false s
  | .bl b, s => .ok b s
  | .int i, s => .ok (i != 0) s
  | .str x, s => if x.length ≤ sizeLine then .ok (x.length != 0) s else .bad
  | .tup ws, s => .ok (!ws.isEmpty) s
  | .ref n, s => match s.get n with
    | some (.lst ws) => .ok (!ws.isEmpty) s
    | some (.dic kvs) => .ok (!kvs.isEmpty) s
    | _ => .bad
  | _, _ => .bad
theorem isEmpty_rw {ws : List W} {vs : List V} (r : RWs X.K ad H ws vs) : (!vs.isEmpty) = !ws.isEmpty := by
  cases r <;> rfl
theorem isEmpty_rf {κ : Type} {ws : List (κ × W)} {vs : List (κ × V)} (r : RFs X.K ad H ws vs) : (!vs.isEmpty) = !ws.isEmpty := by
  cases r <;> rfl
theorem lf_truth : LfT X Wx truth := by
  intro pins s σ H ad env st w v u Q I sim r q p
  have go : ∀ k, TruV X.K v H k → truth w st = .ok k st → wpAny (model X.prog X.w) X.A (truthy u) (TP X pins σ Q) X.xe s := fun k t e => by
    rw [e] at p
    exact tru_ok pins s σ H v u Q I q ⟨k, t, p ad H .refl sim⟩
  cases r with
  | non => exact go false rfl rfl
  | bl b => exact go b rfl rfl
  | int i => exact go _ rfl rfl
  | str x =>
    by_cases hx : x.length ≤ sizeLine
    · refine go (x.length != 0) ⟨hx, ?_⟩ (by simp only [truth, if_pos hx])
      rw [Bool.eq_iff_iff]
      simp
    · simp only [truth, if_neg hx] at p
      exact p.elim
  | ty n => exact p.elim
  | glo a => exact p.elim
  | frz h r => exact p.elim
  | tup h r => exact go _ (.inr (.inl ⟨_, h, (isEmpty_rw r).symm⟩)) rfl
  | @ref n a h =>
    cases e : st.get n with
    | none => simp only [truth, e] at p; exact p.elim
    | some o =>
      have ro := sim.st.obj n o a e h
      cases o with
      | lst ws =>
        obtain ⟨vs, hv, rr⟩ := ro
        exact go _ (.inl ⟨_, .of hv, (isEmpty_rw rr).symm⟩) (by simp only [truth, e])
      | dic kvs =>
        obtain ⟨vs, hv, rr⟩ := ro
        exact go _ (.inr (.inr ⟨_, hv, (isEmpty_rf rr).symm⟩)) (by simp only [truth, e])
      | ins C fs => simp only [truth, e] at p; exact p.elim
      | exc C fs => simp only [truth, e] at p; exact p.elim
def asB : W → S → R Bool
  | .bl b, s => .ok b s
  | _, _ => .bad
def mT (g : W → S → R Bool) (ma : ME) : MB := fun env st => (ma env st).bind g
theorem PB_bl {w : W} {v : V} {Q : Bool → Hp → Prop} {ad' : List Addr} {H' : Hp} (r : RW X.K ad' H' w v) (p : PB X.K Wx ad env σ H Q (asB w st)) : ∃ k, w = .bl k ∧ v = .bl k := by
  cases r with
  | bl b => exact ⟨b, rfl, rfl⟩
  | _ => exact p.elim
theorem st_val {g : W → S → R Bool} (L : LfT X Wx g) (ha : PE X a (tE X.K Wx ma)) (he : ∀ whole, isTrue a X.env whole = (do let v ← whole; standAt a.pos; holding [v] (truthy v)) := by intro _; rfl) : PT X a (tB X.K Wx (mT g ma)) := by
  refine ⟨fun pins s σ H Q I ⟨ad, env, st, sim, h⟩ => isTrue_plain (run_bind ha PB.excOk I sim h fun w st1 v u H1 ad1 s1 _ x1 sim1 r1 q1 I1 p1 => ?_) (he _)⟩
  exact L pins s1 σ H1 ad1 env st1 w v u Q I1 sim1 r1 q1 (p1.ext x1)
theorem st_cmp {op : CmpOp} {g : W → W → S → R W} (L : Lf2 X Wx (compareOp op) g) (ha : PE X a (tE X.K Wx ma)) (hb : PE X b (tE X.K Wx mb)) (hm : behindInMarks op b = false) : PT X (.Compare a [op] [b] pos) (tB X.K Wx (mT asB (m2 g ma mb))) := by
  refine ⟨fun pins s σ H Q I ⟨ad, env, st, sim, h⟩ => ?_⟩
  refine wpAny_isTrue_Compare1 (Q := TP X pins σ Q) ?_ hm
  have h' : PB X.K Wx ad env σ H Q ((ma env st).bind fun w s1 => (mb env s1).bind fun w' s2 => (g w w' s2).bind asB) := by
    have e : ((ma env st).bind fun w s1 => (mb env s1).bind fun w' s2 => (g w w' s2).bind asB) = mT asB (m2 g ma mb) env st := by
      unfold mT m2
      cases ma env st with
      | ok w s1 =>
        simp only [R.bind_ok]
        cases mb env s1 <;> rfl
      | exc => rfl
      | bad => rfl
    rw [e]
    exact h
  refine run_bind ha PB.excOk I sim h' fun w st1 v u H1 ad1 s1 _ x1 sim1 r1 q1 I1 p1 => ?_
  refine run_bind hb PB.excOk I1 sim1 (p1.ext x1) fun w' st2 v' u' H2 ad2 s2 _ x2 sim2 r2 q2 I2 p2 => ?_
  have p3 := p2.ext x2
  have leaf : PW X.K Wx ad2 env σ H2 (fun x H3 => ∃ k, x = .bl k ∧ Q k H3) (g w w' st2) := by
    cases e : g w w' st2 with
    | ok z st3 =>
      rw [e] at p3
      intro ad3 H3 x x3 sim3 r3
      have p4 : PB X.K Wx ad2 env σ H2 Q (asB z st3) := p3
      obtain ⟨k, rfl, rfl⟩ := PB_bl r3 p4
      exact ⟨k, rfl, p4 ad3 H3 x3 sim3⟩
    | exc C fs st3 => rw [e] at p3; exact p3
    | bad => rw [e] at p3; exact p3
  refine thn (L pins s2 σ H2 ad2 env st2 w w' v v' u u' _ I2 sim2 (r1.mono x2) r2 q1 q2 leaf) fun d s3 ⟨x, H3, I3, r3, k, e, q3⟩ => ?_
  subst e
  cases r3
  exact wpAny_truthy_bool ⟨H3, I3, q3⟩
end
end MM

namespace MM
open PySem PySem.Spec PyProof.Rows L2

theorem _root_.L2.PT.imp {X : Cx} [Link X.K] {e : Expr} {t t' : TT} (h : PT X e t) (i : ∀ σ H Q, t' σ H Q → t σ H Q) : PT X e t' := ⟨fun pins s σ H Q I q => h.run pins s σ H Q I (i σ H Q q)⟩
theorem _root_.L2.PW.imp {X : Cx} [Link X.K] {e : Expr} {t t' : TT} (h : L2.PW X e t) (i : ∀ σ H Q, t' σ H Q → t σ H Q) : L2.PW X e t' := ⟨fun w pins s σ H Q I q => h.run w pins s σ H Q I (i σ H Q q)⟩
theorem _root_.L2.PE.imp {X : Cx} [Link X.K] {e : Expr} {t t' : TE} (h : PE X e t) (i : ∀ σ H Q, t' σ H Q → t σ H Q) : PE X e t' := ⟨fun pins s σ H Q I q => h.run pins s σ H Q I (i σ H Q q)⟩
theorem _root_.L2.PA.imp {X : Cx} [Link X.K] {e : List Expr} {t t' : TA} (h : PA X e t) (i : ∀ σ H Q, t' σ H Q → t σ H Q) : PA X e t' := ⟨fun p pins s σ H Q I q => h.run p pins s σ H Q I (i σ H Q q)⟩
theorem _root_.L2.PS.imp {X : Cx} [Link X.K] {e : Stmt} {t t' : TS} (h : PS X e t) (i : ∀ D σ H, t' D σ H → t D σ H) : PS X e t' := ⟨fun pins s σ H D I q => h.run pins s σ H D I (i D σ H q)⟩
theorem _root_.L2.PSs.imp {X : Cx} [Link X.K] {e : List Stmt} {t t' : TS} (h : PSs X e t) (i : ∀ D σ H, t' D σ H → t D σ H) : PSs X e t' := ⟨fun pins s σ H D I q => h.run pins s σ H D I (i D σ H q)⟩

section
variable {K : PySem.W.Frag} [Link K] {Wx : WX} {σ : L2.St} {H : Hp}
theorem tE_then {m : ME} {ad : List Addr} {env : MM.Env} {st : S} {β : Type} {P : R β → Prop} {k : W → S → R β} {Q : VK} (sim : Sim K ad env σ st H) (hP : ExcOk K Wx ad env σ H P) (h : P ((m env st).bind k))
    (hq : ∀ w st1 v H1 ad1, Ext K ad H ad1 H1 → Sim K ad1 env σ st1 H1 → RW K ad1 H1 w v → P (k w st1) → Q v H1) : tE K Wx m σ H Q := by
  refine ⟨ad, env, st, sim, ?_⟩
  cases q : m env st with
  | ok w st1 =>
    rw [q] at h
    exact fun ad1 H1 v e1 s1 r1 => hq w st1 v H1 ad1 e1 s1 r1 h
  | exc C fs st1 =>
    rw [q] at h
    exact hP.1 C fs st1 h
  | bad =>
    rw [q] at h
    exact hP.2 h
theorem tB_then {m : MB} {ad : List Addr} {env : MM.Env} {st : S} {β : Type} {P : R β → Prop} {k : Bool → S → R β} {Q : Bool → Hp → Prop} (sim : Sim K ad env σ st H) (hP : ExcOk K Wx ad env σ H P) (h : P ((m env st).bind k))
    (hq : ∀ b st1 H1 ad1, Ext K ad H ad1 H1 → Sim K ad1 env σ st1 H1 → P (k b st1) → Q b H1) : tB K Wx m σ H Q := by
  refine ⟨ad, env, st, sim, ?_⟩
  cases q : m env st with
  | ok w st1 =>
    rw [q] at h
    exact fun ad1 H1 e1 s1 => hq w st1 H1 ad1 e1 s1 h
  | exc C fs st1 =>
    rw [q] at h
    exact hP.1 C fs st1 h
  | bad =>
    rw [q] at h
    exact hP.2 h
theorem tL_then {m : MA} {ad : List Addr} {env : MM.Env} {st : S} {β : Type} {P : R β → Prop} {k : List W → S → R β} {Q : List V → Hp → Prop} (sim : Sim K ad env σ st H) (hP : ExcOk K Wx ad env σ H P) (h : P ((m env st).bind k))
    (hq : ∀ ws st1 vs H1 ad1, Ext K ad H ad1 H1 → Sim K ad1 env σ st1 H1 → RWs K ad1 H1 ws vs → P (k ws st1) → Q vs H1) : tL K Wx m σ H Q := by
  refine ⟨ad, env, st, sim, ?_⟩
  cases q : m env st with
  | ok w st1 =>
    rw [q] at h
    exact fun ad1 H1 v e1 s1 r1 => hq w st1 v H1 ad1 e1 s1 r1 h
  | exc C fs st1 =>
    rw [q] at h
    exact hP.1 C fs st1 h
  | bad =>
    rw [q] at h
    exact hP.2 h
theorem PW.ok' {ad : List Addr} {env : MM.Env} {st : S} {Q : VK} : ExcOk K Wx ad env σ H (PW K Wx ad env σ H Q) := ⟨fun _ _ _ h => h, fun h => h⟩
theorem PB.ok' {ad : List Addr} {env : MM.Env} {st : S} {Q : Bool → Hp → Prop} : ExcOk K Wx ad env σ H (PB K Wx ad env σ H Q) := ⟨fun _ _ _ h => h, fun h => h⟩
theorem PL.ok' {ad : List Addr} {env : MM.Env} {st : S} {Q : List V → Hp → Prop} : ExcOk K Wx ad env σ H (PL K Wx ad env σ H Q) := ⟨fun _ _ _ h => h, fun h => h⟩
end

section
variable {X : Cx} [Link X.K] {Wx : WX} {a b c : Expr} {ma mb mc : ME} {ba bb bc : MB} {pos : Pos} {rest : List Expr}
def mNotB (m : MB) : MB := fun env st => (m env st).bind fun b s => .ok (!b) s
def mAndB (m n : MB) : MB := fun env st => (m env st).bind fun b s => if b then n env s else .ok false s
def mOrB (m n : MB) : MB := fun env st => (m env st).bind fun b s => if b then .ok true s else n env s
def mIf (m : MB) (x y : ME) : ME := fun env st => (m env st).bind fun b s => if b then x env s else y env s
theorem st_not (h : PT X a (tB X.K Wx ba)) : PT X (.UnaryOp .Not a pos) (tB X.K Wx (mNotB ba)) := by
  refine (pt_not h).imp fun σ H Q ⟨ad, env, st, sim, q⟩ => ?_
  exact tB_then sim (PB.ok' (st := st)) q fun b st1 H1 ad1 e1 s1 p => p ad1 H1 e1 s1
theorem sw_and1 (h : PT X a (tB X.K Wx ba)) : L2.PW X (.BoolOp .And [a] pos) (tB X.K Wx ba) := pw_and1 h
theorem sw_or1 (h : PT X a (tB X.K Wx ba)) : L2.PW X (.BoolOp .Or [a] pos) (tB X.K Wx ba) := pw_or1 h
theorem sw_and (h : PT X a (tB X.K Wx ba)) (h2 : L2.PW X (.BoolOp .And (b :: rest) pos) (tB X.K Wx bb)) : L2.PW X (.BoolOp .And (a :: b :: rest) pos) (tB X.K Wx (mAndB ba bb)) := by
  refine L2.PW.imp (pw_and h h2) fun σ H Q ⟨ad, env, st, sim, q⟩ => ?_
  refine tB_then sim (PB.ok' (st := st)) q fun b st1 H1 ad1 e1 s1 p => ?_
  cases b with
  | true => exact ⟨ad1, env, st1, s1, PB.ext p e1⟩
  | false => exact p ad1 H1 e1 s1
theorem sw_or (h : PT X a (tB X.K Wx ba)) (h2 : L2.PW X (.BoolOp .Or (b :: rest) pos) (tB X.K Wx bb)) : L2.PW X (.BoolOp .Or (a :: b :: rest) pos) (tB X.K Wx (mOrB ba bb)) := by
  refine L2.PW.imp (pw_or h h2) fun σ H Q ⟨ad, env, st, sim, q⟩ => ?_
  refine tB_then sim (PB.ok' (st := st)) q fun b st1 H1 ad1 e1 s1 p => ?_
  cases b with
  | true => exact p ad1 H1 e1 s1
  | false => exact ⟨ad1, env, st1, s1, PB.ext p e1⟩
theorem st_w (h : L2.PW X a (tB X.K Wx ba)) : PT X a (tB X.K Wx ba) := h.pt
theorem se_if (hc : PT X c (tB X.K Wx bc)) (ha : PE X a (tE X.K Wx ma)) (hb : PE X b (tE X.K Wx mb)) : PE X (.IfExp c a b pos) (tE X.K Wx (mIf bc ma mb)) := by
  refine (pe_ifExp hc ha hb).imp fun σ H Q ⟨ad, env, st, sim, q⟩ => ?_
  refine tB_then sim (PW.ok' (st := st)) q fun b st1 H1 ad1 e1 s1 p => ?_
  cases b with
  | true => exact ⟨ad1, env, st1, s1, PW.ext p e1⟩
  | false => exact ⟨ad1, env, st1, s1, PW.ext p e1⟩
def mAndV (m n : ME) : ME := fun env st => (m env st).bind fun w s => match w with
  | .bl true => n env s
  | .bl false => .ok (.bl false) s
  | _ => .bad
def mOrV (m n : ME) : ME := fun env st => (m env st).bind fun w s => match w with
  | .bl true => .ok (.bl true) s
  | .bl false => n env s
  | _ => .bad
def notV : W → S → R W
  | .bl b, s => .ok (.bl (!b)) s
  | _, _ => .bad
theorem se_one {op : BoolOp} (h : PE X a (tE X.K Wx ma)) : PE X (.BoolOp op [a] pos) (tE X.K Wx ma) := pe_one h
theorem se_and (h : PE X a (tE X.K Wx ma)) (h2 : PE X (.BoolOp .And (b :: rest) pos) (tE X.K Wx mb)) : PE X (.BoolOp .And (a :: b :: rest) pos) (tE X.K Wx (mAndV ma mb)) := by
  refine (pe_and h h2).imp fun σ H Q ⟨ad, env, st, sim, q⟩ => ?_
  refine tE_then sim (PW.ok' (st := st)) q fun w st1 v H1 ad1 e1 s1 r p => ?_
  cases r with
  | bl b =>
    cases b with
    | true => exact ⟨true, rfl, ad1, env, st1, s1, PW.ext p e1⟩
    | false => exact ⟨false, rfl, p ad1 H1 _ e1 s1 (.bl false)⟩
  | _ => exact p.elim
theorem se_or (h : PE X a (tE X.K Wx ma)) (h2 : PE X (.BoolOp .Or (b :: rest) pos) (tE X.K Wx mb)) : PE X (.BoolOp .Or (a :: b :: rest) pos) (tE X.K Wx (mOrV ma mb)) := by
  refine (pe_or h h2).imp fun σ H Q ⟨ad, env, st, sim, q⟩ => ?_
  refine tE_then sim (PW.ok' (st := st)) q fun w st1 v H1 ad1 e1 s1 r p => ?_
  cases r with
  | bl b =>
    cases b with
    | true => exact ⟨true, rfl, p ad1 H1 _ e1 s1 (.bl true)⟩
    | false => exact ⟨false, rfl, ad1, env, st1, s1, PW.ext p e1⟩
  | _ => exact p.elim
theorem se_not (h : PE X a (tE X.K Wx ma)) : PE X (.UnaryOp .Not a pos) (tE X.K Wx (m1 notV ma)) := by
  refine (pe_not h).imp fun σ H Q ⟨ad, env, st, sim, q⟩ => ?_
  refine tE_then sim (PW.ok' (st := st)) q fun w st1 v H1 ad1 e1 s1 r p => ?_
  cases r with
  | bl b => exact ⟨b, rfl, p ad1 H1 _ e1 s1 (.bl _)⟩
  | _ => exact p.elim

def mLNil : MA := fun _ st => .ok [] st
def mLCons (m : ME) (n : MA) : MA := fun env st => (m env st).bind fun w s => (n env s).bind fun ws s' => .ok (w :: ws) s'
theorem sa_nil : PA X [] (tL X.K Wx mLNil) := pa_nil.imp fun σ H Q ⟨ad, env, st, sim, q⟩ => q ad H [] .refl sim .nil
theorem sa_cons {es : List Expr} {n : MA} (h : PE X a (tE X.K Wx ma)) (h2 : PA X es (tL X.K Wx n)) (hs : starEach (a :: es) X.env = (false, eval a X.env) :: starEach es X.env := by rfl) : PA X (a :: es) (tL X.K Wx (mLCons ma n)) := by
  refine (pa_cons h h2 hs).imp fun σ H Q ⟨ad, env, st, sim, q⟩ => ?_
  refine tE_then sim (PL.ok' (st := st)) q fun w st1 v H1 ad1 e1 s1 r p => ?_
  refine tL_then s1 (PL.ok' (st := st)) (PL.ext p e1) fun ws st2 vs H2 ad2 e2 s2 rs p2 => ?_
  exact p2 ad2 H2 _ e2 s2 (.cons (r.mono e2) rs)
def newTup : List W → S → R W := fun ws s => if ws.length ≤ 1000000 then .ok (.tup ws) s else .bad
def newLst : List W → S → R W := fun ws s => if ws.length ≤ 1000000 then .ok (.ref s.sz) (s.add (.lst ws)) else .bad
theorem line_of {n : Nat} (h : n ≤ 1000000) : n ≤ sizeLine := by rw [sizeLine_eq]; omega
theorem up_keep {H : Hp} {p : Addr} {u : HO} (hp : H p = none) : ∀ b z, H b = some z → upd H p u b = some z := fun b z e => by rw [upd_ne (ne_of_none e hp)]; exact e
theorem se_tup {es : List Expr} {n : MA} {x1 : Nat} (h : PA X es (tL X.K Wx n)) : PE X (.Tuple es x1 pos) (tE X.K Wx (mN newTup n)) := by
  refine (pe_tup h).imp fun σ H Q ⟨ad, env, st, sim, q⟩ => ?_
  refine tL_then sim (PW.ok' (st := st)) q fun ws st1 vs H1 ad1 e1 s1 r p => ?_
  unfold newTup at p
  by_cases hl : ws.length ≤ 1000000
  · rw [if_pos hl] at p
    refine ⟨by rw [← r.length]; exact line_of hl, fun a ha => ?_⟩
    have e2 : Ext X.K ad1 H1 ad1 (upd H1 a (.tup vs)) := ext_keep (up_keep ha)
    exact p ad1 _ _ (e1.trans e2) (s1.ext (s1.st.keep (up_keep ha)) e2) (.tup (.of upd_same) (r.mono e2))
  · rw [if_neg hl] at p
    exact p.elim
theorem sim_newLst {K : PySem.W.Frag} [Link K] {ad : List Addr} {env : MM.Env} {σ : L2.St} {st : S} {H : Hp} {a : Addr} {ws : List W} {vs : List V} (sim : Sim K ad env σ st H) (ha : H a = none) (r : RWs K ad H ws vs) :
    Ext K ad H (ad ++ [a]) (upd H a (.lst vs)) ∧ Sim K (ad ++ [a]) env σ (st.add (.lst ws)) (upd H a (.lst vs)) ∧ RW K (ad ++ [a]) (upd H a (.lst vs)) (.ref st.sz) (.ref a) := by
  have e2 : Ext K ad H (ad ++ [a]) (upd H a (.lst vs)) := ext_new (up_keep ha)
  have ro : RO K (ad ++ [a]) (upd H a (.lst vs)) (.lst ws) a := ⟨vs, upd_same, r.mono e2⟩
  refine ⟨e2, sim.ext (sim.st.new ha (up_keep ha) ro e2) e2, .ref ?_⟩
  rw [← sim.st.len, List.getElem?_append_right (Nat.le_refl _), Nat.sub_self]
  rfl
theorem se_lst {es : List Expr} {n : MA} (h : PA X es (tL X.K Wx n)) : PE X (.List es pos) (tE X.K Wx (mN newLst n)) := by
  refine (pe_lst h).imp fun σ H Q ⟨ad, env, st, sim, q⟩ => ?_
  refine tL_then sim (PW.ok' (st := st)) q fun ws st1 vs H1 ad1 e1 s1 r p => ?_
  unfold newLst at p
  by_cases hl : ws.length ≤ 1000000
  · rw [if_pos hl] at p
    refine ⟨by rw [← r.length]; exact line_of hl, fun a ha => ?_⟩
    obtain ⟨e2, s2, r2⟩ := sim_newLst s1 ha r
    exact p _ _ _ (e1.trans e2) s2 r2
  · rw [if_neg hl] at p
    exact p.elim

def mNext : MS := fun env st => .nx env st
def mSeq (m n : MS) : MS := fun env st => match m env st with
  | .nx env' st' => n env' st'
  | r => r
theorem ss_nil : PSs X [] (tS X.K Wx mNext) := pss_nil.imp fun D σ H ⟨ad, env, st, sim, q⟩ => q ad H σ .refl sim
theorem ss_one {s : Stmt} {m : MS} (h : PS X s (tS X.K Wx m)) : PSs X [s] (tS X.K Wx m) := pss_one h
theorem ss_cons {s : Stmt} {r : List Stmt} {m n : MS} (h : PS X s (tS X.K Wx m)) (h2 : PSs X r (tS X.K Wx n)) : PSs X (s :: r) (tS X.K Wx (mSeq m n)) := by
  refine L2.PSs.imp (pss_cons h h2) fun D σ H ⟨ad, env, st, sim, q⟩ => ⟨ad, env, st, sim, ?_⟩
  unfold mSeq at q
  cases e : m env st with
  | nx env' st' =>
    rw [e] at q
    exact fun ad' H' σ' x s' => ⟨ad', env', st', s', PSt.ext q x⟩
  | rt w st' => rw [e] at q; exact q
  | bk env' st' => rw [e] at q; exact q
  | ct env' st' => rw [e] at q; exact q
  | exc C fs env' st' => rw [e] at q; exact q
  | bad => rw [e] at q; exact q
theorem sp_pass : PS X (.Pass pos) (tS X.K Wx mNext) := L2.PS.imp ps_pass fun D σ H ⟨ad, env, st, sim, q⟩ => q ad H σ .refl sim
def mBreak : MS := fun env st => .bk env st
def mCont : MS := fun env st => .ct env st
theorem sp_break : PS X (.Break pos) (tS X.K Wx mBreak) := L2.PS.imp ps_break fun D σ H ⟨ad, env, st, sim, q⟩ => q ad H σ .refl sim
theorem sp_cont : PS X (.Continue pos) (tS X.K Wx mCont) := L2.PS.imp ps_continue fun D σ H ⟨ad, env, st, sim, q⟩ => q ad H σ .refl sim
def R.toS {α : Type} (r : R α) (env : MM.Env) (k : α → S → RS) : RS := match r with
  | .ok w st => k w st
  | .exc C fs st => .exc C fs env st
  | .bad => .bad
def PRs (K : PySem.W.Frag) [Link K] (Wx : WX) (ad : List Addr) (H : Hp) (D : Ends) (env : MM.Env) {α : Type} (k : α → S → RS) (r : R α) : Prop := PSt K Wx ad H D (r.toS env k)
theorem excS {K : PySem.W.Frag} [Link K] {ad : List Addr} {H : Hp} {D : Ends} {env : MM.Env} {σ : L2.St} {α : Type} {k : α → S → RS} : ExcOk K Wx ad env σ H (PRs K Wx ad H D env k) :=
  ⟨fun C fs st' h ad' H' cls d e s x => h ad' H' σ cls d e s x, fun h => h⟩
theorem bind_okR {α : Type} (r : R α) : r.bind (fun a s => .ok a s) = r := by cases r <;> rfl
def mExpr (m : ME) : MS := fun env st => (m env st).toS env fun _ s => .nx env s
def mRet (m : ME) : MS := fun env st => (m env st).toS env fun w s => .rt w s
def mRetN : MS := fun _ st => .rt .non st
def mSet (i : Nat) (m : ME) : MS := fun env st => (m env st).toS env fun w s => .nx (env.set i (some w)) s
def mIfS (m : MB) (x y : MS) : MS := fun env st => (m env st).toS env fun b s => if b then x env s else y env s
theorem tE_thenS {K : PySem.W.Frag} [Link K] {σ : L2.St} {H : Hp} {m : ME} {ad : List Addr} {env : MM.Env} {st : S} {D : Ends} {k : W → S → RS} {Q : VK} (sim : Sim K ad env σ st H) (h : PSt K Wx ad H D ((m env st).toS env k))
    (hq : ∀ w st1 v H1 ad1, Ext K ad H ad1 H1 → Sim K ad1 env σ st1 H1 → RW K ad1 H1 w v → PSt K Wx ad H D (k w st1) → Q v H1) : tE K Wx m σ H Q := by
  refine ⟨ad, env, st, sim, ?_⟩
  cases q : m env st with
  | ok w st1 =>
    rw [q] at h
    exact fun ad1 H1 v e1 s1 r1 => hq w st1 v H1 ad1 e1 s1 r1 h
  | exc C fs st1 =>
    rw [q] at h
    exact fun ad1 H1 cls d e1 s1 x => h ad1 H1 σ cls d e1 s1 x
  | bad =>
    rw [q] at h
    exact h
theorem tB_thenS {K : PySem.W.Frag} [Link K] {σ : L2.St} {H : Hp} {m : MB} {ad : List Addr} {env : MM.Env} {st : S} {D : Ends} {k : Bool → S → RS} {Q : Bool → Hp → Prop} (sim : Sim K ad env σ st H) (h : PSt K Wx ad H D ((m env st).toS env k))
    (hq : ∀ w st1 H1 ad1, Ext K ad H ad1 H1 → Sim K ad1 env σ st1 H1 → PSt K Wx ad H D (k w st1) → Q w H1) : tB K Wx m σ H Q := by
  refine ⟨ad, env, st, sim, ?_⟩
  cases q : m env st with
  | ok w st1 =>
    rw [q] at h
    exact fun ad1 H1 e1 s1 => hq w st1 H1 ad1 e1 s1 h
  | exc C fs st1 =>
    rw [q] at h
    exact fun ad1 H1 cls d e1 s1 x => h ad1 H1 σ cls d e1 s1 x
  | bad =>
    rw [q] at h
    exact h
theorem sp_expr (h : PE X a (tE X.K Wx ma)) (hs : swapsWith a none pos.line X.env = pure false := by rfl) : PS X (.Expr a pos) (tS X.K Wx (mExpr ma)) := by
  refine L2.PS.imp (ps_expr h hs) fun D σ H ⟨ad, env, st, sim, q⟩ => ?_
  exact tE_thenS sim q fun w st1 v H1 ad1 e1 s1 r p => p ad1 H1 σ e1 s1
theorem sp_ret (h : PE X a (tE X.K Wx ma)) : PS X (.Return (some a) pos) (tS X.K Wx (mRet ma)) := by
  refine L2.PS.imp (ps_ret h) fun D σ H ⟨ad, env, st, sim, q⟩ => ?_
  exact tE_thenS sim q fun w st1 v H1 ad1 e1 s1 r p => p ad1 H1 v e1 s1.st r
theorem sp_retN : PS X (.Return none pos) (tS X.K Wx mRetN) := L2.PS.imp ps_retN fun D σ H ⟨ad, env, st, sim, q⟩ => q ad H .non .refl sim.st .non
theorem sp_if {A B : List Stmt} {x y : MS} (hc : PT X c (tB X.K Wx bc)) (ha : PSs X A (tS X.K Wx x)) (hb : PSs X B (tS X.K Wx y)) : PS X (.If c A B pos) (tS X.K Wx (mIfS bc x y)) := by
  refine L2.PS.imp (ps_if hc ha hb) fun D σ H ⟨ad, env, st, sim, q⟩ => ?_
  refine tB_thenS sim q fun b st1 H1 ad1 e1 s1 p => ?_
  cases b with
  | true => exact ⟨ad1, env, st1, s1, PSt.ext p e1⟩
  | false => exact ⟨ad1, env, st1, s1, PSt.ext p e1⟩

abbrev MG := W → MM.Env → S → Option (MM.Env × S)
def tG (K : PySem.W.Frag) [Link K] (g : MG) : TG := fun v σ H Q => ∃ ad env st w, Sim K ad env σ st H ∧ RW K ad H w v ∧ match g w env st with
  | some (env', st') => ∀ ad' H' σ', Ext K ad H ad' H' → Sim K ad' env' σ' st' H' → Q σ' H'
  | none => False
def tGs (K : PySem.W.Frag) [Link K] (g : List W → MM.Env → S → Option (MM.Env × S)) : TGs := fun vs σ H Q => ∃ ad env st ws, Sim K ad env σ st H ∧ RWs K ad H ws vs ∧ match g ws env st with
  | some (env', st') => ∀ ad' H' σ', Ext K ad H ad' H' → Sim K ad' env' σ' st' H' → Q σ' H'
  | none => False
theorem _root_.L2.PG.imp {X : Cx} [Link X.K] {e : Expr} {t t' : TG} (h : PG X e t) (i : ∀ v σ H Q, t' v σ H Q → t v σ H Q) : PG X e t' := ⟨fun pins s σ H v u Q I r q => h.run pins s σ H v u Q I r (i v σ H Q q)⟩
theorem _root_.L2.PGs.imp {X : Cx} [Link X.K] {e : List Expr} {t t' : TGs} (h : PGs X e t) (i : ∀ v σ H Q, t' v σ H Q → t v σ H Q) : PGs X e t' := ⟨fun pins s σ H v u Q I r q => h.run pins s σ H v u Q I r (i v σ H Q q)⟩
def gN (i : Nat) : MG := fun w env st => some (env.set i (some w), st)
theorem sg_name {i : Nat} {x : Str} (hN : X.N.Nodup) (hi : X.N[i]? = some x) (hx : Loc X.env.scope x) (hf : X.fn x = true ∨ X.env.scope.names.lookup x = some .local) : PG X (.Name x pos) (tG X.K (gN i)) := by
  refine L2.PG.imp (pg_name hN hi hx hf) fun v σ H Q ⟨ad, env, st, w, sim, r, q⟩ => ?_
  exact q ad H _ .refl ⟨sim.st, sim.en.set r⟩
def gsNil : List W → MM.Env → S → Option (MM.Env × S)
  | [], env, st => some (env, st)
  | _ :: _, _, _ => none
def gsCons (g : MG) (h : List W → MM.Env → S → Option (MM.Env × S)) : List W → MM.Env → S → Option (MM.Env × S)
  | [], _, _ => none
  | w :: r, env, st => match g w env st with
    | some (env', st') => h r env' st'
    | none => none
theorem sgs_nil : PGs X [] (tGs X.K gsNil) := by
  refine L2.PGs.imp pgs_nil fun vs σ H Q ⟨ad, env, st, ws, sim, r, q⟩ => ?_
  cases r with
  | nil => exact ⟨rfl, q ad H σ .refl sim⟩
  | cons _ _ => exact q.elim
theorem sgs_cons {es : List Expr} {g : MG} {h : List W → MM.Env → S → Option (MM.Env × S)} (h1 : PG X a (tG X.K g)) (h2 : PGs X es (tGs X.K h))
    (hs : (assignEach (a :: es) X.env).map (·.2) = assign a X.env :: (assignEach es X.env).map (·.2) := by rfl) : PGs X (a :: es) (tGs X.K (gsCons g h)) := by
  refine L2.PGs.imp (pgs_cons h1 h2 hs) fun vs σ H Q ⟨ad, env, st, ws, sim, r, q⟩ => ?_
  cases r with
  | nil => exact q.elim
  | @cons w ws v vs r rs =>
    refine ⟨v, vs, rfl, ad, env, st, w, sim, r, ?_⟩
    have q : match (match g w env st with | some (env', st') => h ws env' st' | none => none) with
      | some (env', st') => ∀ ad' H' σ', Ext X.K ad H ad' H' → Sim X.K ad' env' σ' st' H' → Q σ' H'
      | none => False := q
    cases e : g w env st with
    | none => rw [e] at q; exact q.elim
    | some p =>
      obtain ⟨env1, st1⟩ := p
      rw [e] at q
      intro ad1 H1 σ1 e1 s1
      refine ⟨ad1, env1, st1, ws, s1, rs.mono e1, ?_⟩
      have q : match h ws env1 st1 with
        | some (env', st') => ∀ ad' H' σ', Ext X.K ad H ad' H' → Sim X.K ad' env' σ' st' H' → Q σ' H'
        | none => False := q
      cases e' : h ws env1 st1 with
      | none => rw [e'] at q; exact q.elim
      | some p2 =>
        obtain ⟨env2, st2⟩ := p2
        rw [e'] at q
        exact fun ad2 H2 σ2 e2 s2 => q ad2 H2 σ2 (e1.trans e2) s2
def gT (n : Nat) (h : List W → MM.Env → S → Option (MM.Env × S)) : MG := fun w env st => match w with
  | .tup ws => if ws.length = n then h ws env st else none
  | _ => none
theorem sg_tup {es : List Expr} {k n : Nat} {h : List W → MM.Env → S → Option (MM.Env × S)} (hc : X.calm = true) (h1 : PGs X es (tGs X.K h)) (hn : (assignEach es X.env).length = n := by rfl) (hst : (assignEach es X.env).findIdx? (·.1) = none := by rfl) :
    PG X (.Tuple es k pos) (tG X.K (gT n h)) := by
  refine L2.PG.imp (pg_tup hc h1 hn hst) fun v σ H Q ⟨ad, env, st, w, sim, r, q⟩ => ?_
  cases r with
  | @tup ws a vs hq rs =>
    by_cases hl : ws.length = n
    · refine ⟨a, vs, rfl, hq, by rw [← rs.length]; exact hl, ad, env, st, ws, sim, rs, ?_⟩
      simp only [gT, if_pos hl] at q
      exact q
    · simp only [gT, if_neg hl] at q
  | _ => exact q.elim
def mAsg (m : ME) (g : MG) : MS := fun env st => (m env st).toS env fun w s => match g w env s with
  | some (env', s') => .nx env' s'
  | none => .bad
theorem asg_end {K : PySem.W.Frag} [Link K] {σ : L2.St} {H : Hp} {ad ad1 : List Addr} {env : MM.Env} {st1 : S} {D : Ends} {g : MG} {w : W} {v : V} {H1 : Hp} (e1 : Ext K ad H ad1 H1) (s1 : Sim K ad1 env σ st1 H1) (r : RW K ad1 H1 w v)
    (p : PSt K Wx ad H D (match g w env st1 with | some (env', s') => .nx env' s' | none => .bad)) : tG K g v σ H1 D.nx := by
  refine ⟨ad1, env, st1, w, s1, r, ?_⟩
  cases e : g w env st1 with
  | none => rw [e] at p; exact p.elim
  | some q =>
    obtain ⟨env', s'⟩ := q
    rw [e] at p
    exact fun ad2 H2 σ2 e2 s2 => p ad2 H2 σ2 (e1.trans e2) s2
theorem sp_set {i : Nat} {x : Str} {pos' : Pos} (hN : X.N.Nodup) (hi : X.N[i]? = some x) (hx : Loc X.env.scope x) (hf : X.fn x = true ∨ X.env.scope.names.lookup x = some .local) (he : PE X a (tE X.K Wx ma)) (hs : swapsWith a (some (.Name x pos')) pos.line X.env = pure false := by rfl) :
    PS X (.Assign [.Name x pos'] a pos) (tS X.K Wx (mAsg ma (gN i))) := by
  refine L2.PS.imp (ps_set hN hi hx he hs hf) fun D σ H ⟨ad, env, st, sim, q⟩ => ?_
  refine tE_thenS sim q fun w st1 v H1 ad1 e1 s1 r p => ?_
  exact p ad1 H1 _ e1 ⟨s1.st, s1.en.set r⟩
theorem sp_asg {tg : Expr} {g : MG} (he : PE X a (tE X.K Wx ma)) (hg : PG X tg (tG X.K g)) (hs : swapsWithSole [tg] a pos.line X.env = pure false := by rfl) (hw : swappedStores [tg] a X.env = pure none := by rfl)
    (h1 : (assignEach [tg] X.env).map (·.2) = [assign tg X.env] := by rfl) : PS X (.Assign [tg] a pos) (tS X.K Wx (mAsg ma g)) := by
  refine L2.PS.imp (ps_asg he hg hs hw h1) fun D σ H ⟨ad, env, st, sim, q⟩ => ?_
  exact tE_thenS sim q fun w st1 v H1 ad1 e1 s1 r p => asg_end e1 s1 r p
def mPar (i j : Nat) (m : MA) : MS := fun env st => (m env st).toS env fun ws s => match ws with
  | [w, z] => .nx ((env.set i (some w)).set j (some z)) s
  | _ => .bad
theorem tL_thenS {K : PySem.W.Frag} [Link K] {σ : L2.St} {H : Hp} {m : MA} {ad : List Addr} {env : MM.Env} {st : S} {D : Ends} {k : List W → S → RS} {Q : List V → Hp → Prop} (sim : Sim K ad env σ st H) (h : PSt K Wx ad H D ((m env st).toS env k))
    (hq : ∀ w st1 v H1 ad1, Ext K ad H ad1 H1 → Sim K ad1 env σ st1 H1 → RWs K ad1 H1 w v → PSt K Wx ad H D (k w st1) → Q v H1) : tL K Wx m σ H Q := by
  refine ⟨ad, env, st, sim, ?_⟩
  cases q : m env st with
  | ok w st1 =>
    rw [q] at h
    exact fun ad1 H1 v e1 s1 r1 => hq w st1 v H1 ad1 e1 s1 r1 h
  | exc C fs st1 =>
    rw [q] at h
    exact fun ad1 H1 cls d e1 s1 x => h ad1 H1 σ cls d e1 s1 x
  | bad =>
    rw [q] at h
    exact h
theorem sp_par {i j : Nat} {x y : Str} {n : MA} {px py pt : Pos} {kt k2 : Nat} {pt2 : Pos} (hc : X.calm = true) (hN : X.N.Nodup) (hi : X.N[i]? = some x) (hj : X.N[j]? = some y) (hij : i ≠ j)
    (hx : X.env.scope.names.lookup x = some .local) (hy : X.env.scope.names.lookup y = some .local) (ha : PA X [a, b] (tL X.K Wx n))
    (hw : swappedStores [.Tuple [.Name x px, .Name y py] kt pt] (.Tuple [a, b] k2 pt2) X.env = pure (some [x, y]))
    (hs : swapsWithSole [.Tuple [.Name x px, .Name y py] kt pt] (.Tuple [a, b] k2 pt2) pos.line X.env = pure false := by rfl) :
    PS X (.Assign [.Tuple [.Name x px, .Name y py] kt pt] (.Tuple [a, b] k2 pt2) pos) (tS X.K Wx (mPar i j n)) := by
  refine L2.PS.imp (ps_par hc hN hi hj hij hx hy ha hw hs) fun D σ H ⟨ad, env, st, sim, q⟩ => ?_
  refine tL_thenS sim q fun ws st1 vs H1 ad1 e1 s1 r p => ?_
  cases r with
  | nil => exact p.elim
  | cons r1 r =>
    cases r with
    | nil => exact p.elim
    | cons r2 r =>
      cases r with
      | nil => exact ⟨_, _, rfl, p ad1 H1 _ e1 ⟨s1.st, (s1.en.set r1).set r2⟩⟩
      | cons _ _ => exact p.elim
end
end MM

namespace MM
open PySem PySem.Spec PyProof.Rows L2

structure Src where
  n : Nat
  at_ : Nat → S → Option W
  ok : S → Bool
def SrcOk (K : PySem.W.Frag) [Link K] (J : It) (ad : List Addr) (H : Hp) (src : Src) : Prop :=
  ∃ (G : Hp → Prop) (Y : Nat → Hp → V → Hp → Prop), Walk J src.n G Y ∧ (∀ ad' H' st, Ext K ad H ad' H' → Sim0 K ad' st H' → src.ok st = true → G H') ∧
    ∀ i ad' H' st w x H2, i < src.n → Ext K ad H ad' H' → Sim0 K ad' st H' → src.ok st = true → src.at_ i st = some w → Y i H' x H2 → (∀ b u, H' b = some u → H2 b = some u) ∧ RW K ad' H2 w x
abbrev MI := Env → S → R Src
def tI (K : PySem.W.Frag) [Link K] (Wx : WX) (m : MI) : TI := fun σ H Rf => ∃ ad env st, Sim K ad env σ st H ∧ match m env st with
  | .ok src st' => ∀ ad' H' J, Ext K ad H ad' H' → Sim K ad' env σ st' H' → SrcOk K J ad' H' src → Rf J H'
  | .exc C fs st' => ∀ ad' H' cls d, Ext K ad H ad' H' → Sim K ad' env σ st' H' → XR K ad' H' C fs cls d → Wx cls d σ H'
  | .bad => False
def tGv (K : PySem.W.Frag) [Link K] (vs : List Nat) (g : MG) : TG := fun v σ H Q => ∃ ad env st w, Sim K ad env σ st H ∧ RW K ad H w v ∧ match g w env st with
  | some (env', st') => ∀ ad' H' σ', Ext K ad H ad' H' → Sim K ad' env' σ' st' H' → wipe σ' vs = wipe σ vs → Q σ' H'
  | none => False
def tGvs (K : PySem.W.Frag) [Link K] (vs : List Nat) (g : List W → Env → S → Option (Env × S)) : TGs := fun xs σ H Q => ∃ ad env st ws, Sim K ad env σ st H ∧ RWs K ad H ws xs ∧ match g ws env st with
  | some (env', st') => ∀ ad' H' σ', Ext K ad H ad' H' → Sim K ad' env' σ' st' H' → wipe σ' vs = wipe σ vs → Q σ' H'
  | none => False
theorem wipe_set {σ : L2.St} {i : Nat} {o : Option V} : ∀ {vs : List Nat}, i ∈ vs → wipe (σ.set i o) vs = wipe σ vs
  | [], h => by cases h
  | v :: vs, h => by
    unfold wipe
    by_cases e : i ∈ vs
    · rw [wipe_set e]
    · have : i = v := by
        rcases List.mem_cons.mp h with z | z
        · exact z
        · exact absurd z e
      subst this
      have : ∀ us : List Nat, i ∉ us → wipe (σ.set i o) us = (wipe σ us).set i o := by
        intro us
        induction us with
        | nil => intro _; rfl
        | cons u us ih =>
          intro hn
          unfold wipe
          rw [ih (fun z => hn (List.mem_cons_of_mem _ z)), List.set_comm _ _ (fun z => hn (by rw [z]; exact List.mem_cons_self))]
      rw [this vs e, List.set_set]
section
variable {X : Cx} [Link X.K] {Wx : WX} {vs : List Nat} {pos : Pos} {a : Expr}
theorem sgv_name {i : Nat} {x : Str} (hN : X.N.Nodup) (hi : X.N[i]? = some x) (hx : Loc X.env.scope x) (hf : X.fn x = true ∨ X.env.scope.names.lookup x = some .local) (hv : i ∈ vs) : PG X (.Name x pos) (tGv X.K vs (gN i)) := by
  refine L2.PG.imp (pg_name hN hi hx hf) fun v σ H Q ⟨ad, env, st, w, sim, r, q⟩ => ?_
  exact q ad H _ .refl ⟨sim.st, sim.en.set r⟩ (wipe_set hv)
theorem sgvs_nil : PGs X [] (tGvs X.K vs gsNil) := by
  refine L2.PGs.imp pgs_nil fun xs σ H Q ⟨ad, env, st, ws, sim, r, q⟩ => ?_
  cases r with
  | nil => exact ⟨rfl, q ad H σ .refl sim rfl⟩
  | cons _ _ => exact q.elim
theorem sgvs_cons {es : List Expr} {g : MG} {h : List W → Env → S → Option (Env × S)} (h1 : PG X a (tGv X.K vs g)) (h2 : PGs X es (tGvs X.K vs h))
    (hs : (assignEach (a :: es) X.env).map (·.2) = assign a X.env :: (assignEach es X.env).map (·.2) := by rfl) : PGs X (a :: es) (tGvs X.K vs (gsCons g h)) := by
  refine L2.PGs.imp (pgs_cons h1 h2 hs) fun xs σ H Q ⟨ad, env, st, ws, sim, r, q⟩ => ?_
  cases r with
  | nil => exact q.elim
  | @cons w ws v vs' r rs =>
    refine ⟨v, vs', rfl, ad, env, st, w, sim, r, ?_⟩
    have q : match (match g w env st with | some (env', st') => h ws env' st' | none => none) with
      | some (env', st') => ∀ ad' H' σ', Ext X.K ad H ad' H' → Sim X.K ad' env' σ' st' H' → wipe σ' vs = wipe σ vs → Q σ' H'
      | none => False := q
    cases e : g w env st with
    | none => rw [e] at q; exact q.elim
    | some p =>
      obtain ⟨env1, st1⟩ := p
      rw [e] at q
      intro ad1 H1 σ1 e1 s1 w1
      refine ⟨ad1, env1, st1, ws, s1, rs.mono e1, ?_⟩
      have q : match h ws env1 st1 with
        | some (env', st') => ∀ ad' H' σ', Ext X.K ad H ad' H' → Sim X.K ad' env' σ' st' H' → wipe σ' vs = wipe σ vs → Q σ' H'
        | none => False := q
      cases e' : h ws env1 st1 with
      | none => rw [e'] at q; exact q.elim
      | some p2 =>
        obtain ⟨env2, st2⟩ := p2
        rw [e'] at q
        exact fun ad2 H2 σ2 e2 s2 w2 => q ad2 H2 σ2 (e1.trans e2) s2 (w2.trans w1)
theorem sgv_tup {es : List Expr} {k n : Nat} {h : List W → Env → S → Option (Env × S)} (hc : X.calm = true) (h1 : PGs X es (tGvs X.K vs h)) (hn : (assignEach es X.env).length = n := by rfl) (hst : (assignEach es X.env).findIdx? (·.1) = none := by rfl) :
    PG X (.Tuple es k pos) (tGv X.K vs (gT n h)) := by
  refine L2.PG.imp (pg_tup hc h1 hn hst) fun v σ H Q ⟨ad, env, st, w, sim, r, q⟩ => ?_
  cases r with
  | @tup ws a xs hq rs =>
    by_cases hl : ws.length = n
    · refine ⟨a, xs, rfl, hq, by rw [← rs.length]; exact hl, ad, env, st, ws, sim, rs, ?_⟩
      simp only [gT, if_pos hl] at q
      exact q
    · simp only [gT, if_neg hl] at q
  | _ => exact q.elim
theorem tG_of {g : MG} {tg : Expr} (h : PG X tg (tGv X.K vs g)) : PG X tg (tG X.K g) := by
  refine L2.PG.imp h fun v σ H Q ⟨ad, env, st, w, sim, r, q⟩ => ⟨ad, env, st, w, sim, r, ?_⟩
  cases e : g w env st with
  | none => rw [e] at q; exact q
  | some p => rw [e] at q; exact fun ad' H' σ' e1 s1 _ => q ad' H' σ' e1 s1

def mLoop (src : Src) (g : MG) (body : MS) : Nat → Nat → Env → S → RS
  | 0, _, env, st => if src.ok st then .nx env st else .bad
  | k + 1, i, env, st => if src.ok st then match src.at_ i st with
    | none => .bad
    | some w => match g w env st with
      | none => .bad
      | some (env1, st1) => match body env1 st1 with
        | .nx env2 st2 => mLoop src g body k (i + 1) env2 st2
        | .ct env2 st2 => mLoop src g body k (i + 1) env2 st2
        | .bk env2 st2 => .nx env2 st2
        | r => r
    else .bad
def mFor (mi : MI) (g : MG) (body : MS) : MS := fun env st => (mi env st).toS env fun src s => mLoop src g body src.n 0 env s
theorem sp_for {tg iter : Expr} {body : List Stmt} {mi : MI} {g : MG} {mb : MS} (hp : PassesOwn (model X.prog X.w) X.A X.env X.xe) (hc : X.calm = true) (hi : PI X tg iter (tI X.K Wx mi)) (hg : PG X tg (tG X.K g)) (hb : PSs X body (tS X.K Wx mb))
    (hs : ∀ x, foldedSetIterable iter X.env x = pure x := by intro _; rfl) : PS X (.For tg iter body [] pos) (tS X.K Wx (mFor mi g mb)) := by
  refine L2.PS.imp (ps_for hp hc hi hg hb hs) fun D σ H ⟨ad, env, st, sim, q⟩ => ⟨ad, env, st, sim, ?_⟩
  unfold mFor at q
  cases e : mi env st with
  | bad => rw [e] at q; exact q
  | exc C fs st' => rw [e] at q; exact fun ad' H' cls d e1 s1 x => q ad' H' σ cls d e1 s1 x
  | ok src st' =>
    rw [e] at q
    have q : PSt X.K Wx ad H D (mLoop src g mb src.n 0 env st') := q
    intro ad1 H1 J e1 s1 ⟨G, Y, wk, hG, hY⟩
    have good : ∀ {ad2 : List Addr} {H2 : Hp} {k i : Nat} {env2 : Env} {st2 : S}, PSt X.K Wx ad2 H2 D (mLoop src g mb k i env2 st2) → src.ok st2 = true := fun {ad2 H2 k i env2 st2} p => by
      cases z : src.ok st2 with
      | true => rfl
      | false =>
        cases k with
        | zero => simp [mLoop, z] at p; exact p.elim
        | succ k => simp [mLoop, z] at p; exact p.elim
    refine for_it wk (fun i σ2 H2 => ∃ ad2 env2 st2, Ext X.K ad1 H1 ad2 H2 ∧ Sim X.K ad2 env2 σ2 st2 H2 ∧ PSt X.K Wx ad2 H2 D (mLoop src g mb (src.n - i) i env2 st2)) ⟨ad1, env, st', .refl, s1, by rw [Nat.sub_zero]; exact PSt.ext q e1⟩
      (fun i σ2 H2 _ ⟨ad2, env2, st2, e2, s2, p⟩ => hG ad2 H2 st2 e2 s2.st (good p)) ?_ ?_
    · rintro i x σ2 H2 H3 hi ⟨ad2, env2, st2, e2, s2, p⟩ y
      have ok := good p
      obtain ⟨k, hk⟩ : ∃ k, src.n - i = k + 1 := ⟨src.n - i - 1, by omega⟩
      have hk' : src.n - (i + 1) = k := by omega
      rw [hk] at p
      simp only [mLoop, ok, if_true] at p
      cases ea : src.at_ i st2 with
      | none => rw [ea] at p; exact p.elim
      | some w =>
        rw [ea] at p
        obtain ⟨kp, rw'⟩ := hY i ad2 H2 st2 w x H3 hi e2 s2.st ok ea y
        have e3 : Ext X.K ad2 H2 ad2 H3 := ext_keep kp
        have s3 : Sim X.K ad2 env2 σ2 st2 H3 := s2.ext (s2.st.keep kp) e3
        refine ⟨ad2, env2, st2, w, s3, rw', ?_⟩
        cases eg : g w env2 st2 with
        | none => simp only [eg] at p; exact p.elim
        | some pr =>
          obtain ⟨env4, st4⟩ := pr
          simp only [eg] at p
          intro ad4 H4 σ4 e4 s4
          refine ⟨ad4, env4, st4, s4, ?_⟩
          have p := PSt.ext p (e3.trans e4)
          cases eb : mb env4 st4 with
          | nx env5 st5 =>
            simp only [eb] at p
            intro ad5 H5 σ5 e5 s5
            exact ⟨ad5, env5, st5, ((e2.trans e3).trans e4).trans e5, s5, by rw [hk']; exact PSt.ext p e5⟩
          | ct env5 st5 =>
            simp only [eb] at p
            intro ad5 H5 σ5 e5 s5
            exact ⟨ad5, env5, st5, ((e2.trans e3).trans e4).trans e5, s5, by rw [hk']; exact PSt.ext p e5⟩
          | bk env5 st5 => simp only [eb] at p; exact p
          | rt w5 st5 => simp only [eb] at p; exact p
          | exc C fs env5 st5 => simp only [eb] at p; exact p
          | bad => simp only [eb] at p; exact p
    · rintro σ2 H2 ⟨ad2, env2, st2, e2, s2, p⟩
      have ok := good p
      rw [Nat.sub_self] at p
      simp only [mLoop, ok, if_true] at p
      exact p ad2 H2 σ2 .refl s2

def mWhile (c : MB) (body : MS) : Nat → Env → S → RS
  | 0, _, _ => .bad
  | k + 1, env, st => (c env st).toS env fun b s => if b then match body env s with
      | .nx env2 st2 => mWhile c body k env2 st2
      | .ct env2 st2 => mWhile c body k env2 st2
      | .bk env2 st2 => .nx env2 st2
      | r => r
    else .nx env s
theorem sp_while {c : Expr} {body : List Stmt} {bc : MB} {mb : MS} (k : Nat) (hp : PassesOwn (model X.prog X.w) X.A X.env X.xe) (hc : PT X c (tB X.K Wx bc)) (hb : PSs X body (tS X.K Wx mb)) : PS X (.While c body [] pos) (tS X.K Wx (mWhile bc mb k)) := by
  refine L2.PS.imp (ps_while hp hc hb) fun D σ H ⟨ad, env, st, sim, q⟩ => ?_
  refine ⟨fun m σ2 H2 => ∃ ad2 env2 st2, Ext X.K ad H ad2 H2 ∧ Sim X.K ad2 env2 σ2 st2 H2 ∧ PSt X.K Wx ad2 H2 D (mWhile bc mb m env2 st2), ⟨k, ad, env, st, .refl, sim, q⟩, ?_⟩
  rintro m σ2 H2 ⟨ad2, env2, st2, e2, s2, p⟩
  cases m with
  | zero => exact p.elim
  | succ m =>
    refine tB_thenS s2 p fun b st3 H3 ad3 e3 s3 p3 => ?_
    cases b with
    | false => exact p3 ad3 H3 σ2 e3 s3
    | true =>
      refine ⟨fun σ' H' => ∃ ad2 env2 st2, Ext X.K ad H ad2 H' ∧ Sim X.K ad2 env2 σ' st2 H' ∧ PSt X.K Wx ad2 H' D (mWhile bc mb m env2 st2), fun σ' H' h => ⟨m, Nat.lt_succ_self _, h⟩, ad3, env2, st3, s3, ?_⟩
      have p3 := PSt.ext p3 e3
      simp only [if_true] at p3
      cases eb : mb env2 st3 with
      | nx env5 st5 =>
        simp only [eb] at p3
        exact fun ad5 H5 σ5 e5 s5 => ⟨ad5, env5, st5, (e2.trans e3).trans e5, s5, PSt.ext p3 e5⟩
      | ct env5 st5 =>
        simp only [eb] at p3
        exact fun ad5 H5 σ5 e5 s5 => ⟨ad5, env5, st5, (e2.trans e3).trans e5, s5, PSt.ext p3 e5⟩
      | bk env5 st5 => simp only [eb] at p3; exact p3
      | rt w5 st5 => simp only [eb] at p3; exact p3
      | exc C fs env5 st5 => simp only [eb] at p3; exact p3
      | bad => simp only [eb] at p3; exact p3

def W0 : WX := fun _ _ _ _ => False
def R.dry {α : Type} : R α → R α
  | .ok a s => .ok a s
  | _ => .bad
def wipeE (env : Env) : List Nat → Env
  | [] => env
  | v :: vs => (wipeE env vs).set v none
def mLcLoop (src : Src) (g : MG) (mt : MB) (me : ME) (vs : List Nat) (d : Nat) (env : Env) : Nat → Nat → S → R W
  | 0, _, st => if src.ok st then .ok (.ref d) st else .bad
  | k + 1, i, st => if src.ok st then match src.at_ i st with
    | none => .bad
    | some w => match g w (wipeE env vs) st with
      | none => .bad
      | some (env1, st1) => (mt env1 st1).dry.bind fun b st2 => if b then (me env1 st2).dry.bind fun y st3 => match st3.get d with
            | some (.lst acc) => if acc.length < 1000000 then mLcLoop src g mt me vs d env k (i + 1) (st3.put d (.lst (acc ++ [y]))) else .bad
            | _ => .bad
          else mLcLoop src g mt me vs d env k (i + 1) st2
    else .bad
def mLc (mi : MI) (g : MG) (mt : MB) (me : ME) (vs : List Nat) : ME := fun env st => (mi env st).bind fun src s => mLcLoop src g mt me vs s.sz env src.n 0 (s.add (.lst []))
theorem REnv.wipe {K : PySem.W.Frag} [Link K] {ad : List Addr} {H : Hp} {env : Env} {σ : L2.St} (r : REnv K ad H env σ) : ∀ vs : List Nat, REnv K ad H (wipeE env vs) (wipe σ vs)
  | [] => r
  | v :: vs => (REnv.wipe r vs).unset
def mYes : MB := fun _ st => .ok true st
theorem lc_reading {K : PySem.W.Frag} [Link K] {mi : MI} {g : MG} {mt : MB} {me : ME} {σ : L2.St} {H : Hp} {Q : VK} {ad : List Addr} {env : Env} {st : S} {wi : TI} {tt : TT} (sim : Sim K ad env σ st H) (ht : ∀ σ H Q, tB K W0 mt σ H Q → tt σ H Q)
    (hw : ∀ Rf, tI K Wx mi σ H Rf → wi σ H Rf) (q : PW K Wx ad env σ H Q (mLc mi g mt me vs env st)) : tLc wi (tGv K vs g) tt (tE K W0 me) vs σ H Q := by
  refine hw _ ⟨ad, env, st, sim, ?_⟩
  unfold mLc at q
  cases e : mi env st with
  | bad => rw [e] at q; exact q
  | exc C fs st' => rw [e] at q; exact q
  | ok src st' =>
    rw [e] at q
    have q : PW K Wx ad env σ H Q (mLcLoop src g mt me vs st'.sz env src.n 0 (st'.add (.lst []))) := q
    intro ad1 H1 J e1 s1 ⟨G, Y, wk, hG, hY⟩ D hD
    obtain ⟨e2, s2, r2⟩ := sim_newLst s1 hD (ws := []) (vs := []) .nil
    have good : ∀ {ad2 : List Addr} {H2 : Hp} {k i : Nat} {st2 : S}, PW K Wx ad2 env σ H2 Q (mLcLoop src g mt me vs st'.sz env k i st2) → src.ok st2 = true := fun {ad2 H2 k i st2} p => by
      cases z : src.ok st2 with
      | true => rfl
      | false =>
        cases k with
        | zero => simp [mLcLoop, z] at p; exact p.elim
        | succ k => simp [mLcLoop, z] at p; exact p.elim
    refine lc_it wk (fun i H2 => ∃ ad2 st2, Ext K (ad1 ++ [D]) (upd H1 D (.lst [])) ad2 H2 ∧ Sim K ad2 env σ st2 H2 ∧ PW K Wx ad2 env σ H2 Q (mLcLoop src g mt me vs st'.sz env (src.n - i) i st2))
      ⟨_, _, .refl, s2, by rw [Nat.sub_zero]; exact PW.ext q (e1.trans e2)⟩ (fun i H2 _ ⟨ad2, st2, e3, s3, p⟩ => hG ad2 H2 st2 (e2.trans e3) s3.st (good p)) ?_ ?_
    · rintro i x H2 H3 hi ⟨ad2, st2, e3, s3, p⟩ y
      have ok := good p
      obtain ⟨k, hk⟩ : ∃ k, src.n - i = k + 1 := ⟨src.n - i - 1, by omega⟩
      have hk' : src.n - (i + 1) = k := by omega
      rw [hk] at p
      simp only [mLcLoop, ok, if_true] at p
      cases ea : src.at_ i st2 with
      | none => rw [ea] at p; exact p.elim
      | some w =>
        rw [ea] at p
        obtain ⟨kp, rw'⟩ := hY i ad2 H2 st2 w x H3 hi (e2.trans e3) s3.st ok ea y
        have e4 : Ext K ad2 H2 ad2 H3 := ext_keep kp
        have s4 : Sim K ad2 env σ st2 H3 := s3.ext (s3.st.keep kp) e4
        refine ⟨ad2, wipeE env vs, st2, w, ⟨s4.st, s4.en.wipe vs⟩, rw', ?_⟩
        cases eg : g w (wipeE env vs) st2 with
        | none => simp only [eg] at p; exact p.elim
        | some pr =>
          obtain ⟨env5, st5⟩ := pr
          simp only [eg] at p
          intro ad5 H5 σ5 e5 s5 w5
          have ww : ∀ (σ : L2.St) (us : List Nat), (∀ i ∈ us, i ∈ vs) → wipe (wipe σ vs) us = wipe σ vs := fun σ us hu => by
            induction us with
            | nil => rfl
            | cons u us ih =>
              rw [show wipe (wipe σ vs) (u :: us) = (wipe (wipe σ vs) us).set u none from rfl, ih fun i hi => hu i (List.mem_cons_of_mem _ hi)]
              have hv : u ∈ vs := hu u List.mem_cons_self
              apply List.ext_getElem?
              intro j
              by_cases ej : u = j
              · subst ej
                rw [List.getElem?_set]
                by_cases hl : u < (wipe σ vs).length
                · rw [if_pos rfl, if_pos hl]
                  cases z : (wipe σ vs)[u]? with
                  | none => rw [List.getElem?_eq_none_iff] at z; omega
                  | some o =>
                    cases o with
                    | none => rfl
                    | some v => exact absurd hv (wipe_some z).2
                · rw [if_pos rfl, if_neg hl, List.getElem?_eq_none (by omega)]
              · rw [List.getElem?_set_ne ej]
          refine ⟨w5.trans (ww σ vs fun _ h => h), ht _ _ _ ⟨ad5, env5, st5, s5, ?_⟩⟩
          have p := PW.ext p (e4.trans e5)
          cases et : mt env5 st5 with
          | bad => simp only [et, R.dry, R.bind_bad] at p; exact p.elim
          | exc C fs st6 => simp only [et, R.dry, R.bind_bad] at p; exact p.elim
          | ok b st6 =>
            simp only [et, R.dry, R.bind_ok] at p
            intro ad6 H6 e6 s6
            have back : Sim K ad6 env σ st6 H6 := ⟨s6.st, s4.en.mono (e5.trans e6)⟩
            cases b with
            | false =>
              simp only [Bool.false_eq_true, if_false] at p ⊢
              exact ⟨ad6, st6, ((e3.trans e4).trans e5).trans e6, back, by rw [hk']; exact PW.ext p e6⟩
            | true =>
              simp only [if_true] at p ⊢
              refine ⟨ad6, env5, st6, s6, ?_⟩
              have p := PW.ext p e6
              cases ee : me env5 st6 with
              | bad => simp only [ee, R.dry, R.bind_bad] at p; exact p.elim
              | exc C fs st7 => simp only [ee, R.dry, R.bind_bad] at p; exact p.elim
              | ok z st7 =>
                simp only [ee, R.dry, R.bind_ok] at p
                intro ad7 H7 v7 e7 s7 r7
                have p := PW.ext p e7
                cases eg : st7.get st'.sz with
                | none => simp only [eg] at p; exact p.elim
                | some o =>
                  cases o with
                  | lst acc =>
                    simp only [eg] at p
                    by_cases hz : acc.length < 1000000
                    · simp only [if_pos hz] at p
                      have hp : ad7[st'.sz]? = some D := by
                        cases r2 with
                        | ref h => exact e7.pre _ _ (e6.pre _ _ (e5.pre _ _ (e4.pre _ _ (e3.pre _ _ h))))
                      obtain ⟨avs, ha, hr⟩ : ∃ vs, H7 D = some (.lst vs) ∧ RWs K ad7 H7 acc vs := s7.st.obj _ _ _ eg hp
                      have kk : ∀ b z, b ≠ D → H7 b = some z → upd H7 D (.lst (avs ++ [v7])) b = some z := fun b z hb h => by rw [upd_ne hb]; exact h
                      have e8 : Ext K ad7 H7 ad7 (upd H7 D (.lst (avs ++ [v7]))) := ext_put ha (.inl ⟨_, rfl⟩) kk
                      have ro : RO K ad7 (upd H7 D (.lst (avs ++ [v7]))) (.lst (acc ++ [z])) D := ⟨avs ++ [v7], upd_same, (hr.append (.cons r7 .nil)).mono e8⟩
                      have s8 := s7.st.wr hp ha (.inl ⟨_, rfl⟩) kk ro
                      refine ⟨avs, ha, by rw [← hr.length, sizeLine_eq]; omega, ad7, _, ((((e3.trans e4).trans e5).trans e6).trans e7).trans e8, ⟨s8, (back.en.mono e7).mono e8⟩, ?_⟩
                      rw [hk']
                      exact PW.ext p e8
                    · simp only [if_neg hz] at p
                      exact p.elim
                  | dic kvs => simp only [eg] at p; exact p.elim
                  | ins C fs => simp only [eg] at p; exact p.elim
                  | exc C fs => simp only [eg] at p; exact p.elim
    · rintro H2 ⟨ad2, st2, e3, s3, p⟩
      have ok := good p
      rw [Nat.sub_self] at p
      simp only [mLcLoop, ok, if_true] at p
      exact p ad2 H2 _ .refl s3 (r2.mono e3)
end
end MM

namespace MM
open PySem PySem.Spec PyProof.Rows L2
section
variable {X : Cx} [Link X.K] {Wx : WX} {pos : Pos} {a : Expr} {ma : ME}
theorem se_lc {elt tg iter : Expr} {ifs : List Expr} {scope : Scope} {own : List (Str × Nat)} {mi : MI} {g : MG} {tt : TT} {mt : MB} {me : ME} (hc : X.calm = true) (hN : X.N.Nodup) (hi : PI X tg iter (tI X.K Wx mi)) (ok : BlkOk X.N X.env.scope scope own)
    (hg : ∀ (s : Shared) (H : Hp) (C : Addr) (cl : List (Str × Addr)) (fp : List Addr), PG (X.blk s H scope (compEnvC scope cl C X.env) fp) tg (tGv X.K (own.map (·.2)) g))
    (ht : ∀ (s : Shared) (H : Hp) (C : Addr) (cl : List (Str × Addr)) (fp : List Addr), PTs (X.blk s H scope (compEnvC scope cl C X.env) fp) ifs tt) (hm : ∀ σ H Q, tB X.K W0 mt σ H Q → tt σ H Q)
    (he : ∀ (s : Shared) (H : Hp) (C : Addr) (cl : List (Str × Addr)) (fp : List Addr), PE (X.blk s H scope (compEnvC scope cl C X.env) fp) elt (tE X.K W0 me)) (hs : ∀ x, foldedSetIterable iter X.env x = pure x := by intro _; rfl) :
    PE X (.ListComp elt [⟨tg, iter, ifs, 0⟩] scope pos) (tE X.K Wx (mLc mi g mt me (own.map (·.2)))) := by
  refine L2.PE.imp (pe_lc hc hN hi ok hg ht he hs) fun σ H Q ⟨ad, env, st, sim, q⟩ => ?_
  exact lc_reading sim hm (fun _ h => h) q
theorem yes_ok {K : PySem.W.Frag} [Link K] : ∀ σ H Q, tB K W0 mYes σ H Q → tYes σ H Q := fun σ H Q ⟨ad, env, st, sim, q⟩ => q ad H .refl sim
theorem same_ok {K : PySem.W.Frag} [Link K] {m : MB} : ∀ σ H Q, tB K W0 m σ H Q → tB K W0 m σ H Q := fun _ _ _ h => h
theorem sp_setLc {i : Nat} {y : Str} {py : Pos} {elt tg iter : Expr} {ifs : List Expr} {scope : Scope} {own : List (Str × Nat)} {spos : Pos} {mi : MI} {g : MG} {tt : TT} {mt : MB} {me : ME} (hc : X.calm = true) (hN : X.N.Nodup) (hy : X.N[i]? = some y) (hyl : X.env.scope.names.lookup y = some .local)
    (hsw : swapsWith (.ListComp elt [⟨tg, iter, ifs, 0⟩] scope pos) (some (.Name y py)) spos.line X.env = pure true) (hi : PI X tg iter (tI X.K Wx mi)) (ok : BlkOk X.N X.env.scope scope own)
    (hg : ∀ (s : Shared) (H : Hp) (C : Addr) (cl : List (Str × Addr)) (fp : List Addr), PG (X.blk s H scope (compEnvC scope cl C X.env) fp) tg (tGv X.K (own.map (·.2)) g))
    (ht : ∀ (s : Shared) (H : Hp) (C : Addr) (cl : List (Str × Addr)) (fp : List Addr), PTs (X.blk s H scope (compEnvC scope cl C X.env) fp) ifs tt) (hm : ∀ σ H Q, tB X.K W0 mt σ H Q → tt σ H Q)
    (he : ∀ (s : Shared) (H : Hp) (C : Addr) (cl : List (Str × Addr)) (fp : List Addr), PE (X.blk s H scope (compEnvC scope cl C X.env) fp) elt (tE X.K W0 me)) (hs : ∀ x, foldedSetIterable iter X.env x = pure x := by intro _; rfl) :
    PS X (.Assign [.Name y py] (.ListComp elt [⟨tg, iter, ifs, 0⟩] scope pos) spos) (tS X.K Wx (mAsg (mLc mi g mt me (own.map (·.2))) (gN i))) := by
  refine L2.PS.imp (ps_setLc hc hN hy hyl hsw hi ok hg ht he hs) fun D σ H ⟨ad, env, st, sim, q⟩ => ?_
  have q' : PW X.K Wx ad env σ H (fun v H1 => D.nx (σ.set i (some v)) H1) (mLc mi g mt me (own.map (·.2)) env st) := by
    unfold mAsg at q
    cases e : mLc mi g mt me (own.map (·.2)) env st with
    | ok w st' =>
      rw [e] at q
      exact fun ad1 H1 v e1 s1 r => q ad1 H1 _ e1 ⟨s1.st, s1.en.set r⟩
    | exc C fs st' =>
      rw [e] at q
      exact fun ad1 H1 cls d e1 s1 x => q ad1 H1 σ cls d e1 s1 x
    | bad => rw [e] at q; exact q
  exact lc_reading sim hm (fun _ h => h) q'

def srcV (ws : List W) : Src := ⟨ws.length, fun i _ => ws[i]?, fun _ => true⟩
def lst? (st : S) (n : Nat) : Option (List W) := match st.get n with
  | some (.lst ws) => some ws
  | _ => none
def srcL (n k : Nat) : Src := ⟨k, fun i st => (lst? st n).bind fun ws => ws[i]?, fun st => match lst? st n with
  | some ws => ws.length == k
  | none => false⟩
def signsW (x : Str) : List W := x.cps.toList.map fun c => .str ⟨#[c]⟩
def srcOf : W → S → R Src
  | .tup ws, s => .ok (srcV ws) s
  | .ref n, s => match lst? s n with
    | some ws => .ok (srcL n ws.length) s
    | none => .bad
  | .str x, s => .ok (srcV (signsW x)) s
  | _, _ => .bad
def mIter (m : ME) : MI := fun env st => (m env st).bind srcOf
theorem lst_some {st : S} {n : Nat} {ws : List W} (h : lst? st n = some ws) : st.get n = some (.lst ws) := by
  unfold lst? at h
  split at h
  · rename_i e; cases h; exact e
  · cases h
theorem srcOk_tup {K : PySem.W.Frag} [Link K] {ad : List Addr} {H : Hp} {a : Addr} {ws : List W} {vs : List V} (h : SqT K H a vs) (r : RWs K ad H ws vs) : SrcOk K (Itt K a) ad H (srcV ws) := by
  refine ⟨fun H' => SqT K H' a vs, YAt vs, by rw [show (srcV ws).n = ws.length from rfl, r.length]; exact walk_tup, fun ad' H' st e _ _ => e.tup _ _ h, ?_⟩
  rintro i ad' H' st w x H2 hi e _ _ ha ⟨rfl, hx⟩
  refine ⟨fun _ _ h => h, ?_⟩
  obtain ⟨v, h1, h2⟩ := (r.mono e).get (show ws[i]? = some w from ha)
  rw [hx] at h1
  cases h1
  exact h2
theorem srcOk_lst {K : PySem.W.Frag} [Link K] {ad : List Addr} {H : Hp} {a : Addr} {n k : Nat} (h : ad[n]? = some a) : SrcOk K (Itl K a) ad H (srcL n k) := by
  have g : ∀ ad' H' st, Ext K ad H ad' H' → Sim0 K ad' st H' → (srcL n k).ok st = true → ∃ ws vs, st.get n = some (.lst ws) ∧ ws.length = k ∧ H' a = some (.lst vs) ∧ RWs K ad' H' ws vs := fun ad' H' st e s ok => by
    have ok : (match lst? st n with | some ws => ws.length == k | none => false) = true := ok
    cases q : lst? st n with
    | none => rw [q] at ok; cases ok
    | some ws =>
      rw [q] at ok
      have eg := lst_some q
      obtain ⟨vs, h1, h2⟩ : ∃ vs, H' a = some (.lst vs) ∧ RWs K ad' H' ws vs := s.obj n _ a eg (e.pre _ _ h)
      exact ⟨ws, vs, eg, by simpa using ok, h1, h2⟩
  refine ⟨fun H' => ∃ vs, SqL K H' a vs ∧ vs.length = k, fun i H x H' => H' = H ∧ ∀ vs, SqL K H a vs → vs[i]? = some x, ⟨?_, ?_, ?_⟩, fun ad' H' st e s ok => ?_, ?_⟩
  · rintro i H' hi ⟨vs, hv, hl⟩
    have : i < vs.length := by rw [hl]; exact hi
    exact ⟨vs, vs[i], hv, by simp [this]⟩
  · rintro H' ⟨vs, hv, hl⟩
    exact ⟨vs, hv, by rw [hl]; exact Nat.le_refl _⟩
  · rintro i H' x H2 hi _ y
    exact y
  · obtain ⟨ws, vs, _, hl, h1, h2⟩ := g ad' H' st e s ok
    exact ⟨vs, .of h1, by rw [← h2.length]; exact hl⟩
  · rintro i ad' H' st w x H2 hi e s ok ha ⟨rfl, hx⟩
    obtain ⟨ws, vs, eg, hl, h1, h2⟩ := g ad' _ st e s ok
    refine ⟨fun _ _ h => h, ?_⟩
    have ha : (lst? st n).bind (fun ws => ws[i]?) = some w := ha
    have el : lst? st n = some ws := by unfold lst?; rw [eg]
    rw [el] at ha
    obtain ⟨v, q1, q2⟩ := h2.get (show ws[i]? = some w from ha)
    rw [hx vs (.of h1)] at q1
    cases q1
    exact q2
theorem srcOk_str {K : PySem.W.Frag} [Link K] {ad : List Addr} {H : Hp} {x : Str} : SrcOk K (Its x) ad H (srcV (signsW x)) := by
  refine ⟨fun _ => True, fun i H v H' => H' = H ∧ ∃ c, x.cps[i]? = some c ∧ v = .str ⟨#[c]⟩, ?_, fun _ _ _ _ _ _ => True.intro, ?_⟩
  · have e : (srcV (signsW x)).n = x.cps.size := by simp [srcV, signsW]
    rw [e]
    exact walk_str
  · rintro i ad' H' st w v H2 hi e _ _ ha ⟨rfl, c, hc, rfl⟩
    refine ⟨fun _ _ h => h, ?_⟩
    have ha : (signsW x)[i]? = some w := ha
    unfold signsW at ha
    rw [List.getElem?_map, Array.getElem?_toList, hc] at ha
    cases ha
    exact .str _
theorem si_val {tg : Expr} (he : PE X a (tE X.K Wx ma)) : PI X tg a (tI X.K Wx (mIter ma)) := by
  refine ⟨fun pins s σ H Rf I ⟨ad, env, st, sim, q⟩ => ?_⟩
  unfold mIter at q
  cases e : ma env st with
  | bad => rw [e] at q; exact q.elim
  | exc C fs st' =>
    rw [e] at q
    exact (pi_tup he).run pins s σ H Rf I ⟨ad, env, st, sim, by rw [e]; exact q⟩
  | ok w st' =>
    rw [e] at q
    cases w with
    | tup ws =>
      refine (pi_tup he).run pins s σ H Rf I ⟨ad, env, st, sim, ?_⟩
      rw [e]
      intro ad1 H1 v e1 s1 r
      cases r with
      | @tup _ b vs hq rs => exact ⟨b, rfl, ⟨vs, hq⟩, q ad1 H1 _ e1 s1 (srcOk_tup hq rs)⟩
    | ref n =>
      refine (pi_list he).run pins s σ H Rf I ⟨ad, env, st, sim, ?_⟩
      rw [e]
      intro ad1 H1 v e1 s1 r
      cases el : lst? st' n with
      | none => simp only [R.bind_ok, srcOf, el] at q
      | some ws =>
        simp only [R.bind_ok, srcOf, el] at q
        cases r with
        | @ref _ b h =>
          obtain ⟨vs, h1, h2⟩ : ∃ vs, H1 b = some (.lst vs) ∧ RWs X.K ad1 H1 ws vs := s1.st.obj n _ b (lst_some el) h
          exact ⟨b, rfl, ⟨vs, .of h1⟩, q ad1 H1 _ e1 s1 (srcOk_lst h)⟩
    | str x =>
      refine (pi_str he).run pins s σ H Rf I ⟨ad, env, st, sim, ?_⟩
      rw [e]
      intro ad1 H1 v e1 s1 r
      cases r with
      | str _ => exact ⟨x, rfl, q ad1 H1 _ e1 s1 srcOk_str⟩
    | _ => exact q.elim
def srcR (lo c : Int) (n : Nat) : Src := ⟨n, fun i _ => some (.int (lo + (i : Nat) * c)), fun _ => true⟩
def inW (i : Int) : Bool := decide (-(2 ^ 62) ≤ i) && decide (i < 2 ^ 62)
theorem inW_ok {i : Int} (h : inW i = true) : -(2 ^ 62) ≤ i ∧ i < 2 ^ 62 := by
  unfold inW at h
  simpa using h
def rng1 : List W → S → R Src
  | [.int j], s => if inW j then .ok (srcR 0 1 j.toNat) s else .bad
  | _, _ => .bad
def rng2 : List W → S → R Src
  | [.int i, .int j], s => if inW i && inW j then .ok (srcR i 1 (j - i).toNat) s else .bad
  | _, _ => .bad
theorem rng1_is (ws : List W) (s : S) : (∃ j, ws = [.int j] ∧ inW j = true ∧ rng1 ws s = .ok (srcR 0 1 j.toNat) s) ∨ rng1 ws s = .bad := by
  unfold rng1
  split
  · rename_i j
    by_cases h : inW j = true
    · exact .inl ⟨j, rfl, h, if_pos h⟩
    · exact .inr (if_neg h)
  · exact .inr rfl
theorem rng2_is (ws : List W) (s : S) : (∃ i j, ws = [.int i, .int j] ∧ inW i = true ∧ inW j = true ∧ rng2 ws s = .ok (srcR i 1 (j - i).toNat) s) ∨ rng2 ws s = .bad := by
  unfold rng2
  split
  · rename_i i j
    by_cases h : (inW i && inW j) = true
    · obtain ⟨h1, h2⟩ := Bool.and_eq_true_iff.mp h
      exact .inl ⟨i, j, rfl, h1, h2, if_pos h⟩
    · exact .inr (if_neg h)
  · exact .inr rfl
def turns (i j c : Int) : Nat := if 0 < c then ((j - i + c - 1) / c).toNat else ((i - j - c - 1) / (-c)).toNat
def rng3 : List W → S → R Src
  | [.int i, .int j, .int c], s => if inW i && inW j && decide (c ≠ 0) && decide (c.natAbs < 1073741824) && Builtin.Range.small i j c && decide (Builtin.Range.rangeSize i j c = (turns i j c : Int)) then .ok (srcR i c (turns i j c)) s else .bad
  | _, _ => .bad
theorem srcOk_r {K : PySem.W.Frag} [Link K] {ad : List Addr} {H : Hp} {lo c : Int} {n : Nat} : SrcOk K (Itc lo c n) ad H (srcR lo c n) := by
  refine ⟨fun _ => True, YFn fun i => .int (lo + (i : Nat) * c), walk_rangeC, fun _ _ _ _ _ _ => True.intro, ?_⟩
  rintro i ad' H' st w v H2 hi e _ _ ha ⟨rfl, rfl⟩
  cases ha
  exact ⟨fun _ _ h => h, .int _⟩
theorem srcOk_r1 {K : PySem.W.Frag} [Link K] {ad : List Addr} {H : Hp} {lo : Int} {n : Nat} : SrcOk K (Itr lo n) ad H (srcR lo 1 n) := by
  refine ⟨fun _ => True, YFn fun i => .int (lo + (i : Nat)), walk_range, fun _ _ _ _ _ _ => True.intro, ?_⟩
  rintro i ad' H' st w v H2 hi e _ _ ha ⟨rfl, rfl⟩
  cases ha
  refine ⟨fun _ _ h => h, ?_⟩
  rw [Int.mul_one]
  exact .int _
theorem tL_thenI {K : PySem.W.Frag} [Link K] {σ : L2.St} {H : Hp} {m : MA} {ad : List Addr} {env : Env} {st : S} {k : List W → S → R Src} {Rf : It → Hp → Prop} {Q : List V → Hp → Prop} (sim : Sim K ad env σ st H)
    (h : match (m env st).bind k with
      | .ok src st' => ∀ ad' H' J, Ext K ad H ad' H' → Sim K ad' env σ st' H' → SrcOk K J ad' H' src → Rf J H'
      | .exc C fs st' => ∀ ad' H' cls d, Ext K ad H ad' H' → Sim K ad' env σ st' H' → XR K ad' H' C fs cls d → Wx cls d σ H'
      | .bad => False)
    (hq : ∀ ws st1 vs H1 ad1, Ext K ad H ad1 H1 → Sim K ad1 env σ st1 H1 → RWs K ad1 H1 ws vs → (match k ws st1 with
      | .ok src st' => ∀ ad' H' J, Ext K ad1 H1 ad' H' → Sim K ad' env σ st' H' → SrcOk K J ad' H' src → Rf J H'
      | .exc C fs st' => ∀ ad' H' cls d, Ext K ad1 H1 ad' H' → Sim K ad' env σ st' H' → XR K ad' H' C fs cls d → Wx cls d σ H'
      | .bad => False) → Q vs H1) : tL K Wx m σ H Q := by
  refine ⟨ad, env, st, sim, ?_⟩
  cases q : m env st with
  | ok w st1 =>
    rw [q] at h
    intro ad1 H1 v e1 s1 r1
    refine hq w st1 v H1 ad1 e1 s1 r1 ?_
    have h : match k w st1 with
      | .ok src st' => ∀ ad' H' J, Ext K ad H ad' H' → Sim K ad' env σ st' H' → SrcOk K J ad' H' src → Rf J H'
      | .exc C fs st' => ∀ ad' H' cls d, Ext K ad H ad' H' → Sim K ad' env σ st' H' → XR K ad' H' C fs cls d → Wx cls d σ H'
      | .bad => False := h
    cases z : k w st1 with
    | ok src st' => rw [z] at h; exact fun ad' H' J e2 => h ad' H' J (e1.trans e2)
    | exc C fs st' => rw [z] at h; exact fun ad' H' c d e2 => h ad' H' c d (e1.trans e2)
    | bad => rw [z] at h; exact h
  | exc C fs st1 =>
    rw [q] at h
    exact h
  | bad =>
    rw [q] at h
    exact h
def mSrc (k : List W → S → R Src) (m : MA) : MI := fun env st => (m env st).bind k
theorem si_range1 {tg : Expr} {n : MA} {p : Pos} (hg : Gl X "range") (hm : X.mg "range" = none) (ha : PA X [a] (tL X.K Wx n)) (hs : starEach [a] X.env = [(false, eval a X.env)] := by rfl) : PI X tg (.Call (.Name "range" p) [a] [] pos) (tI X.K Wx (mSrc rng1 n)) := by
  refine ⟨fun pins s σ H Rf I ⟨ad, env, st, sim, q⟩ => (pi_range1 hg hm ha hs).run pins s σ H Rf I (tL_thenI sim q fun ws st1 vs H1 ad1 e1 s1 r p => ?_)⟩
  rcases rng1_is ws st1 with ⟨j, rfl, hw, e⟩ | e
  · rw [e] at p
    obtain ⟨b1, b2⟩ := inW_ok hw
    cases r with
    | cons r rr =>
      cases r
      cases rr
      exact ⟨j, rfl, b1, b2, p ad1 H1 _ .refl s1 srcOk_r1⟩
  · rw [e] at p
    exact p.elim
theorem si_range2 {tg b : Expr} {n : MA} {p : Pos} (hg : Gl X "range") (hm : X.mg "range" = none) (ha : PA X [a, b] (tL X.K Wx n)) (hs : starEach [a, b] X.env = [(false, eval a X.env), (false, eval b X.env)] := by rfl) (hs2 : starEach [b] X.env = [(false, eval b X.env)] := by rfl) :
    PI X tg (.Call (.Name "range" p) [a, b] [] pos) (tI X.K Wx (mSrc rng2 n)) := by
  refine ⟨fun pins s σ H Rf I ⟨ad, env, st, sim, q⟩ => (pi_range2 hg hm ha hs hs2).run pins s σ H Rf I (tL_thenI sim q fun ws st1 vs H1 ad1 e1 s1 r p => ?_)⟩
  rcases rng2_is ws st1 with ⟨i, j, rfl, w1, w2, e⟩ | e
  · rw [e] at p
    obtain ⟨b1, b2⟩ := inW_ok w1
    obtain ⟨b3, b4⟩ := inW_ok w2
    cases r with
    | cons r rr =>
      cases r
      cases rr with
      | cons r rr =>
        cases r
        cases rr
        exact ⟨i, j, rfl, ⟨b1, b2, b3, b4⟩, p ad1 H1 _ .refl s1 srcOk_r1⟩
  · rw [e] at p
    exact p.elim
end
end MM

namespace MM
open PySem PySem.Spec PyProof.Rows L2

structure RoomG (k : Nat) (A : Around) : Prop where
  room : Room k A
  gd : A.guards = some []
theorem deeper_guards {A : Around} {env : PySem.Env} : (A.deeper env).guards = A.guards := rfl
theorem RoomG.mono {j k : Nat} {A : Around} (r : RoomG k A) (h : j ≤ k) : RoomG j A := ⟨r.room.mono h, r.gd⟩
theorem RoomG.deeper {k : Nat} {A : Around} (r : RoomG (k + 1) A) (env : PySem.Env) : RoomG k (A.deeper env) := ⟨r.room.deeper env, r.gd⟩
theorem RoomG.in1 {k : Nat} {A : Around} (r : RoomG (k + 1) A) : RoomG k A.in1 := ⟨r.room.in1, r.gd⟩
theorem RoomG.make {k : Nat} {A : Around} (r : RoomG (k + 1) A) (C : Addr) (us : List Value) (kw : List (Str × Value)) : RoomG k (A.under (.builtin "type.__call__" ⟨.ref C :: us, kw⟩)) := by
  refine ⟨r.room.make C us kw, ?_⟩
  have g := r.gd
  first
    | exact g
    | simpa [Around.under, Code.guards, Code.isGuard, pushGuards, guardIds] using g

section
variable (K : PySem.W.Frag) [Link K]
def PC (ad : List Addr) (H : Hp) (Q : VK) (E : XK) : R W → Prop
  | .ok w s => ∀ ad' H' v, Ext K ad H ad' H' → Sim0 K ad' s H' → RW K ad' H' w v → Q v H'
  | .exc C fs s => ∀ ad' H' cls d, Ext K ad H ad' H' → Sim0 K ad' s H' → XR K ad' H' C fs cls d → E cls d H'
  | .bad => False
end
theorem PC.ext {K : PySem.W.Frag} [Link K] {ad ad' : List Addr} {H H' : Hp} {Q : VK} {E : XK} {r : R W} (h : PC K ad H Q E r) (e : Ext K ad H ad' H') : PC K ad' H' Q E r := by
  cases r with
  | ok w s => exact fun ad2 H2 v e2 => h ad2 H2 v (e.trans e2)
  | exc C fs s => exact fun ad2 H2 c d e2 => h ad2 H2 c d (e.trans e2)
  | bad => exact h
def FnG (P : Program) (w : World) (K : PySem.W.Frag) [Link K] (mg : Str → Option Value) (base : Heap) (k : Nat) (f : Addr) (fd : FuncData) (ps : List Str) (m : List W → S → R W) : Prop :=
  ∀ (A : Around) (outer : List PySem.Env) (s : Shared) (H : Hp) (args : Args) (us : List Value) (vs : List V) (ws : List W) (ad : List Addr) (st : S) (Q : VK) (E : XK), RoomG k A → Env0 P w K mg base A outer s H → BindsTo s fd args (ps.zip us) →
    us.length = ps.length → Vals vs us → Sim0 K ad st H → RWs K ad H ws vs → PC K ad H Q E (m ws st) → codeAny (model P w) A (.call (.ref f) args) (CR (L2.CX P w) outer P w H s Q E) s
def FnP (P : Program) (w : World) (K : PySem.W.Frag) [Link K] (mg : Str → Option Value) (base : Heap) (k : Nat) (f : Addr) (m : List W → S → R W) : Prop :=
  ∀ (A : Around) (outer : List PySem.Env) (s : Shared) (H : Hp) (us : List Value) (vs : List V) (ws : List W) (ad : List Addr) (st : S) (Q : VK) (E : XK), RoomG k A → Env0 P w K mg base A outer s H →
    Vals vs us → Sim0 K ad st H → RWs K ad H ws vs → PC K ad H Q E (m ws st) → codeAny (model P w) A (.call (.ref f) ⟨us, []⟩) (CR (L2.CX P w) outer P w H s Q E) s
def RS.call : RS → R W
  | .rt w s => .ok w s
  | .nx _ s => .ok .non s
  | .exc C fs _ s => .exc C fs s
  | _ => .bad
def startE (n : Nat) (ws : List W) : Env := ws.map some ++ List.replicate (n - ws.length) none
def mDef (n : Nat) (body : MS) : List W → S → R W := fun ws st => (body (startE n ws) st).call
theorem rws_map {K : PySem.W.Frag} [Link K] {ad : List Addr} {H : Hp} {N : List Str} {ws : List W} {vs : List V} (r : RWs K ad H ws vs) : REnv K ad H (startE N.length ws) (L2.start N vs) := by
  have hl := r.length
  refine ⟨?_, fun i w h => ?_⟩
  · unfold startE L2.start
    rw [List.length_append, List.length_append, List.length_map, List.length_map, List.length_replicate, List.length_replicate, hl]
  · unfold startE at h
    unfold L2.start
    by_cases hi : i < ws.length
    · rw [List.getElem?_append_left (by simpa using hi), List.getElem?_map] at h
      cases e : ws[i]? with
      | none => rw [e] at h; cases h
      | some z =>
        rw [e] at h
        cases h
        obtain ⟨v, h1, h2⟩ := r.get e
        refine ⟨v, ?_, h2⟩
        rw [List.getElem?_append_left (by rw [List.length_map]; omega), List.getElem?_map, h1]
        rfl
    · rw [List.getElem?_append_right (by simpa using hi), List.getElem?_replicate] at h
      split at h <;> cases h
section
variable {P : Program} {w : World} {K : PySem.W.Frag} [Link K] {mg : Str → Option Value} {base : Heap} {k : Nat} {f : Addr} {name qual : Str} {params : Arguments} {body : List Stmt} {scope : Scope} {dV kV doc pm cdv ct oc : Value} {an od : Option Addr}
  {osl : Array (Option Value)} {N ps : List Str}
theorem body_call {A : Around} {outer : List PySem.Env} {s s1 : Shared} {H : Hp} {vs : List V} {ws : List W} {ad : List Addr} {st : S} {Q : VK} {E : XK} {m : MS}
    (hb : PSs (cxOf (L2.CX P w) P w K mg base N qual scope f cdv A outer s H E) body (tS K (fun cls d _ H' => E cls d H') m)) (I : Inv (cxOf (L2.CX P w) P w K mg base N qual scope f cdv A outer s H E) [] (L2.start N vs) H s1)
    (sim : Sim0 K ad st H) (r : RWs K ad H ws vs) (p : PC K ad H Q E (mDef N.length m ws st)) :
    wpAny (model P w) (A.deeper (envOfC qual scope s.heap.objs.size f cdv)) (execs body (envOfC qual scope s.heap.objs.size f cdv))
      (fun fl s' => match fl with | .ret u => CE outer P w H s Q u s' | .next => CE outer P w H s Q .none s' | _ => False) (cxOf (L2.CX P w) P w K mg base N qual scope f cdv A outer s H E).xe s1 := by
  have reading : tS K (fun cls d _ H' => E cls d H') m { nx := fun _ H' => Q .non H', rt := Q } (L2.start N vs) H := by
    refine ⟨ad, startE N.length ws, st, ⟨sim, rws_map r⟩, ?_⟩
    unfold mDef at p
    cases e : m (startE N.length ws) st with
    | rt z s2 => rw [e] at p; exact p
    | nx env2 s2 => rw [e] at p; exact fun ad' H' σ' e1 s1 => p ad' H' .non e1 s1.st .non
    | exc C fs env2 s2 => rw [e] at p; exact fun ad' H' σ' cls d e1 s1 x => p ad' H' cls d e1 s1.st x
    | bk env2 s2 => rw [e] at p; exact p.elim
    | ct env2 s2 => rw [e] at p; exact p.elim
    | bad => rw [e] at p; exact p.elim
  refine wpAny_mono (hb.run [] s1 _ H _ I reading) (fun fl s' hs => ?_) fun _ _ z => z
  cases fl with
  | ret u =>
    obtain ⟨v, σ', H', J, rv, q⟩ := hs
    exact ⟨v, H', J.os, J.bare, J.base, J.hok, rv, q⟩
  | next =>
    obtain ⟨σ', H', J, q⟩ := hs
    exact ⟨.non, H', J.os, J.bare, J.base, J.hok, rfl, q⟩
  | brk =>
    obtain ⟨_, _, _, q⟩ := hs
    exact q.elim
  | cont =>
    obtain ⟨_, _, _, q⟩ := hs
    exact q.elim
theorem fnG_of {m : MS} (lk : K.lookup f = some ⟨oc, od, .func (PySem.W.fnOf name qual params body scope dV kV doc pm an cdv ct), osl⟩) (hcd : PySem.W.codeIn K cdv qual = true) (Sc : FnScope N ps scope)
    (hbody : ∀ (A : Around) (outer : List PySem.Env) (s : Shared) (H : Hp) (E : XK), RoomG k (A.deeper (envOfC qual scope s.heap.objs.size f cdv)) →
      PSs (cxOf (L2.CX P w) P w K mg base N qual scope f cdv A outer s H E) body (tS K (fun cls d _ H' => E cls d H') m)) :
    FnG P w K mg base (k + 1) f (PySem.W.fnOf name qual params body scope dV kV doc pm an cdv ct) ps (mDef N.length m) := by
  intro A outer s H args us vs ws ad st Q E hr e0 hb hl rv sim r p
  have KX : K.In s.heap := e0.mod.kin.keeps fun b o e => (e0.bs b o e).1
  have lim : s.heap.NoLimit := e0.mod.nolimit.keeps fun b o e => (e0.bs b o e).1
  refine codeAny_call_function hr.room.depth (KX _ _ lk) rfl Sc.co Sc.gen rfl (PySem.W.codeRec_of KX hcd)
    (hb _ _ _ _ (wpAny_newFunctionEnv_cells Sc.kind (fun y hy => ?_) fun env he s1 x => ?_))
  · rcases Sc.par y.1 (List.of_mem_zip hy).1 with q | q
    · exact .inl q
    · exact .inr ⟨q, PySem.W.cellsFrom_some _ _ _ (.inl q)⟩
  · subst he
    refine ⟨lim.keeps x.toInCall.keep, codeAny_func ?_⟩
    have hv : vs.length = ps.length := rv.length.trans hl
    have I := inv_start (CX := L2.CX P w) (cd := cdv) (E := E) Sc hr.room.hd e0 hv rv x
    refine wpAny_mono (body_call (hbody A outer s H E (hr.deeper _)) I sim r p) (fun fl s' hs => ?_) fun _ _ z => z
    cases fl with
    | ret u => exact hs
    | next => exact hs
    | brk => exact hs.elim
    | cont => exact hs.elim
theorem FnG.mono {j k : Nat} {fd : FuncData} {m : List W → S → R W} (F : FnG P w K mg base j f fd ps m) (h : j ≤ k) : FnG P w K mg base k f fd ps m :=
  fun A outer s H args us vs ws ad st Q E hr => F A outer s H args us vs ws ad st Q E (hr.mono h)
theorem FnP.mono {j k : Nat} {m : List W → S → R W} (F : FnP P w K mg base j f m) (h : j ≤ k) : FnP P w K mg base k f m :=
  fun A outer s H us vs ws ad st Q E hr => F A outer s H us vs ws ad st Q E (hr.mono h)
def mFill (n : Nat) (dws : List W) (m : List W → S → R W) : List W → S → R W := fun ws st => if ws.length = n then m (ws ++ dws) st else .bad
theorem FnG.pos {fd : FuncData} {m : List W → S → R W} {ds : List Value} {dvs : List V} {dws : List W} {n : Nat} (F : FnG P w K mg base k f fd ps m) (hb : Binds K fd ps ds) (hd : Vals dvs ds) (hw : ∀ ad H, RWs K ad H dws dvs) (hn : n + ds.length = ps.length) :
    FnP P w K mg base k f (mFill n dws m) := by
  intro A outer s H us vs ws ad st Q E hr e0 rv sim r p
  unfold mFill at p
  by_cases hl : ws.length = n
  · rw [if_pos hl] at p
    have KX : K.In s.heap := e0.mod.kin.keeps fun b o e => (e0.bs b o e).1
    have hlen : (us ++ ds).length = ps.length := by rw [List.length_append, ← rv.length, ← r.length, hl]; exact hn
    exact F A outer s H ⟨us, []⟩ (us ++ ds) (vs ++ dvs) (ws ++ dws) ad st Q E hr e0 (hb s us KX hlen) hlen (rv.append hd) sim (r.append (hw ad H)) p
  · rw [if_neg hl] at p
    exact p.elim
theorem FnP.or {m m' : List W → S → R W} (F : FnP P w K mg base k f m) (F' : FnP P w K mg base k f m') (c : List W → Bool) : FnP P w K mg base k f (fun ws st => if c ws then m ws st else m' ws st) := by
  intro A outer s H us vs ws ad st Q E hr e0 rv sim r p
  have p : PC K ad H Q E (if c ws = true then m ws st else m' ws st) := p
  by_cases hl : c ws = true
  · rw [if_pos hl] at p
    exact F A outer s H us vs ws ad st Q E hr e0 rv sim r p
  · rw [if_neg hl] at p
    exact F' A outer s H us vs ws ad st Q E hr e0 rv sim r p
end

section
variable {X : Cx} [Link X.K] {Wx : WX} {pos : Pos} {pins : List (Addr × Obj)} {s : Shared} {σ : L2.St} {H : Hp} {ad : List Addr} {env : Env} {st : S}
theorem run_p {k : Nat} {f : Addr} {m : List W → S → R W} {us : List Value} {vs : List V} {ws : List W} {Q : VK} (F : FnP X.prog X.w X.K X.mg X.base k f m) (hr : RoomG k X.A) (tk : Takes X Wx) (I : Inv X pins σ H s) (sim : Sim X.K ad env σ st H) (rv : Vals vs us) (r : RWs X.K ad H ws vs)
    (p : PW X.K Wx ad env σ H Q (m ws st)) : wpAny (model X.prog X.w) X.A (call (.ref f) us) (EP X pins σ Q) X.xe s := by
  refine wpAny_call (codeAny_mono (F X.A X.stack s H us vs ws ad st (fun v H' => Q v H') (fun cls d H' => Wx cls d σ H') hr I.env0 rv sim.st r ?_) fun res s' hq => ?_)
  · cases e : m ws st with
    | ok w st' => rw [e] at p; exact fun ad' H' v e1 s1 rw' => p ad' H' v e1 (sim.ext s1 e1) rw'
    | exc C fs st' => rw [e] at p; exact fun ad' H' cls d e1 s1 x => p ad' H' cls d e1 (sim.ext s1 e1) x
    | bad => rw [e] at p; exact p
  · cases res with
    | error e => exact tk e s' (XE.of_call I (fun cls d H' h => h) hq)
    | ok fl =>
      cases fl with
      | ret u => exact I.after hq
      | next => exact False.elim hq
      | brk => exact False.elim hq
      | cont => exact False.elim hq
variable {e : Expr} {es : List Expr} {n : MA} {p : Pos} {x : Str}
theorem se_call {k : Nat} {f : Addr} {m : List W → S → R W} (F : FnP X.prog X.w X.K X.mg X.base k f m) (hr : RoomG k X.A) (tk : Takes X Wx) (hg : Gl X x) (hm : X.mg x = some (.ref f)) (hk : PySem.W.keepIn X.K (.ref f) = true) (ha : PA X (e :: es) (tL X.K Wx n))
    (hdb : (x == ("__debug__" : Str)) = false := by decide) (he : starEach (e :: es) X.env = (false, eval e X.env) :: starEach es X.env := by rfl) (hpl : (backTo pos (starEach es X.env)).any (·.1) = false := by rfl) :
    PE X (.Call (.Name x p) (e :: es) [] pos) (tE X.K Wx (mN m n)) := by
  refine ⟨fun pins s σ H Q I ⟨ad, env, st, sim, q⟩ => ?_⟩
  refine wpAny_Call_Name_kw (ld_glob I hg hm ?_ hdb)
  refine PySem.W.callWith_K (h₀ := X.base) I.ok.mod.kin hk (run_bindL ha PW.excOk I sim q fun ws st1 vs us H1 ad1 s1 _ e1 s1' r rv I1 p1 => ⟨I1.kIn, ?_⟩) he hpl
  exact run_p F hr tk I1 s1' rv r (PW.ext p1 e1)
theorem se_call0 {k : Nat} {f : Addr} {m : List W → S → R W} (F : FnP X.prog X.w X.K X.mg X.base k f m) (hr : RoomG k X.A) (tk : Takes X Wx) (hg : Gl X x) (hm : X.mg x = some (.ref f)) (hk : PySem.W.keepIn X.K (.ref f) = true)
    (hdb : (x == ("__debug__" : Str)) = false := by decide) : PE X (.Call (.Name x p) [] [] pos) (tE X.K Wx (mN m mLNil)) := by
  refine ⟨fun pins s σ H Q I ⟨ad, env, st, sim, q⟩ => ?_⟩
  refine wpAny_Call_Name_kw (ld_glob I hg hm ?_ hdb)
  exact PySem.W.callWith_K0 I.kIn hk (run_p F hr tk I sim .nil .nil q)
theorem se_callB {id : String} {g : List W → S → R W} (L : LfN X Wx (.builtin id) g) (hg : Gl X x) (hm : X.mg x = none) (hv : bootBuiltins x = some (.builtin id)) (ha : PA X (e :: es) (tL X.K Wx n)) (hn : x ≠ "__name__" := by decide) (hdb : (x == ("__debug__" : Str)) = false := by decide)
    (he : starEach (e :: es) X.env = (false, eval e X.env) :: starEach es X.env := by rfl) (hpl : (backTo pos (starEach es X.env)).any (·.1) = false := by rfl) : PE X (.Call (.Name x p) (e :: es) [] pos) (tE X.K Wx (mN g n)) := by
  refine ⟨fun pins s σ H Q I ⟨ad, env, st, sim, q⟩ => ?_⟩
  refine wpAny_Call_Name_kw (ld_blt I hg hm hv ?_ hn hdb)
  refine PyProof.Rows.callWith_builtin1 (run_bindL ha PW.excOk I sim q fun ws st1 vs us H1 ad1 s1 _ e1 s1' r rv I1 p1 => ?_) he hpl
  exact L pins s1 σ H1 ad1 env st1 ws vs us Q I1 s1' r rv (PW.ext p1 e1)
theorem se_callTy {T : String} {g : List W → S → R W} (L : LfN X Wx (.type T) g) (hg : Gl X x) (hm : X.mg x = none) (hv : bootBuiltins x = some (.type T)) (ha : PA X (e :: es) (tL X.K Wx n)) (hn : x ≠ "__name__" := by decide) (hdb : (x == ("__debug__" : Str)) = false := by decide)
    (he : starEach (e :: es) X.env = (false, eval e X.env) :: starEach es X.env := by rfl) (hpl : (backTo pos (starEach es X.env)).any (·.1) = false := by rfl) : PE X (.Call (.Name x p) (e :: es) [] pos) (tE X.K Wx (mN g n)) := by
  refine ⟨fun pins s σ H Q I ⟨ad, env, st, sim, q⟩ => ?_⟩
  refine wpAny_Call_Name_kw (ld_blt I hg hm hv ?_ hn hdb)
  refine PyProof.Rows.callWith_type1 (run_bindL ha PW.excOk I sim q fun ws st1 vs us H1 ad1 s1 _ e1 s1' r rv I1 p1 => ?_) he hpl
  exact L pins s1 σ H1 ad1 env st1 ws vs us Q I1 s1' r rv (PW.ext p1 e1)
end
end MM

namespace MM
open PySem PySem.Spec PyProof.Rows L2

section
variable {K : PySem.W.Frag} [Link K] {Wx : WX} {ma mb : ME}
theorem op_imp {r : R2} {g : W → W → S → R W}
    (leaf : ∀ (σ : L2.St) (H : Hp) (ad : List Addr) (env : Env) (st : S) (w w' : W) (v v' : V) (Q : VK), Sim K ad env σ st H → RW K ad H w v → RW K ad H w' v' → PW K Wx ad env σ H Q (g w w' st) → r v v' H Q)
    {σ : L2.St} {H : Hp} {Q : VK} (h : tE K Wx (m2 g ma mb) σ H Q) : tOp r (tE K Wx ma) (tE K Wx mb) σ H Q := by
  obtain ⟨ad, env, st, sim, q⟩ := h
  refine tE_then sim (PW.ok' (st := st)) q fun w st1 v H1 ad1 e1 s1 r1 p => ?_
  refine tE_then s1 (PW.ok' (st := st)) (PW.ext p e1) fun w' st2 v' H2 ad2 e2 s2 r2 p2 => ?_
  exact leaf σ H2 ad2 env st2 w w' v v' Q s2 (r1.mono e2) r2 (PW.ext p2 e2)
end

section
variable {X : Cx} [Link X.K] {Wx : WX} {pos : Pos} {a b : Expr} {ma mb : ME}
def wAdd : W → W → S → R W
  | .int i, .int j, s => .ok (.int (i + j)) s
  | .str x, .str y, s => if x.length + y.length ≤ 1000000 then .ok (.str (x ++ y)) s else .bad
  | .ref n, .ref k, s => match lst? s n, lst? s k with
    | some xs, some ys => if xs.length + ys.length ≤ 1000000 then .ok (.ref s.sz) (s.add (.lst (xs ++ ys))) else .bad
    | _, _ => .bad
  | _, _, _ => .bad
theorem lst_ro {ad : List Addr} {st : S} {H : Hp} {n : Nat} {ws : List W} {p : Addr} (sim : Sim0 X.K ad st H) (e : lst? st n = some ws) (h : ad[n]? = some p) : ∃ vs, H p = some (.lst vs) ∧ RWs X.K ad H ws vs := sim.obj n _ p (lst_some e) h
theorem lf_add : Lf2 X Wx (binaryOp .Add) wAdd := by
  intro pins s σ H ad env st w w' v v' u u' Q I sim r r' q q' p
  cases r with
  | int i =>
    cases r' with
    | int j => exact op_add pins s σ H _ _ u u' Q I q q' ⟨i, j, rfl, rfl, p ad H _ .refl sim (.int _)⟩
    | _ => exact p.elim
  | str x =>
    cases r' with
    | str y =>
      by_cases hl : x.length + y.length ≤ 1000000
      · simp only [wAdd, if_pos hl] at p
        exact op_add_str pins s σ H _ _ u u' Q I q q' ⟨x, y, rfl, rfl, line_of hl, p ad H _ .refl sim (.str _)⟩
      · simp only [wAdd, if_neg hl] at p
        exact p.elim
    | _ => exact p.elim
  | @ref n a ha =>
    cases r' with
    | @ref k b hb =>
      simp only [wAdd] at p
      cases e1 : lst? st n with
      | none => simp only [e1] at p; exact p.elim
      | some xs =>
        cases e2 : lst? st k with
        | none => simp only [e1, e2] at p; exact p.elim
        | some ys =>
          simp only [e1, e2] at p
          by_cases hl : xs.length + ys.length ≤ 1000000
          · simp only [if_pos hl] at p
            obtain ⟨vs, h1, r1⟩ := lst_ro sim.st e1 ha
            obtain ⟨zs, h2, r2⟩ := lst_ro sim.st e2 hb
            refine op_cat pins s σ H _ _ u u' Q I q q' ⟨a, b, vs, zs, rfl, rfl, h1, h2, by rw [← r1.length, ← r2.length]; exact line_of hl, fun c hc => ?_⟩
            obtain ⟨e3, s3, r3⟩ := sim_newLst sim hc (r1.append r2)
            exact p _ _ _ e3 s3 r3
          · simp only [if_neg hl] at p
            exact p.elim
    | _ => exact p.elim
  | _ => cases r' <;> exact p.elim
def wSub : W → W → S → R W
  | .int i, .int j, s => .ok (.int (i - j)) s
  | _, _, _ => .bad
theorem lf_sub : Lf2 X Wx (binaryOp .Sub) wSub := by
  refine Lf2.of op_sub fun σ H ad env st w w' v v' Q sim r r' p => ?_
  cases r with
  | int i =>
    cases r' with
    | int j => exact ⟨i, j, rfl, rfl, p ad H _ .refl sim (.int _)⟩
    | _ => exact p.elim
  | _ => cases r' <;> exact p.elim
def facW (i : Int) : Bool := decide (-(2 ^ 64) < i) && decide (i < 2 ^ 64)
def wMul : W → W → S → R W
  | .int i, .int j, s => if facW i || facW j then .ok (.int (i * j)) s else .bad
  | .ref n, .int k, s => match lst? s n with
    | some xs => if -(2 ^ 63) ≤ k ∧ k < 2 ^ 63 ∧ xs.length * k.toNat ≤ 1000000 then .ok (.ref s.sz) (s.add (.lst (List.replicate k.toNat xs).flatten)) else .bad
    | none => .bad
  | _, _, _ => .bad
theorem facW_ok {i : Int} (h : facW i = true) : -(2 ^ 64) < i ∧ i < 2 ^ 64 := by
  unfold facW at h
  simpa using h
theorem RWs.rep {ad : List Addr} {H : Hp} {ws : List W} {vs : List V} (r : RWs X.K ad H ws vs) : ∀ k : Nat, RWs X.K ad H (List.replicate k ws).flatten (List.replicate k vs).flatten
  | 0 => .nil
  | k + 1 => by
    rw [List.replicate_succ, List.replicate_succ, List.flatten_cons, List.flatten_cons]
    exact r.append (RWs.rep r k)
theorem lf_mul : Lf2 X Wx (binaryOp .Mult) wMul := by
  intro pins s σ H ad env st w w' v v' u u' Q I sim r r' q q' p
  cases r with
  | int i =>
    cases r' with
    | int j =>
      by_cases hf : (facW i || facW j) = true
      · simp only [wMul, if_pos hf] at p
        refine op_mul pins s σ H _ _ u u' Q I q q' ⟨i, j, rfl, rfl, ?_, p ad H _ .refl sim (.int _)⟩
        rcases (Bool.or_eq_true_iff.mp hf) with h | h
        · exact .inl (facW_ok h)
        · exact .inr (facW_ok h)
      · simp only [wMul, if_neg hf] at p
        exact p.elim
    | _ => exact p.elim
  | @ref n a ha =>
    cases r' with
    | int k =>
      simp only [wMul] at p
      cases e1 : lst? st n with
      | none => simp only [e1] at p; exact p.elim
      | some xs =>
        simp only [e1] at p
        by_cases hl : -(2 ^ 63) ≤ k ∧ k < 2 ^ 63 ∧ xs.length * k.toNat ≤ 1000000
        · simp only [if_pos hl] at p
          obtain ⟨vs, h1, r1⟩ := lst_ro sim.st e1 ha
          refine op_rep pins s σ H _ _ u u' Q I q q' ⟨a, k, vs, rfl, rfl, h1, hl.1, hl.2.1, by rw [← r1.length]; exact line_of hl.2.2, fun c hc => ?_⟩
          obtain ⟨e3, s3, r3⟩ := sim_newLst sim hc (RWs.rep r1 k.toNat)
          exact p _ _ _ e3 s3 r3
        · simp only [if_neg hl] at p
          exact p.elim
    | _ => exact p.elim
  | _ => cases r' <;> exact p.elim
def wMod : W → W → S → R W
  | .int i, .int j, s => if j ≠ 0 then .ok (.int (i.fmod j)) s else .bad
  | _, _, _ => .bad
theorem lf_mod : Lf2 X Wx (binaryOp .Mod) wMod := by
  refine Lf2.of op_modN fun σ H ad env st w w' v v' Q sim r r' p => ?_
  cases r with
  | int i =>
    cases r' with
    | int j =>
      by_cases hj : j ≠ 0
      · simp only [wMod, if_pos hj] at p
        exact ⟨i, j, rfl, rfl, hj, p ad H _ .refl sim (.int _)⟩
      · simp only [wMod, if_neg hj] at p
        exact p.elim
    | _ => exact p.elim
  | _ => cases r' <;> exact p.elim
def wDiv : W → W → S → R W
  | .int i, .int j, s => if j ≠ 0 ∧ j.natAbs < 1073741824 then .ok (.int (i.fdiv j)) s else .bad
  | _, _, _ => .bad
theorem lf_div : Lf2 X Wx (binaryOp .FloorDiv) wDiv := by
  refine Lf2.of op_fdivN fun σ H ad env st w w' v v' Q sim r r' p => ?_
  cases r with
  | int i =>
    cases r' with
    | int j =>
      by_cases hj : j ≠ 0 ∧ j.natAbs < 1073741824
      · simp only [wDiv, if_pos hj] at p
        exact ⟨i, j, rfl, rfl, hj, p ad H _ .refl sim (.int _)⟩
      · simp only [wDiv, if_neg hj] at p
        exact p.elim
    | _ => exact p.elim
  | _ => cases r' <;> exact p.elim
def wPow : W → W → S → R W
  | .int i, .int j, s => if 0 ≤ j ∧ j ≤ 1000000 ∧ i.natAbs < 2 ^ 64 then .ok (.int (i ^ j.toNat)) s else .bad
  | _, _, _ => .bad
theorem lf_pow : Lf2 X Wx (binaryOp .Pow) wPow := by
  refine Lf2.of op_pow fun σ H ad env st w w' v v' Q sim r r' p => ?_
  cases r with
  | int i =>
    cases r' with
    | int j =>
      by_cases hj : 0 ≤ j ∧ j ≤ 1000000 ∧ i.natAbs < 2 ^ 64
      · simp only [wPow, if_pos hj] at p
        exact ⟨i, j, rfl, rfl, hj, p ad H _ .refl sim (.int _)⟩
      · simp only [wPow, if_neg hj] at p
        exact p.elim
    | _ => exact p.elim
  | _ => cases r' <;> exact p.elim
def wNeg : W → S → R W
  | .int i, s => .ok (.int (-i)) s
  | _, _ => .bad
theorem lf_neg : Lf1 X Wx (unaryOp .USub) wNeg := by
  intro pins s σ H ad env st w v u Q I sim r q p
  cases r with
  | int i => exact un_neg pins s σ H _ u Q I q ⟨i, rfl, p ad H _ .refl sim (.int _)⟩
  | _ => exact p.elim
def wCmp (f : Int → Int → Bool) : W → W → S → R W
  | .int i, .int j, s => .ok (.bl (f i j)) s
  | _, _, _ => .bad
theorem lf_cmpI {op : CmpOp} {f : Int → Int → Bool} (ho : OpR X (compareOp op) (rI0 fun i j => .bl (f i j))) : Lf2 X Wx (compareOp op) (wCmp f) := by
  refine Lf2.of ho fun σ H ad env st w w' v v' Q sim r r' p => ?_
  cases r with
  | int i =>
    cases r' with
    | int j => exact ⟨i, j, rfl, rfl, p ad H _ .refl sim (.bl _)⟩
    | _ => exact p.elim
  | _ => cases r' <;> exact p.elim
def wLt := wCmp fun i j => decide (i < j)
def wLe := wCmp fun i j => decide (i ≤ j)
def wGt := wCmp fun i j => decide (j < i)
def wGe := wCmp fun i j => decide (j ≤ i)
theorem lf_lt : Lf2 X Wx (compareOp .Lt) wLt := lf_cmpI op_lt
theorem lf_le : Lf2 X Wx (compareOp .LtE) wLe := lf_cmpI op_le
theorem lf_gt : Lf2 X Wx (compareOp .Gt) wGt := lf_cmpI op_gt
theorem lf_ge : Lf2 X Wx (compareOp .GtE) wGe := lf_cmpI op_ge
def isNone : W → Bool
  | .non => true
  | _ => false
def wIsN : W → W → S → R W
  | w, .non, s => .ok (.bl (isNone w)) s
  | _, _, _ => .bad
def wNotN : W → W → S → R W
  | w, .non, s => .ok (.bl (!isNone w)) s
  | _, _, _ => .bad
theorem isNone_eq {ad : List Addr} {H : Hp} {w : W} {v : V} (r : RW X.K ad H w v) : isNone w = decide (v = .non) := by
  cases r <;> simp [isNone]
theorem lf_isN : Lf2 X Wx (compareOp .Is) wIsN := by
  refine Lf2.of op_isN fun σ H ad env st w w' v v' Q sim r r' p => ?_
  cases r' with
  | non =>
    refine ⟨rfl, ?_⟩
    rw [← isNone_eq r]
    have p : PW X.K Wx ad env σ H Q (.ok (.bl (isNone w)) st) := by cases w <;> exact p
    exact p ad H _ .refl sim (.bl _)
  | _ => cases w <;> exact p.elim
theorem lf_notN : Lf2 X Wx (compareOp .IsNot) wNotN := by
  refine Lf2.of op_notN fun σ H ad env st w w' v v' Q sim r r' p => ?_
  cases r' with
  | non =>
    refine ⟨rfl, ?_⟩
    rw [← isNone_eq r]
    have p : PW X.K Wx ad env σ H Q (.ok (.bl (!isNone w)) st) := by cases w <;> exact p
    exact p ad H _ .refl sim (.bl _)
  | _ => cases w <;> exact p.elim
def mChain (g g' : W → W → S → R W) (ma mb mc : ME) : ME := fun env st => (ma env st).bind fun x s1 => (mb env s1).bind fun y s2 => (g x y s2).bind fun z s3 => match z with
  | .bl true => (mc env s3).bind fun w s4 => g' y w s4
  | .bl false => .ok (.bl false) s3
  | _ => .bad

def ixW : W → W → S → R W
  | .tup ws, .int i, s => match atI ws i with
    | some w => .ok w s
    | none => .bad
  | .ref n, .int i, s => match lst? s n with
    | some ws => match atI ws i with
      | some w => .ok w s
      | none => .bad
    | none => .bad
  | .str x, .int i, s => if x.length ≤ 1000000 then match atI x.cps.toList i with
      | some c => .ok (.str ⟨#[c]⟩) s
      | none => .bad
    else .bad
  | _, _, _ => .bad
theorem atI_rw {ad : List Addr} {H : Hp} {ws : List W} {vs : List V} {i : Int} {w : W} (r : RWs X.K ad H ws vs) (h : atI ws i = some w) : ∃ v, atI vs i = some v ∧ RW X.K ad H w v := by
  unfold atI at h ⊢
  rw [← r.length]
  cases e : ixN ws.length i with
  | none => rw [e] at h; cases h
  | some j =>
    rw [e] at h
    obtain ⟨v, h1, h2⟩ := r.get (show ws[j]? = some w from h)
    exact ⟨v, h1, h2⟩
theorem se_ix (ha : PE X a (tE X.K Wx ma)) (hb : PE X b (tE X.K Wx mb)) (hs : PlainIx b := by exact fun _ _ => rfl) : PE X (.Subscript a b pos) (tE X.K Wx (m2 ixW ma mb)) := by
  refine (pe_ix ix_seq ha hb hs).imp fun σ H Q h => op_imp (fun σ H ad env st w w' v v' Q sim r r' p => ?_) h
  cases r' with
  | int i =>
    cases r with
    | @tup ws p0 vs hq rs =>
      simp only [ixW] at p
      cases e : atI ws i with
      | none => simp only [e] at p; exact p.elim
      | some w =>
        simp only [e] at p
        obtain ⟨v, h1, h2⟩ := atI_rw rs e
        exact .inr (.inl ⟨p0, vs, i, v, rfl, rfl, hq, h1, p ad H v .refl sim h2⟩)
    | @ref n p0 hp =>
      simp only [ixW] at p
      cases el : lst? st n with
      | none => simp only [el] at p; exact p.elim
      | some ws =>
        simp only [el] at p
        obtain ⟨vs, hv, rs⟩ := lst_ro sim.st el hp
        cases e : atI ws i with
        | none => simp only [e] at p; exact p.elim
        | some w =>
          simp only [e] at p
          obtain ⟨v, h1, h2⟩ := atI_rw rs e
          exact .inl ⟨p0, vs, i, v, rfl, rfl, .of hv, h1, p ad H v .refl sim h2⟩
    | str x =>
      simp only [ixW] at p
      by_cases hl : x.length ≤ 1000000
      · simp only [if_pos hl] at p
        cases e : atI x.cps.toList i with
        | none => simp only [e] at p; exact p.elim
        | some c =>
          simp only [e] at p
          exact .inr (.inr ⟨x, i, c, rfl, rfl, line_of hl, e, p ad H _ .refl sim (.str _)⟩)
      · simp only [if_neg hl] at p
        exact p.elim
    | _ => exact p.elim
  | _ => cases w <;> exact p.elim

abbrev MO := Env → S → R (Option Int)
def tOp' (K : PySem.W.Frag) [Link K] (Wx : WX) (m : MO) : TO := fun σ H Q => ∃ ad env st, Sim K ad env σ st H ∧ match m env st with
  | .ok o st' => ∀ ad' H', Ext K ad H ad' H' → Sim K ad' env σ st' H' → Q o H'
  | .exc C fs st' => ∀ ad' H' cls d, Ext K ad H ad' H' → Sim K ad' env σ st' H' → XR K ad' H' C fs cls d → Wx cls d σ H'
  | .bad => False
def mONo : MO := fun _ st => .ok none st
def mOSo (m : ME) : MO := fun env st => (m env st).bind fun w s => match w with
  | .int i => .ok (some i) s
  | _ => .bad
theorem _root_.L2.PO.imp {X : Cx} [Link X.K] {e : Option Expr} {t t' : TO} (h : PO X e t) (i : ∀ σ H Q, t' σ H Q → t σ H Q) : PO X e t' := ⟨fun pins s σ H Q I q => h.run pins s σ H Q I (i σ H Q q)⟩
theorem so_none : PO X none (tOp' X.K Wx mONo) := L2.PO.imp po_none fun σ H Q ⟨ad, env, st, sim, q⟩ => q ad H .refl sim
theorem so_some (h : PE X a (tE X.K Wx ma)) : PO X (some a) (tOp' X.K Wx (mOSo ma)) := by
  refine L2.PO.imp (po_some h) fun σ H Q ⟨ad, env, st, sim, q⟩ => ⟨ad, env, st, sim, ?_⟩
  unfold mOSo at q
  cases e : ma env st with
  | bad => rw [e] at q; exact q
  | exc C fs st' => rw [e] at q; exact q
  | ok w st' =>
    rw [e] at q
    intro ad1 H1 v e1 s1 r
    cases r with
    | int i => exact ⟨i, rfl, q ad1 H1 e1 s1⟩
    | _ => exact q.elim
def cutW (ws : List W) (lo hi : Option Int) : List W := (ws.drop (HT.sIx ws.length 0 lo)).take (HT.sIx ws.length ws.length hi - HT.sIx ws.length 0 lo)
def wSl : W → Option Int → Option Int → S → R W
  | .tup ws, lo, hi, s => .ok (.tup (cutW ws lo hi)) s
  | .frz ws, lo, hi, s => .ok (.ref s.sz) (s.add (.lst (cutW ws lo hi)))
  | .ref n, lo, hi, s => match lst? s n with
    | some ws => .ok (.ref s.sz) (s.add (.lst (cutW ws lo hi)))
    | none => .bad
  | .str x, lo, hi, s => if x.length ≤ 1000000 then .ok (.str (cutS x lo hi)) s else .bad
  | _, _, _, _ => .bad
def mSl (m : ME) (lo hi : MO) : ME := fun env st => (m env st).bind fun w s1 => (lo env s1).bind fun l s2 => (hi env s2).bind fun h s3 => wSl w l h s3
theorem RWs.cut {ad : List Addr} {H : Hp} {ws : List W} {vs : List V} (r : RWs X.K ad H ws vs) (lo hi : Option Int) : RWs X.K ad H (cutW ws lo hi) (cutV vs lo hi) := by
  unfold cutW cutV
  rw [r.length]
  exact (r.drop _).take _
def rSlW (K : PySem.W.Frag) : V → Option Int → Option Int → Hp → VK → Prop := fun x lo hi H Q => ∃ a xs, x = .ref a ∧ SqT K H a xs ∧
  (HT.sIx xs.length 0 lo = 0 ∧ HT.sIx xs.length xs.length hi = xs.length) ∧ Q (.ref a) H
theorem FrzL.sq {K : PySem.W.Frag} [Link K] {H : Hp} {a : Addr} {vs : List V} (h : FrzL K H a vs) : SqL K H a vs := by
  rcases h with ⟨o, h⟩ | h
  · exact .inl (.inr ⟨o, h⟩)
  · exact .inr h
theorem se_slice {lo hi : Option Expr} {mlo mhi : MO} {p2 : Pos} (he : PE X a (tE X.K Wx ma)) (hl : PO X lo (tOp' X.K Wx mlo)) (hu : PO X hi (tOp' X.K Wx mhi)) (hwhole : SlR X (rSlW X.K)) :
    PE X (.Subscript a (.Slice lo hi none p2) pos) (tE X.K Wx (mSl ma mlo mhi)) := by
  refine (pe_slice ((sl_list.or (sl_str)).or (sl_tup.or hwhole)) he hl hu).imp fun σ H Q ⟨ad, env, st, sim, q⟩ => ?_
  refine tE_then sim (PW.ok' (st := st)) q fun w st1 v H1 ad1 e1 s1 r p => ?_
  refine ⟨ad1, env, st1, s1, ?_⟩
  have p := PW.ext p e1
  cases el : mlo env st1 with
  | bad => rw [el] at p; exact p
  | exc C fs st' => rw [el] at p; exact p
  | ok l st2 =>
    rw [el] at p
    intro ad2 H2 e2 s2
    refine ⟨ad2, env, st2, s2, ?_⟩
    have p : PW X.K Wx ad1 env σ H1 Q ((mhi env st2).bind fun h s3 => wSl w l h s3) := p
    have p := PW.ext p e2
    cases eh : mhi env st2 with
    | bad => rw [eh] at p; exact p
    | exc C fs st' => rw [eh] at p; exact p
    | ok h st3 =>
      rw [eh] at p
      intro ad3 H3 e3 s3
      have p : PW X.K Wx ad2 env σ H2 Q (wSl w l h st3) := p
      have p := PW.ext p e3
      have r3 := (r.mono e2).mono e3
      cases r3 with
      | @tup ws p0 vs hq rs =>
        by_cases hw : HT.sIx vs.length 0 l = 0 ∧ HT.sIx vs.length vs.length h = vs.length
        · refine .inr (.inr ⟨p0, vs, rfl, hq, hw, p ad3 H3 _ .refl s3 (.tup hq ?_)⟩)
          have e : cutW ws l h = ws := by
            unfold cutW
            rw [rs.length, hw.1, hw.2, List.drop_zero, Nat.sub_zero, ← rs.length, List.take_length]
          rw [e]
          exact rs
        · refine .inr (.inl ⟨p0, vs, rfl, hq, hw, fun c hc => ?_⟩)
          have e4 : Ext X.K ad3 H3 ad3 (upd H3 c (.tup (cutV vs l h))) := ext_keep (up_keep hc)
          exact p ad3 _ _ e4 (s3.ext (s3.st.keep (up_keep hc)) e4) (.tup (.of upd_same) ((rs.cut l h).mono e4))
      | @frz ws p0 vs hq rs =>
        refine .inl (.inl ⟨p0, vs, rfl, hq.sq, fun c hc => ?_⟩)
        obtain ⟨e4, s4, r4⟩ := sim_newLst s3 hc (rs.cut l h)
        exact p _ _ _ e4 s4 r4
      | @ref n p0 hp =>
        simp only [wSl] at p
        cases ew : lst? st3 n with
        | none => simp only [ew] at p; exact p.elim
        | some ws =>
          simp only [ew] at p
          obtain ⟨vs, hv, rs⟩ := lst_ro s3.st ew hp
          refine .inl (.inl ⟨p0, vs, rfl, .of hv, fun c hc => ?_⟩)
          obtain ⟨e4, s4, r4⟩ := sim_newLst s3 hc (rs.cut l h)
          exact p _ _ _ e4 s4 r4
      | str x =>
        simp only [wSl] at p
        by_cases hz : x.length ≤ 1000000
        · simp only [if_pos hz] at p
          exact .inl (.inr ⟨x, rfl, line_of hz, p ad3 H3 _ .refl s3 (.str _)⟩)
        · simp only [if_neg hz] at p
          exact p.elim
      | _ => exact p.elim

def getF (Cs : List Addr) (f : Str) : W → S → R W
  | .ref n, s => match s.get n with
    | some (.ins C fs) => if C ∈ Cs then match fs.lookup f with
        | some w => .ok w s
        | none => .bad
      else .bad
    | _ => .bad
  | _, _ => .bad
theorem rfs_lookup {K : PySem.W.Frag} [Link K] {ad : List Addr} {H : Hp} {fs : List (Str × W)} {fvs : List (Str × V)} (r : RFs K ad H fs fvs) {f : Str} {w : W} (h : fs.lookup f = some w) : ∃ v, fvs.lookup f = some v ∧ RW K ad H w v := by
  induction r with
  | nil => cases h
  | @cons g w' fs v fvs r rs ih =>
    by_cases e : (f == g) = true
    · simp only [List.lookup, e] at h ⊢
      cases h
      exact ⟨v, rfl, r⟩
    · have e : (f == g) = false := by simpa using e
      simp only [List.lookup, e] at h ⊢
      exact ih h
theorem rfs_none {K : PySem.W.Frag} [Link K] {ad : List Addr} {H : Hp} {fs : List (Str × W)} {fvs : List (Str × V)} (r : RFs K ad H fs fvs) {f : Str} (h : fs.lookup f = none) : fvs.lookup f = none := by
  induction r with
  | nil => rfl
  | @cons g w' fs v fvs r rs ih =>
    by_cases e : (f == g) = true
    · simp only [List.lookup, e] at h
      cases h
    · have e : (f == g) = false := by simpa using e
      simp only [List.lookup, e] at h ⊢
      exact ih h
def putW (f : Str) (w : W) : List (Str × W) → List (Str × W)
  | [] => [(f, w)]
  | (g, x) :: r => if g = f then (g, w) :: r else (g, x) :: putW f w r
theorem rfs_put {K : PySem.W.Frag} [Link K] {ad : List Addr} {H : Hp} {fs : List (Str × W)} {fvs : List (Str × V)} (r : RFs K ad H fs fvs) {f : Str} {w : W} {v : V} (h : RW K ad H w v) : RFs K ad H (putW f w fs) (putF f v fvs) := by
  induction r with
  | nil => exact .cons h .nil
  | @cons g w' fs v' fvs r rs ih =>
    unfold putW putF
    by_cases e : g = f
    · rw [if_pos e, if_pos e]
      exact .cons h rs
    · rw [if_neg e, if_neg e]
      exact .cons r ih
theorem rfs_len {K : PySem.W.Frag} [Link K] {ad : List Addr} {H : Hp} {κ : Type} {fs : List (κ × W)} {fvs : List (κ × V)} (r : RFs K ad H fs fvs) : fs.length = fvs.length := by
  induction r with
  | nil => rfl
  | cons _ _ ih => rw [List.length_cons, List.length_cons, ih]
def FldT (K : PySem.W.Frag) (Cs : List Addr) (f : Str) : Prop := ∀ C ∈ Cs, Cls K C ∧ NoAttr K C f
theorem se_fld {Cs : List Addr} {f : Str} (T : FldT X.K Cs f) (he : PE X a (tE X.K Wx ma)) (hb : attributeBase a f X.env (eval a X.env) = eval a X.env := by rfl) : PE X (.Attribute a f pos) (tE X.K Wx (m1 (getF Cs f) ma)) := by
  refine (pe_fld he hb).imp fun σ H Q ⟨ad, env, st, sim, q⟩ => ?_
  refine tE_then sim (PW.ok' (st := st)) q fun w st1 v H1 ad1 e1 s1 r p => ?_
  cases r with
  | @ref n p0 hp =>
    simp only [getF] at p
    cases eg : st1.get n with
    | none => simp only [eg] at p; exact p.elim
    | some o =>
      cases o with
      | ins C fs =>
        simp only [eg] at p
        by_cases hC : C ∈ Cs
        · simp only [if_pos hC] at p
          cases ef : fs.lookup f with
          | none => simp only [ef] at p; exact p.elim
          | some w =>
            simp only [ef] at p
            obtain ⟨dx, fvs, h1, h2⟩ : ∃ dx fvs, H1 p0 = some (.ins C dx fvs) ∧ RFs X.K ad1 H1 fs fvs := s1.st.obj n _ p0 eg hp
            obtain ⟨v, h3, h4⟩ := rfs_lookup h2 ef
            exact ⟨p0, C, dx, fvs, v, rfl, h1, (T C hC).1, (T C hC).2, h3, p ad1 H1 v e1 s1 h4⟩
        · simp only [if_neg hC] at p
          exact p.elim
      | _ => simp only [eg] at p; exact p.elim
  | _ => exact p.elim
def mSetF (Cs : List Addr) (f : Str) (mv mo : ME) : MS := fun env st => (mv env st).toS env fun w s1 => (mo env s1).toS env fun o s2 => match o with
  | .ref n => match s2.get n with
    | some (.ins C fs) => if C ∈ Cs then if fs.length < 1000 then .nx env (s2.put n (.ins C (putW f w fs))) else .bad else .bad
    | _ => .bad
  | _ => .bad
theorem sp_fld {Cs : List Addr} {f : Str} {p' : Pos} (T : FldT X.K Cs f) (ho : PE X b (tE X.K Wx mb)) (hv : PE X a (tE X.K Wx ma)) (hs : swapsWith a (some (.Attribute b f p')) pos.line X.env = pure false := by rfl) :
    PS X (.Assign [.Attribute b f p'] a pos) (tS X.K Wx (mSetF Cs f ma mb)) := by
  refine L2.PS.imp (ps_fld ho hv hs) fun D σ H ⟨ad, env, st, sim, q⟩ => ?_
  refine tE_thenS sim q fun w st1 v H1 ad1 e1 s1 r p => ?_
  refine tE_thenS s1 (PSt.ext p e1) fun o st2 v2 H2 ad2 e2 s2 r2 p2 => ?_
  cases r2 with
  | @ref n p0 hp =>
    simp only at p2
    cases eg : st2.get n with
    | none => simp only [eg] at p2; exact p2.elim
    | some ob =>
      cases ob with
      | ins C fs =>
        simp only [eg] at p2
        by_cases hC : C ∈ Cs
        · simp only [if_pos hC] at p2
          by_cases hl : fs.length < 1000
          · simp only [if_pos hl] at p2
            obtain ⟨dx, fvs, h1, h2⟩ : ∃ dx fvs, H2 p0 = some (.ins C dx fvs) ∧ RFs X.K ad2 H2 fs fvs := s2.st.obj n _ p0 eg hp
            refine ⟨p0, C, dx, fvs, rfl, h1, (T C hC).1, (T C hC).2, by rw [← rfs_len h2]; exact hl, ?_⟩
            have kk : ∀ b z, b ≠ p0 → H2 b = some z → upd H2 p0 (.ins C dx (putF f v fvs)) b = some z := fun b z hb h => by rw [upd_ne hb]; exact h
            have e3 : Ext X.K ad2 H2 ad2 (upd H2 p0 (.ins C dx (putF f v fvs))) := ext_put h1 (.inr (.inr ⟨_, _, _, rfl⟩)) kk
            have ro : RO X.K ad2 (upd H2 p0 (.ins C dx (putF f v fvs))) (.ins C (putW f w fs)) p0 := ⟨dx, _, upd_same, (rfs_put h2 (r.mono e2)).mono e3⟩
            exact p2 ad2 _ σ (e2.trans e3) (s2.ext (s2.st.wr hp h1 (.inr (.inr ⟨_, _, _, rfl⟩)) kk ro) e3)
          · simp only [if_neg hl] at p2
            exact p2.elim
        · simp only [if_neg hC] at p2
          exact p2.elim
      | _ => simp only [eg] at p2; exact p2.elim
  | _ => exact p2.elim
end
end MM

namespace MM
open PySem PySem.Spec PyProof.Rows L2

def permL {α : Type} (p : List Nat) (xs : List α) : List α := p.filterMap fun i => xs[i]?
theorem RWs.perm {K : PySem.W.Frag} [Link K] {ad : List Addr} {H : Hp} {ws : List W} {vs : List V} (r : RWs K ad H ws vs) : ∀ p : List Nat, RWs K ad H (permL p ws) (permL p vs)
  | [] => .nil
  | i :: p => by
    unfold permL
    cases e : ws[i]? with
    | none =>
      have : vs[i]? = none := by rw [List.getElem?_eq_none_iff] at e ⊢; rw [← r.length]; exact e
      rw [List.filterMap_cons_none e, List.filterMap_cons_none this]
      exact RWs.perm r p
    | some w =>
      obtain ⟨v, h1, h2⟩ := r.get e
      rw [List.filterMap_cons_some e, List.filterMap_cons_some h1]
      exact .cons h2 (RWs.perm r p)
theorem vals_perm {vs : List V} {us : List Value} (r : Vals vs us) : ∀ p : List Nat, Vals (permL p vs) (permL p us)
  | [] => .nil
  | i :: p => by
    unfold permL
    cases e : vs[i]? with
    | none =>
      have : us[i]? = none := by rw [List.getElem?_eq_none_iff] at e ⊢; rw [← r.length]; exact e
      rw [List.filterMap_cons_none e, List.filterMap_cons_none this]
      exact vals_perm r p
    | some w =>
      obtain ⟨v, h1, h2⟩ := r.get e
      rw [List.filterMap_cons_some e, List.filterMap_cons_some h1]
      exact .cons h2 (vals_perm r p)
def KB (K : PySem.W.Frag) (fd : FuncData) (ps : List Str) (n : Nat) (ks : List Str) (p : List Nat) : Prop :=
  p.length = ps.length ∧ (∀ i ∈ p, i < n + ks.length) ∧ ∀ (s : Shared) (us ws : List Value), K.In s.heap → us.length = n → ws.length = ks.length → BindsTo s fd ⟨us, ks.zip ws⟩ (ps.zip (permL p (us ++ ws)))
theorem permL_len {α : Type} {xs : List α} : ∀ {p : List Nat}, (∀ i ∈ p, i < xs.length) → (permL p xs).length = p.length
  | [], _ => rfl
  | i :: p, h => by
    have hi := h i List.mem_cons_self
    unfold permL
    rw [List.filterMap_cons_some (List.getElem?_eq_getElem hi), List.length_cons, List.length_cons]
    exact congrArg Nat.succ (permL_len fun j hj => h j (List.mem_cons_of_mem _ hj))

section
variable {X : Cx} [Link X.K] {Wx : WX} {pos : Pos} {pins : List (Addr × Obj)} {s : Shared} {σ : L2.St} {H : Hp} {ad : List Addr} {env : Env} {st : S}
theorem lfn_fn {k : Nat} {f : Addr} {m : List W → S → R W} (F : FnP X.prog X.w X.K X.mg X.base k f m) (hr : RoomG k X.A) (tk : Takes X Wx) : LfN X Wx (.ref f) m :=
  fun pins s σ H ad env st ws vs us Q I sim r rv p => run_p F hr tk I sim rv r p
def mMake (C : Addr) (m : List W → S → R W) : List W → S → R W := fun ws st => (m (.ref st.sz :: ws) (st.add (.ins C []))).bind fun w s => match w with
  | .non => .ok (.ref st.sz) s
  | _ => .bad
theorem sim_made {K : PySem.W.Frag} [Link K] {ad : List Addr} {st : S} {H : Hp} {x dx C : Addr} (sim : Sim0 K ad st H) (hx : H x = none) (hd : H dx = none) (ne : dx ≠ x) :
    Ext K ad H (ad ++ [x]) (upd (upd H dx (.own x)) x (.ins C dx [])) ∧ Sim0 K (ad ++ [x]) (st.add (.ins C [])) (upd (upd H dx (.own x)) x (.ins C dx [])) ∧ RW K (ad ++ [x]) (upd (upd H dx (.own x)) x (.ins C dx [])) (.ref st.sz) (.ref x) := by
  have kk : ∀ b u, H b = some u → upd (upd H dx (.own x)) x (.ins C dx []) b = some u := fun b u h => by
    rw [upd_ne (ne_of_none h hx), upd_ne (ne_of_none h hd)]
    exact h
  have e : Ext K ad H (ad ++ [x]) (upd (upd H dx (.own x)) x (.ins C dx [])) := ext_new kk
  refine ⟨e, sim.new hx kk ⟨dx, [], upd_same, .nil⟩ e, .ref ?_⟩
  rw [← sim.len, List.getElem?_append_right (Nat.le_refl _), Nat.sub_self]
  rfl
theorem make_post {K : PySem.W.Frag} [Link K] {H H0 : Hp} {ad ad0 : List Addr} {env : Env} {σ : L2.St} {Q : VK} {m : List W → S → R W} {ws : List W} {st st0 : S} {x : Addr} (sim : Sim K ad env σ st H) (e : Ext K ad H ad0 H0) (r2 : RW K ad0 H0 (.ref st.sz) (.ref x))
    (p : PW K Wx ad env σ H Q ((m (.ref st.sz :: ws) st0).bind fun w s => match w with
      | .non => .ok (.ref st.sz) s
      | _ => .bad)) : PC K ad0 H0 (fun v H2 => v = .non ∧ Q (.ref x) H2) (fun cls d H' => Wx cls d σ H') (m (.ref st.sz :: ws) st0) := by
  cases q : m (.ref st.sz :: ws) st0 with
  | bad => rw [q] at p; exact p
  | exc C' fs st' =>
    rw [q] at p
    exact fun ad' H' cls d e1 s1 xr => p ad' H' cls d (e.trans e1) (sim.ext s1 (e.trans e1)) xr
  | ok w st' =>
    rw [q] at p
    intro ad' H' v e1 s1 r
    cases r with
    | non => exact ⟨rfl, p ad' H' _ (e.trans e1) (sim.ext s1 (e.trans e1)) (r2.mono e1)⟩
    | _ => exact p.elim
theorem lfn_make {k : Nat} {C f : Addr} {m : List W → S → R W} (M : Mk X.K C f) (F : FnP X.prog X.w X.K X.mg X.base k f m) (hr : RoomG (k + 1) X.A) (tk : Takes X Wx) : LfN X Wx (.ref C) (mMake C m) := by
  intro pins s σ H ad env st ws vs us Q I sim r rv p
  have hx : H (s.heap.objs.size + 1) = none := I.hok.fresh (Nat.le_succ _)
  have hd : H s.heap.objs.size = none := I.hok.fresh (Nat.le_refl _)
  obtain ⟨e, s0, r2⟩ := sim_made (C := C) sim.st hx hd (Nat.ne_of_lt (Nat.lt_succ_self _))
  have I2 := Inv.made (C := C) I
  refine wpAny_call (make_map (f := f) I.kIn M.makes M.init (beq_iff_eq.mp M.fn) (codeAny_mono (F _ X.stack _ _ (Value.ref (s.heap.objs.size + 1) :: us) (V.ref (s.heap.objs.size + 1) :: vs) (.ref st.sz :: ws) _ _ _ _ (hr.make C us [])
    (I2.env0.make C us []) (.cons rfl rv) s0 (.cons r2 (r.mono e)) (make_post sim e r2 p)) fun res s' hq' => ?_))
  cases res with
  | error e => exact tk e s' (XE.of_call I2 (fun cls d H' h => h) hq')
  | ok fl =>
    cases fl with
    | ret u =>
      obtain ⟨v, H', I3, rv, ev, q3⟩ := I2.after hq'
      subst ev
      exact ⟨rv, ⟨V.ref (s.heap.objs.size + 1), H', I3, rfl, q3⟩⟩
    | next => exact False.elim hq'
    | brk => exact False.elim hq'
    | cont => exact False.elim hq'

def LfK (X : Cx) [Link X.K] (Wx : WX) (f : Value) (ks : List Str) (g : List W → List W → S → R W) : Prop :=
  ∀ (pins : List (Addr × Obj)) (s : Shared) (σ : L2.St) (H : Hp) (ad : List Addr) (env : Env) (st : S) (ws zs : List W) (vs ys : List V) (us ts : List Value) (Q : VK), Inv X pins σ H s → Sim X.K ad env σ st H → RWs X.K ad H ws vs → Vals vs us → RWs X.K ad H zs ys → Vals ys ts →
    PW X.K Wx ad env σ H Q (g ws zs st) → wpAny (model X.prog X.w) X.A (call f us (ks.zip ts)) (EP X pins σ Q) X.xe s
def mKw (n j : Nat) (p : List Nat) (m : List W → S → R W) : List W → List W → S → R W := fun ws zs st => if ws.length = n ∧ zs.length = j then m (permL p (ws ++ zs)) st else .bad
theorem lfk_fn {k n : Nat} {f : Addr} {fd : FuncData} {ps ks : List Str} {p : List Nat} {m : List W → S → R W} (F : FnG X.prog X.w X.K X.mg X.base k f fd ps m) (hb : KB X.K fd ps n ks p) (hr : RoomG k X.A) (tk : Takes X Wx) : LfK X Wx (.ref f) ks (mKw n ks.length p m) := by
  intro pins s σ H ad env st ws zs vs ys us ts Q I sim r rv rz rt q
  unfold mKw at q
  by_cases hl : ws.length = n ∧ zs.length = ks.length
  · rw [if_pos hl] at q
    have l1 : us.length = n := by rw [← rv.length, ← r.length]; exact hl.1
    have l2 : ts.length = ks.length := by rw [← rt.length, ← rz.length]; exact hl.2
    have l3 : (permL p (us ++ ts)).length = ps.length := by rw [permL_len (fun i hi => by rw [List.length_append, l1, l2]; exact hb.2.1 i hi), hb.1]
    refine wpAny_call (codeAny_mono (F X.A X.stack s H ⟨us, ks.zip ts⟩ _ _ _ ad st (fun v H' => Q v H') (fun cls d H' => Wx cls d σ H') hr I.env0 (hb.2.2 s us ts I.kIn l1 l2) l3 (vals_perm (rv.append rt) p) sim.st ((r.append rz).perm p) ?_) fun res s' hq => ?_)
    · cases e : m (permL p (ws ++ zs)) st with
      | ok w st' => rw [e] at q; exact fun ad' H' v e1 s1 rw' => q ad' H' v e1 (sim.ext s1 e1) rw'
      | exc C fs st' => rw [e] at q; exact fun ad' H' cls d e1 s1 x => q ad' H' cls d e1 (sim.ext s1 e1) x
      | bad => rw [e] at q; exact q
    · cases res with
      | error e => exact tk e s' (XE.of_call I (fun cls d H' h => h) hq)
      | ok fl =>
        cases fl with
        | ret u => exact I.after hq
        | next => exact False.elim hq
        | brk => exact False.elim hq
        | cont => exact False.elim hq
  · rw [if_neg hl] at q
    exact q.elim
def mMakeK (C : Addr) (n j : Nat) (p : List Nat) (m : List W → S → R W) : List W → List W → S → R W := fun ws zs st => if ws.length = n ∧ zs.length = j then mMake C (fun as s => m (permL p as) s) (ws ++ zs) st else .bad
theorem lfk_make {k n : Nat} {C f : Addr} {fd : FuncData} {ps ks : List Str} {p : List Nat} {m : List W → S → R W} (M : Mk X.K C f) (F : FnG X.prog X.w X.K X.mg X.base k f fd ps m) (hb : KB X.K fd ps (n + 1) ks p) (hr : RoomG (k + 1) X.A) (tk : Takes X Wx) : LfK X Wx (.ref C) ks (mMakeK C n ks.length p m) := by
  intro pins s σ H ad env st ws zs vs ys us ts Q I sim r rv rz rt q
  unfold mMakeK at q
  by_cases hl : ws.length = n ∧ zs.length = ks.length
  · rw [if_pos hl] at q
    have l1 : us.length = n := by rw [← rv.length, ← r.length]; exact hl.1
    have l2 : ts.length = ks.length := by rw [← rt.length, ← rz.length]; exact hl.2
    have l3 : (permL p ((Value.ref (s.heap.objs.size + 1) :: us) ++ ts)).length = ps.length := by rw [permL_len (fun i hi => by rw [List.length_append, List.length_cons, l1, l2]; exact hb.2.1 i hi), hb.1]
    have hx : H (s.heap.objs.size + 1) = none := I.hok.fresh (Nat.le_succ _)
    have hd : H s.heap.objs.size = none := I.hok.fresh (Nat.le_refl _)
    obtain ⟨e, s0, r2⟩ := sim_made (C := C) sim.st hx hd (Nat.ne_of_lt (Nat.lt_succ_self _))
    have I2 := Inv.made (C := C) I
    refine wpAny_call (make_map (f := f) I.kIn M.makes M.init (beq_iff_eq.mp M.fn) (codeAny_mono (F _ X.stack _ _ ⟨Value.ref (s.heap.objs.size + 1) :: us, ks.zip ts⟩ _ (permL p ((V.ref (s.heap.objs.size + 1) :: vs) ++ ys)) (permL p ((.ref st.sz :: ws) ++ zs)) _ _ _ _ (hr.make C us _)
      (I2.env0.make C us _) (hb.2.2 _ (Value.ref (s.heap.objs.size + 1) :: us) ts I2.kIn (by rw [List.length_cons, l1]) l2) l3 (vals_perm (Vals.append (show Vals (V.ref (s.heap.objs.size + 1) :: vs) (Value.ref (s.heap.objs.size + 1) :: us) from .cons rfl rv) rt) p) s0 (((RWs.cons r2 (r.mono e)).append (rz.mono e)).perm p) (make_post (m := fun as s => m (permL p as) s) sim e r2 q)) fun res s' hq' => ?_))
    cases res with
    | error e => exact tk e s' (XE.of_call I2 (fun cls d H' h => h) hq')
    | ok fl =>
      cases fl with
      | ret u =>
        obtain ⟨v, H', I3, rv, ev, q3⟩ := I2.after hq'
        subst ev
        exact ⟨rv, ⟨V.ref (s.heap.objs.size + 1), H', I3, rfl, q3⟩⟩
      | next => exact False.elim hq'
      | brk => exact False.elim hq'
      | cont => exact False.elim hq'
  · rw [if_neg hl] at q
    exact q.elim

variable {e o : Expr} {es : List Expr} {n nk : MA} {p apos : Pos} {x mname : Str} {g : List W → S → R W} {me mo : ME}
theorem se_callG {f : Addr} (L : LfN X Wx (.ref f) g) (hg : Gl X x) (hm : X.mg x = some (.ref f)) (hk : PySem.W.keepIn X.K (.ref f) = true) (ha : PA X (e :: es) (tL X.K Wx n))
    (hdb : (x == ("__debug__" : Str)) = false := by decide) (he : starEach (e :: es) X.env = (false, eval e X.env) :: starEach es X.env := by rfl) (hpl : (backTo pos (starEach es X.env)).any (·.1) = false := by rfl) :
    PE X (.Call (.Name x p) (e :: es) [] pos) (tE X.K Wx (mN g n)) := by
  refine ⟨fun pins s σ H Q I ⟨ad, env, st, sim, q⟩ => ?_⟩
  refine wpAny_Call_Name_kw (ld_glob I hg hm ?_ hdb)
  refine PySem.W.callWith_K (h₀ := X.base) I.ok.mod.kin hk (run_bindL ha PW.excOk I sim q fun ws st1 vs us H1 ad1 s1 _ e1 s1' r rv I1 p1 => ⟨I1.kIn, ?_⟩) he hpl
  exact L pins s1 σ H1 ad1 env st1 ws vs us Q I1 s1' r rv (PW.ext p1 e1)
theorem se_callG0 {f : Addr} (L : LfN X Wx (.ref f) g) (hg : Gl X x) (hm : X.mg x = some (.ref f)) (hk : PySem.W.keepIn X.K (.ref f) = true)
    (hdb : (x == ("__debug__" : Str)) = false := by decide) : PE X (.Call (.Name x p) [] [] pos) (tE X.K Wx (mN g mLNil)) := by
  refine ⟨fun pins s σ H Q I ⟨ad, env, st, sim, q⟩ => ?_⟩
  refine wpAny_Call_Name_kw (ld_glob I hg hm ?_ hdb)
  exact PySem.W.callWith_K0 I.kIn hk (L pins s σ H ad env st [] [] [] Q I sim .nil .nil q)
theorem se_callS2 {f : Addr} (L : LfN X Wx (.ref f) g) (hg : Gl X x) (hm : X.mg x = some (.ref f)) (hk : PySem.W.keepIn X.K (.ref f) = true) (ha : PA X (e :: es) (tL X.K Wx n))
    (hdb : (x == ("__debug__" : Str)) = false := by decide) (he : starEach (e :: es) X.env = (false, eval e X.env) :: starEach es X.env := by rfl) (hst : (backTo pos (starEach es X.env)).any (·.1) = true := by rfl) :
    PE X (.Call (.Name x p) (e :: es) [] pos) (tE X.K Wx (mN g n)) := by
  refine ⟨fun pins s σ H Q I ⟨ad, env, st, sim, q⟩ => ?_⟩
  refine wpAny_Call_Name_kw (ld_glob I hg hm ?_ hdb)
  refine PySem.W.callWith_S2 (h₀ := X.base) I.ok.mod.kin hk (run_bindL ha PW.excOk I sim q fun ws st1 vs us H1 ad1 s1 _ e1 s1' r rv I1 p1 => ⟨I1.kIn, ?_⟩) he hst
  exact L pins s1 σ H1 ad1 env st1 ws vs us Q I1 s1' r rv (PW.ext p1 e1)
def itemsW : W → S → Option (List W)
  | .tup ws, _ => some ws
  | .frz ws, _ => some ws
  | .ref n, s => lst? s n
  | _, _ => none
theorem itemsW_ok {w : W} {v : V} {ws : List W} (sim : Sim0 X.K ad st H) (r : RW X.K ad H w v) (h : itemsW w st = some ws) : ∃ a vs, v = .ref a ∧ (SqT X.K H a vs ∨ SqL X.K H a vs) ∧ RWs X.K ad H ws vs := by
  cases r with
  | tup hq rs => cases h; exact ⟨_, _, rfl, .inl hq, rs⟩
  | frz hq rs => cases h; exact ⟨_, _, rfl, .inr hq.sq, rs⟩
  | @ref n a hp =>
    obtain ⟨vs, h1, h2⟩ := lst_ro sim (show lst? st n = some ws from h) hp
    exact ⟨_, _, rfl, .inr (.of h1), h2⟩
  | _ => cases h
def mLStar (m : ME) (n : MA) : MA := fun env st => (m env st).bind fun w s => match itemsW w s with
  | some xs => (n env s).bind fun ws s' => .ok (xs ++ ws) s'
  | none => .bad
theorem sa_star {a : Expr} {ma : ME} {p : Pos} (h : PE X a (tE X.K Wx ma)) (h2 : PA X es (tL X.K Wx n)) (hs : starEach (.Starred a p :: es) X.env = (true, eval a X.env) :: starEach es X.env := by rfl) : PA X (.Starred a p :: es) (tL X.K Wx (mLStar ma n)) := by
  refine (StX.pa_star h h2 hs).imp fun σ H Q ⟨ad, env, st, sim, q⟩ => ?_
  refine tE_then sim (PL.ok' (st := st)) q fun w st1 v H1 ad1 e1 s1 r p => ?_
  cases e : itemsW w st1 with
  | none => rw [e] at p; exact p.elim
  | some xs =>
    rw [e] at p
    obtain ⟨a, vs, rfl, hq, rs⟩ := itemsW_ok s1.st r e
    refine ⟨a, vs, rfl, hq, ?_⟩
    refine tL_then s1 (PL.ok' (st := st)) (PL.ext p e1) fun ws st2 vs2 H2 ad2 e2 s2 rs2 p2 => ?_
    exact p2 ad2 H2 _ e2 s2 ((rs.mono e2).append rs2)
def mSt1 (g : List W → S → R W) (m : ME) : ME := fun env st => (m env st).bind fun w s => match itemsW w s with
  | some xs => g xs s
  | none => .bad
theorem se_callS1 {f : Addr} {sp_ : Pos} (L : LfN X Wx (.ref f) g) (hg : Gl X x) (hm : X.mg x = some (.ref f)) (hk : PySem.W.keepIn X.K (.ref f) = true) (he : PE X e (tE X.K Wx me))
    (hdb : (x == ("__debug__" : Str)) = false := by decide) (hst : starEach [.Starred e sp_] X.env = [(true, eval e X.env)] := by rfl) :
    PE X (.Call (.Name x p) [.Starred e sp_] [] pos) (tE X.K Wx (mSt1 g me)) := by
  refine ⟨fun pins s σ H Q I ⟨ad, env, st, sim, q⟩ => ?_⟩
  refine wpAny_Call_Name_kw (ld_glob I hg hm ?_ hdb)
  refine PySem.W.callWith_S (h₀ := X.base) I.ok.mod.kin hk (run_bind he PW.excOk I sim q fun w st1 v u H1 ad1 s1 _ e1 s1' r rv I1 p1 => ?_) hst
  cases e : itemsW w st1 with
  | none => rw [e] at p1; exact p1.elim
  | some xs =>
    rw [e] at p1
    obtain ⟨a, vs, rfl, hq, rs⟩ := itemsW_ok s1'.st r e
    obtain rfl : u = Value.ref a := rv
    exact StX.star_any I1 hq fun us s2 I2 rv' => ⟨I2.kIn, L pins s2 σ H1 ad1 env st1 xs vs us Q I2 s1' rs rv' (PW.ext p1 e1)⟩
structure PKs (X : Cx) (kws : List Keyword) (t : TA) : Prop where
  k : PK X kws t
theorem PK.imp' {kws : List Keyword} {t t' : TA} (h : PK X kws t) (i : ∀ σ H Q, t' σ H Q → t σ H Q) : PK X kws t' := ⟨fun p pins s σ H Q I q => h.run p pins s σ H Q I (i σ H Q q)⟩
theorem sk_nil : PK X [] (tL X.K Wx mLNil) := PK.imp' pk_nil fun σ H Q ⟨ad, env, st, sim, q⟩ => q ad H [] .refl sim .nil
theorem sk_cons {kws : List Keyword} {nm : Option Str} {kpos : Pos} (h : PE X e (tE X.K Wx me)) (h2 : PK X kws (tL X.K Wx n)) : PK X (⟨nm, e, kpos⟩ :: kws) (tL X.K Wx (mLCons me n)) := by
  refine PK.imp' (pk_cons h h2) fun σ H Q ⟨ad, env, st, sim, q⟩ => ?_
  refine tE_then sim (PL.ok' (st := st)) q fun w st1 v H1 ad1 e1 s1 r p => ?_
  refine tL_then s1 (PL.ok' (st := st)) (PL.ext p e1) fun ws st2 vs H2 ad2 e2 s2 rs p2 => ?_
  exact p2 ad2 H2 _ e2 s2 (.cons (r.mono e2) rs)
theorem run_bindK {β : Type} {P : R β → Prop} {kws : List Keyword} {m : MA} {k : List W → S → R β} {G : List Value → Shared → Prop} {pos : Pos} (he : PK X kws (tL X.K Wx m)) (hP : ExcOk X.K Wx ad env σ H P) (I : Inv X pins σ H s) (sim : Sim X.K ad env σ st H)
    (h : P ((m env st).bind k))
    (hok : ∀ ws st1 vs us H1 ad1 s1, m env st = .ok ws st1 → Ext X.K ad H ad1 H1 → Sim X.K ad1 env σ st1 H1 → RWs X.K ad1 H1 ws vs → Vals vs us → Inv X pins σ H1 s1 → P (k ws st1) → G us s1) :
    wpAny (model X.prog X.w) X.A (evalAll ((backToKw pos (keywordEach kws X.env)).map (·.2))) G X.xe s := by
  have step : tL X.K Wx m σ H (fun vs H1 => ∃ ws st1 ad1, m env st = .ok ws st1 ∧ Ext X.K ad H ad1 H1 ∧ Sim X.K ad1 env σ st1 H1 ∧ RWs X.K ad1 H1 ws vs ∧ P (k ws st1)) := by
    refine ⟨ad, env, st, sim, ?_⟩
    cases q : m env st with
    | ok w st1 =>
      rw [q] at h
      exact fun ad1 H1 v e1 s1 r1 => ⟨w, st1, ad1, rfl, e1, s1, r1, h⟩
    | exc C fs st1 =>
      rw [q] at h
      exact hP.1 C fs st1 h
    | bad =>
      rw [q] at h
      exact hP.2 h
  refine thn (he.run pos pins s σ H _ I step) fun us s1 ⟨vs, H1, I1, r1, ws, st1, ad1, e1, x1, m1, rw1, p1⟩ => ?_
  exact hok ws st1 vs us H1 ad1 s1 e1 x1 m1 rw1 r1 I1 p1
def mNK (g : List W → List W → S → R W) (n nk : MA) : ME := fun env st => (n env st).bind fun ws s => (nk env s).bind fun zs s' => g ws zs s'
variable {gk : List W → List W → S → R W} {ks : List Str} {kws : List Keyword}
theorem se_callKw {f : Addr} (L : LfK X Wx (.ref f) ks gk) (hg : Gl X x) (hm : X.mg x = some (.ref f)) (hk : PySem.W.keepIn X.K (.ref f) = true) (ha : PA X (e :: es) (tL X.K Wx n)) (hkw : PK X kws (tL X.K Wx nk))
    (hall : (backToKw pos (keywordEach kws X.env)).all (·.1.isSome) = true := by rfl) (hks : (backToKw pos (keywordEach kws X.env)).filterMap (·.1) = ks := by rfl)
    (hdb : (x == ("__debug__" : Str)) = false := by decide) (he : starEach (e :: es) X.env = (false, eval e X.env) :: starEach es X.env := by rfl)
    (hpl : ((backTo pos (starEach (e :: es) X.env)).any (·.1) || (backToKw pos (keywordEach kws X.env)).any (·.1.isNone)) = false := by rfl) :
    PE X (.Call (.Name x p) (e :: es) kws pos) (tE X.K Wx (mNK gk n nk)) := by
  refine ⟨fun pins s σ H Q I ⟨ad, env, st, sim, q⟩ => ?_⟩
  refine wpAny_Call_Name_kw (ld_glob I hg hm ?_ hdb)
  refine PySem.W.callWith_KW (h₀ := X.base) I.ok.mod.kin hk hall (run_bindL ha PW.excOk I sim q fun ws st1 vs us H1 ad1 s1 _ e1 s1' r rv I1 p1 => ?_) hpl he
  refine run_bindK hkw PW.excOk I1 s1' (PW.ext p1 e1) fun zs st2 ys ts H2 ad2 s2 _ e2 s2' rz rt I2 p2 => ⟨I2.kIn, ?_⟩
  rw [hks]
  exact L pins s2 σ H2 ad2 env st2 ws zs vs ys us ts Q I2 s2' (r.mono e2) rv rz rt (PW.ext p2 e2)
theorem se_callKw0 {f : Addr} (L : LfK X Wx (.ref f) ks gk) (hg : Gl X x) (hm : X.mg x = some (.ref f)) (hk : PySem.W.keepIn X.K (.ref f) = true) (hkw : PK X kws (tL X.K Wx nk))
    (hall : (backToKw pos (keywordEach kws X.env)).all (·.1.isSome) = true := by rfl) (hks : (backToKw pos (keywordEach kws X.env)).filterMap (·.1) = ks := by rfl)
    (hdb : (x == ("__debug__" : Str)) = false := by decide) (hpl : ((backTo pos (starEach [] X.env)).any (·.1) || (backToKw pos (keywordEach kws X.env)).any (·.1.isNone)) = false := by rfl) :
    PE X (.Call (.Name x p) [] kws pos) (tE X.K Wx (mNK gk mLNil nk)) := by
  refine ⟨fun pins s σ H Q I ⟨ad, env, st, sim, q⟩ => ?_⟩
  refine wpAny_Call_Name_kw (ld_glob I hg hm ?_ hdb)
  have q : PW X.K Wx ad env σ H Q ((nk env st).bind fun zs s' => gk [] zs s') := q
  refine PySem.W.callWith_KW0 (h₀ := X.base) I.ok.mod.kin hk hall (run_bindK hkw PW.excOk I sim q fun zs st2 ys ts H2 ad2 s2 _ e2 s2' rz rt I2 p2 => ⟨I2.kIn, ?_⟩) hpl
  rw [hks]
  exact L pins s2 σ H2 ad2 env st2 [] zs [] ys [] ts Q I2 s2' .nil .nil rz rt (PW.ext p2 e2)

abbrev MT := Addr → Option (List W → S → R W)
def MTok (X : Cx) [Link X.K] (Wx : WX) (m : Str) (T : MT) : Prop := ∀ C g, T C = some g → Cls X.K C ∧ ∃ f, Meth X.K C m f ∧ LfN X Wx (.ref f) g
def mMeth (m : Str) (T : MT) (mo : ME) (n : MA) : ME := fun env st => (mo env st).bind fun o s1 => match o with
  | .ref i => match s1.get i with
    | some (.ins C fs) => match T C, fs.lookup m with
      | some g, none => (n env s1).bind fun ws s2 => g (o :: ws) s2
      | _, _ => .bad
    | _ => .bad
  | _ => .bad
theorem mMeth_is {m : Str} {T : MT} {mo : ME} {n : MA} {env : Env} {st : S} {Q : R W → Prop} (hb : ¬ Q .bad) {w : W} {st1 : S} (h : Q (match w with
    | .ref i => match st1.get i with
      | some (.ins C fs) => match T C, fs.lookup m with
        | some g, none => (n env st1).bind fun ws s2 => g (w :: ws) s2
        | _, _ => .bad
      | _ => .bad
    | _ => .bad)) : ∃ i C fs g, w = .ref i ∧ st1.get i = some (.ins C fs) ∧ T C = some g ∧ fs.lookup m = none ∧ Q ((n env st1).bind fun ws s2 => g (w :: ws) s2) := by
  cases w with
  | ref i =>
    simp only at h
    cases e : st1.get i with
    | none => simp only [e] at h; exact absurd h hb
    | some o =>
      cases o with
      | ins C fs =>
        simp only [e] at h
        cases e1 : T C with
        | none => simp only [e1] at h; exact absurd h hb
        | some g =>
          cases e2 : fs.lookup m with
          | some z => simp only [e1, e2] at h; exact absurd h hb
          | none =>
            simp only [e1, e2] at h
            exact ⟨i, C, fs, g, rfl, e, e1, e2, h⟩
      | _ => simp only [e] at h; exact absurd h hb
  | _ => exact absurd h hb
theorem se_meth {T : MT} {pl : Sem Bool} (hT : MTok X Wx mname T) (ho : PE X o (tE X.K Wx mo)) (ha : PA X (e :: es) (tL X.K Wx n))
    (hst : starEach (e :: es) X.env = (false, eval e X.env) :: starEach es X.env := by rfl) (hpl : (backTo pos (starEach es X.env)).any (·.1) = false := by rfl)
    (ht : eval (.Call (.Attribute o mname apos) (e :: es) [] pos) X.env = (do
      let ov ← eval o X.env
      standAt apos.atName
      let (f, first) ← holding [ov] (getMethod ov mname pl)
      callWith pos f first (backTo pos (starEach (e :: es) X.env)) (backToKw pos (keywordEach [] X.env))) := by rfl) :
    PE X (.Call (.Attribute o mname apos) (e :: es) [] pos) (tE X.K Wx (mMeth mname T mo n)) := by
  refine ⟨fun pins s σ H Q I ⟨ad, env, st, sim, q⟩ => ?_⟩
  refine PySem.W.methodCall_KW (pl := pl) (run_bind ho PW.excOk I sim q fun w st1 v u H1 ad1 s1 _ e1 s1' r rv I1 p1 => ?_) ht
  obtain ⟨i, C, fs, g, rfl, eg, eT, el, p1⟩ := mMeth_is (mo := mo) (st := st) (Q := PW X.K Wx ad env σ H Q) (fun z => z) p1
  obtain ⟨c, f, hm, L⟩ := hT C g eT
  cases r with
  | @ref _ a hp =>
    obtain ⟨dx, fvs, ea, rf⟩ : ∃ dx fvs, H1 a = some (.ins C dx fvs) ∧ RFs X.K ad1 H1 fs fvs := s1'.st.obj i _ a eg hp
    obtain rfl : u = Value.ref a := rv
    refine getmeth_ok I1 ea c hm (rfs_none rf el) ?_
    refine PySem.W.callWith_K (first := [.ref a]) (h₀ := X.base) I.ok.mod.kin hm.kp (run_bindL ha PW.excOk I1 s1' (PW.ext p1 e1) fun ws st2 vs us H2 ad2 s2 _ e2 s2' r2 rv2 I2 p2 => ⟨I2.kIn, ?_⟩) hst hpl
    exact L pins s2 σ H2 ad2 env st2 (.ref i :: ws) (.ref a :: vs) (.ref a :: us) Q I2 s2' (.cons (.ref (e2.pre _ _ hp)) r2) (.cons rfl rv2) (PW.ext p2 e2)
theorem se_meth0 {T : MT} {pl : Sem Bool} (hT : MTok X Wx mname T) (ho : PE X o (tE X.K Wx mo))
    (ht : eval (.Call (.Attribute o mname apos) [] [] pos) X.env = (do
      let ov ← eval o X.env
      standAt apos.atName
      let (f, first) ← holding [ov] (getMethod ov mname pl)
      callWith pos f first (backTo pos (starEach [] X.env)) (backToKw pos (keywordEach [] X.env))) := by rfl) :
    PE X (.Call (.Attribute o mname apos) [] [] pos) (tE X.K Wx (mMeth mname T mo mLNil)) := by
  refine ⟨fun pins s σ H Q I ⟨ad, env, st, sim, q⟩ => ?_⟩
  refine PySem.W.methodCall_KW (pl := pl) (run_bind ho PW.excOk I sim q fun w st1 v u H1 ad1 s1 _ e1 s1' r rv I1 p1 => ?_) ht
  obtain ⟨i, C, fs, g, rfl, eg, eT, el, p1⟩ := mMeth_is (mo := mo) (st := st) (Q := PW X.K Wx ad env σ H Q) (fun z => z) p1
  obtain ⟨c, f, hm, L⟩ := hT C g eT
  cases r with
  | @ref _ a hp =>
    obtain ⟨dx, fvs, ea, rf⟩ : ∃ dx fvs, H1 a = some (.ins C dx fvs) ∧ RFs X.K ad1 H1 fs fvs := s1'.st.obj i _ a eg hp
    obtain rfl : u = Value.ref a := rv
    refine getmeth_ok I1 ea c hm (rfs_none rf el) ?_
    exact PySem.W.callWith_K0 (first := [.ref a]) I1.kIn hm.kp (L pins s1 σ H1 ad1 env st1 [.ref i] [.ref a] [.ref a] Q I1 s1' (.cons (.ref hp) .nil) (.cons rfl .nil) (PW.ext p1 e1))
end
end MM

namespace PySem
namespace MMx
open HandSPX Builtin Builtin.ObjectAttr
section
variable {M : Model} {A : Around} {E : Value → Shared → Prop} {h : Heap} {g : Array GenState} {d : Drawn} {t : Nat} {os : OsState}
variable {nm q : Str} {C N : Addr} {bs bm bmB : List Value} {hdct : Bool} {sn : List Str} {sub : List Value} {ab : Bool} {col : Option Bool} {dd : Option Addr} {k0 k1 k2 k3 k5 : Option Value} {B newId initId : String} {kw : List (Str × Value)}
theorem newK_check (F : ExcBaseFacts B newId initId bmB) (same : ∀ X : String, bm.contains (.type X) = bmB.contains (.type X)) {us : List Value} {Q : Unit → Shared → Prop} (at_ : h.get? C = some (excClassObj nm q C N bs bm hdct sn sub ab col dd k0 k1 k2 k3 k5 newId)) (fin : Q () ⟨h, g, d, t, os⟩) :
    wpAny M A (checkBuiltinCall newId ⟨.ref C :: us, kw⟩) Q E ⟨h, g, d, t, os⟩ := by
  have hB1 : (Value.ref C :: bm).contains (.type B) = true := by rw [List.contains_cons, same, F.hasB, Bool.or_true]
  have := F.noStar
  simp only [checkBuiltinCall, F.newKind, F.newSplit, F.newRow]
  repeat (first | refine wpAny_loadPart_at at_ ?_ | (refine wpAny_isSubtype_exc at_ ?_; rw [hB1]) | refine wpAny_staticBase_exc at_ ?_ | refine wpAny_madeBy_exc at_ ?_ | simp only [bne_self_eq_false, Bool.false_eq_true, if_false] | wp_step)
  first
    | exact fin
    | (refine wpAny_onRaise ?_
       refine wpAny_of_eq (a := ()) ?_ fin
       exact PySem.check_star_args _ _ _ _ _ _)
end
section
variable {prog : Program} {w : World} {A : Around} {E : Value → Shared → Prop} {R : Result → Shared → Prop} {h : Heap} {g : Array GenState} {d : Drawn} {t : Nat} {os : OsState}
variable {nm q : Str} {C N : Addr} {bs bm bmB : List Value} {hdct : Bool} {sn : List Str} {sub : List Value} {ab : Bool} {col : Option Bool} {dd : Option Addr} {k0 k1 k2 k3 k5 : Option Value} {B newId initId : String} {kw : List (Str × Value)}
theorem newK (F : ExcBaseFacts B newId initId bmB) (same : ∀ X : String, bm.contains (.type X) = bmB.contains (.type X)) {us : List Value} (at_ : h.get? C = some (excClassObj nm q C N bs bm hdct sn sub ab col dd k0 k1 k2 k3 k5 newId))
    (fin : R (.ok (.ret (.ref (h.objs.size + 1)))) ⟨(h.push (W.kdv_tup us)).push (excO C h.objs.size), g, d, t, os⟩) (hz : us.length ≤ sizeLine) :
    codeAny (model prog w) A (.builtin newId ⟨.ref C :: us, kw⟩) R ⟨h, g, d, t, os⟩ := by
  have hB1 : (Value.ref C :: bm).contains (.type B) = true := by rw [List.contains_cons, same, F.hasB, Bool.or_true]
  have hA1 : (Value.ref C :: bm).contains (.type "AttributeError") = false := by rw [List.contains_cons, same, F.noAttr] <;> rfl
  have hN1 : (Value.ref C :: bm).contains (.type "NameError") = false := by rw [List.contains_cons, same, F.noName] <;> rfl
  have := F.ends
  refine codeAny_builtinAt F.entry ?_
  unfold Builtin.«BaseException.__new__»
  refine wpAt_bind (wpAt_bind (wpAt_stack fun p below => wpAt_of_wpAny ?_))
  wp_walk
  refine wpAt_of_wpAny ?_
  rw [F.owner]
  repeat (first | with_reducible refine wpAny_madeHere_exc F.canon at_ ?_ | with_reducible refine wpAny_loadPart_at at_ ?_ | (with_reducible refine wpAny_isSubtype_exc at_ ?_; first | rw [hB1] | rw [hA1] | rw [hN1]) | wp_step)
  show R _ _
  rw [Heap.size_push]
  exact fin
theorem callK_type (F : ExcBaseFacts B newId initId bmB) (same : ∀ X : String, bm.contains (.type X) = bmB.contains (.type X)) {us : List Value} {fI : Addr} {Q : Fin → Shared → Prop} (at_ : h.get? C = some (excClassObj nm q C N bs bm hdct sn sub ab col dd k0 k1 k2 k3 k5 newId))
    (hi : W.Looks (model prog w) h (typeLookup (.ref C) "__init__") (some (.ref fI))) (hb : ∀ self, W.Looks (model prog w) h (bindSpecial (.ref fI) self) (.ref fI, [self])) (hz : us.length ≤ sizeLine)
    (fin : codeAny (model prog w) A (.call (.ref fI) ⟨.ref (h.objs.size + 1) :: us, kw⟩)
      (fun r s' => match r with | .ok (.ret v) => v = .none ∧ Q (.done (.ret (.ref (h.objs.size + 1)))) s' | .ok _ => False | .error e => E e s') ⟨(h.push (W.kdv_tup us)).push (excO C h.objs.size), g, d, t, os⟩) :
    wpAny (model prog w) A (Builtin.«type.__call__» ⟨.ref C :: us, kw⟩) Q E ⟨h, g, d, t, os⟩ := by
  repeat (first | with_reducible refine wpAny_loadPart_at at_ ?_ | with_reducible refine wpAny_madeBy_exc at_ ?_ | wp_step)
  refine codeAny_call_builtin_code (Code.quiet_builtin _ F.quiet) (newK_check F same at_ (newK F same at_ ?_ hz))
  show wpAny _ _ _ _ _ _
  have kp : ∀ b o, h.get? b = some o → ((h.push (W.kdv_tup us)).push (excO C h.objs.size)).get? b = some o := fun b o e => Heap.get?_push_of_some _ (Heap.get?_push_of_some _ e)
  have at2 := kp _ _ at_
  have new : ((h.push (W.kdv_tup us)).push (excO C h.objs.size)).get? (h.objs.size + 1) = some (excO C h.objs.size) := by heap_get
  have hself : (Value.ref C :: bm).contains (.ref C) = true := by simp
  have i1 := hi.keeps kp
  have b1 := (hb (.ref (h.objs.size + 1))).keeps kp
  unfold isInstance
  repeat (first | with_reducible refine wpAny_loadPart_at new ?_ | (with_reducible refine wpAny_isSubtype_exc at2 ?_; rw [hself]) | wp_step)
  show wpAny _ _ (typeLookup (.ref C) _) _ _ _
  refine i1.at (wpAny_holding (wpAny_bind (b1.at (wpAny_bind (wpAny_call (codeAny_mono fin fun r s' z => ?_))))))
  rcases r with e | (v | _ | _ | _) <;> first | exact z | exact z.elim | skip
  obtain ⟨rfl, z⟩ := z
  first
    | exact wpAny_pure (wpAny_pure z)
    | (wp_walk; exact z)
theorem callK (F : ExcBaseFacts B newId initId bmB) (same : ∀ X : String, bm.contains (.type X) = bmB.contains (.type X)) {us : List Value} {fI : Addr} (at_ : h.get? C = some (excClassObj nm q C N bs bm hdct sn sub ab col dd k0 k1 k2 k3 k5 newId))
    (hi : W.Looks (model prog w) h (typeLookup (.ref C) "__init__") (some (.ref fI))) (hb : ∀ self, W.Looks (model prog w) h (bindSpecial (.ref fI) self) (.ref fI, [self])) (hz : us.length ≤ sizeLine)
    (fin : codeAny (model prog w) (A.under (.builtin "type.__call__" ⟨.ref C :: us, kw⟩)) (.call (.ref fI) ⟨.ref (h.objs.size + 1) :: us, kw⟩) (W.InitBack (h.objs.size + 1) R) ⟨(h.push (W.kdv_tup us)).push (excO C h.objs.size), g, d, t, os⟩) :
    codeAny (model prog w) A (.call (.ref C) ⟨us, kw⟩) R ⟨h, g, d, t, os⟩ := by
  have l1 := tc_lookup
  have l2 := tc_bind (.ref C)
  have ty : (⟨h, g, d, t, os⟩ : Shared).TypeIs (.ref C) "type" := ⟨_, at_, rfl⟩
  refine codeAny_of_tree ?_
  show wpAny _ _ (callAny (.ref C) _) _ _ _
  repeat (any_goals (first | assumption | with_reducible refine wpAny_loadPart_at at_ ?_ | wp_step))
  refine ⟨rfl, ?_⟩
  refine codeAny_call_builtin_at (Code.quiet_builtin _ (by decide +kernel)) entry_typeCall (wpAny_check_type_call_sub at_ (callK_type F same at_ hi hb hz ?_))
  exact codeAny_mono fin fun r s' z => by rcases r with e | (v | _ | _ | _) <;> exact z
end
end MMx
end PySem

namespace MM
open PySem PySem.Spec PyProof.Rows L2

def tInit (K : PySem.W.Frag) : List (Str × Nat) → TS
  | [] => tNext
  | (f, i) :: r => tSeq (tOst K f (tVar 0) (tVar i)) (tInit K r)
theorem upd_id {H : Hp} {a : Addr} {o : HO} (h : H a = some o) : upd H a o = H := by
  funext b
  by_cases e : b = a
  · rw [e, upd_same, h]
  · rw [upd_ne e]
theorem upd_swap {H : Hp} {a b : Addr} {o u : HO} (h : a ≠ b) : upd (upd H a o) b u = upd (upd H b u) a o := by
  funext c
  by_cases e : c = a
  · subst e
    rw [upd_ne h, upd_same, upd_same]
  · by_cases e2 : c = b
    · subst e2
      rw [upd_same, upd_ne e, upd_same]
    · rw [upd_ne e2, upd_ne e, upd_ne e, upd_ne e2]
inductive Gets (σ : L2.St) : List (Str × Nat) → List (Str × V) → Prop
  | nil : Gets σ [] []
  | cons {f i v r vs} : σ[i]? = some (some v) → Gets σ r vs → Gets σ ((f, i) :: r) ((f, v) :: vs)
theorem init_old {K : PySem.W.Frag} [Link K] {σ : L2.St} {a C dx : Addr} {D : Ends} (h0 : σ[0]? = some (some (.ref a))) (T : OexC K C) (ne : dx ≠ a) : ∀ {r : List (Str × Nat)} {l : List (Str × V)} {fs : List (Str × V)} {H : Hp}, (∀ q ∈ r, PySem.W.findIn K (.ref C) q.1 = some none) → Gets σ r l → fs.length + l.length ≤ 900 →
    H a = some (exo a C (some dx)) → H dx = some (exd dx fs) → D.nx σ (upd H dx (exd dx (l.reverse ++ fs))) → tInit K r D σ H
  | [], l, fs, H, hn, g, hl, ha, hd, q => by
    cases g
    rw [List.reverse_nil, List.nil_append, upd_id hd] at q
    exact q
  | (f, i) :: r, l, fs, H, hn, g, hl, ha, hd, q => by
    obtain ⟨v, vs, rfl, hv, g⟩ : ∃ v vs, l = (f, v) :: vs ∧ σ[i]? = some (some v) ∧ Gets σ r vs := by
      cases g with
      | cons hv g => exact ⟨_, _, rfl, hv, g⟩
    rw [List.length_cons] at hl
    refine ⟨v, hv, .ref a, h0, a, C, rfl, T, hn _ List.mem_cons_self, .inr ⟨dx, fs, ha, hd, by omega, ?_⟩⟩
    refine init_old h0 T ne (fs := (f, v) :: fs) (fun q hq => hn q (List.mem_cons_of_mem _ hq)) g (by rw [List.length_cons]; omega) (by rw [upd_ne (Ne.symm ne)]; exact ha) upd_same ?_
    rw [upd_upd]
    rw [List.reverse_cons, List.append_assoc] at q
    exact q
theorem init_new {K : PySem.W.Frag} [Link K] {σ : L2.St} {a C : Addr} {D : Ends} (h0 : σ[0]? = some (some (.ref a))) (T : OexC K C) {r : List (Str × Nat)} {l : List (Str × V)} {H : Hp} (hne : r ≠ []) (hn : ∀ q ∈ r, PySem.W.findIn K (.ref C) q.1 = some none) (g : Gets σ r l) (hl : l.length ≤ 900)
    (ha : H a = some (exo a C none)) (q : ∀ dx, H dx = none → dx ≠ a → D.nx σ (upd (upd H dx (exd dx l.reverse)) a (exo a C (some dx)))) : tInit K r D σ H := by
  cases g with
  | nil => exact absurd rfl hne
  | @cons f i v r vs hv g =>
    refine ⟨v, hv, .ref a, h0, a, C, rfl, T, hn _ List.mem_cons_self, .inl ⟨ha, fun dx n ne => ?_⟩⟩
    refine init_old h0 T ne (fs := [(f, v)]) (fun q hq => hn q (List.mem_cons_of_mem _ hq)) g (by rw [List.length_cons] at hl; rw [List.length_singleton]; omega) upd_same (by rw [upd_ne ne, upd_same]) ?_
    have z := q dx n ne
    rw [List.reverse_cons] at z
    rw [upd_swap (Ne.symm ne), upd_upd]
    exact z
def spX (K : PySem.W.Frag) (C : Addr) (names : List Str) : Sp := fun vs H Q _ => ∃ a ws, vs = .ref a :: ws ∧ ws.length = names.length ∧ H a = some (exo a C none) ∧ ∀ dx, H dx = none → dx ≠ a → Q .non (upd (upd H dx (exd dx (names.zip ws).reverse)) a (exo a C (some dx)))
theorem gets_zip {σ : L2.St} : ∀ {names : List Str} {ws : List V} (k : Nat), ws.length = names.length → (∀ i v, ws[i]? = some v → σ[k + i]? = some (some v)) → Gets σ (names.zipIdx k) (names.zip ws)
  | [], [], _, _, _ => .nil
  | [], _ :: _, _, h, _ => by cases h
  | _ :: _, [], _, h, _ => by cases h
  | f :: names, w :: ws, k, h, g => by
    rw [List.zipIdx_cons, List.zip_cons_cons]
    exact .cons (g 0 w rfl) (gets_zip (k + 1) (Nat.succ.inj h) fun i v e => by rw [Nat.add_assoc, Nat.add_comm 1 i]; exact g (i + 1) v (by rw [List.getElem?_cons_succ]; exact e))
theorem init_sp {K : PySem.W.Frag} [Link K] {C : Addr} {names N : List Str} (T : OexC K C) (hne : names ≠ []) (hn : ∀ f ∈ names, PySem.W.findIn K (.ref C) f = some none) (hl : names.length ≤ 900) {vs : List V} {H : Hp} {Q : VK} {E : XK} (h : spX K C names vs H Q E) :
    tInit K (names.zipIdx 1) { nx := fun _ H' => Q .non H', rt := Q } (L2.start N vs) H := by
  obtain ⟨a, ws, rfl, hw, ha, q⟩ := h
  have at_ : ∀ (i : Nat) (v : V), (V.ref a :: ws)[i]? = some v → (L2.start N (V.ref a :: ws))[i]? = some (some v) := fun i v e => by
    unfold L2.start
    have hi := (List.getElem?_eq_some_iff.mp e).1
    rw [List.getElem?_append_left (by rw [List.length_map]; exact hi), List.getElem?_map, e]
    rfl
  refine init_new (at_ 0 _ rfl) T (l := names.zip ws) (fun z => hne ?_) (fun q hq => hn _ ?_) (gets_zip 1 hw fun i v e => ?_) (by rw [List.length_zip]; omega) ha q
  · cases names with
    | nil => rfl
    | cons f r => rw [List.zipIdx_cons] at z; cases z
  · exact List.fst_mem_of_mem_zipIdx hq
  · rw [Nat.add_comm]
    exact at_ (i + 1) v (by rw [List.getElem?_cons_succ]; exact e)

def XQ (C : Addr) (names : List Str) (L : List V) (H : Hp) (cls : Value) (d : Option Addr) (H' : Hp) : Prop :=
  cls = .ref C ∧ ((names = [] ∧ d = none ∧ H' = H) ∨ ∃ dx, d = some dx ∧ H dx = none ∧ H' = upd H dx (.xd (names.zip L).reverse))
def MkX (X : Cx) (C : Addr) (names : List Str) (n : Nat) (ks : List Str) (p : List Nat) : Prop :=
  ∀ (pins : List (Addr × Obj)) (s : Shared) (σ : L2.St) (H : Hp) (vs ys : List V) (us ts : List Value), Inv X pins σ H s → Vals vs us → Vals ys ts → vs.length = n → ys.length = ks.length →
    wpAny (model X.prog X.w) X.A (call (.ref C) us (ks.zip ts)) (MkP X pins σ (XQ C names (permL p (vs ++ ys)) H)) X.xe s
theorem permL_succ {α : Type} (x : α) (xs : List α) : ∀ p : List Nat, permL (p.map (· + 1)) (x :: xs) = permL p xs
  | [] => rfl
  | i :: p => by
    have ih := permL_succ x xs p
    unfold permL at ih ⊢
    rw [List.map_cons, List.filterMap_cons, List.filterMap_cons, List.getElem?_cons_succ, ih]
theorem permL_self {α : Type} (x : α) (xs : List α) (p : List Nat) : permL (0 :: p.map (· + 1)) (x :: xs) = x :: permL p xs := by
  have e := permL_succ x xs p
  unfold permL at e ⊢
  rw [List.filterMap_cons_some (b := x) (by rfl), e]
theorem mkx_init {X : Cx} [Link X.K] {C fI : Addr} {k n : Nat} {fd : FuncData} {ps ks names : List Str} {p : List Nat} (T : OexC X.K C) (iC : PySem.W.findIn X.K (.ref C) "__init__" = some (some (.ref fI))) (tI : PySem.W.typeIn X.K (.ref fI) = some (.type "function"))
    (F1 : FnOk X.prog X.w X.K X.mg X.base (L2.CX X.prog X.w) k fI fd ps (spX X.K C names)) (hr : RoomG (k + 1) X.A) (hb : KB X.K fd ps (n + 1) ks (0 :: p.map (· + 1))) (hps : ps.length = names.length + 1) (hnm : n ≤ 900) : MkX X C names n ks p := by
  intro pins s σ H vs ys us ts I r1 r2 l1 l2
  obtain ⟨nm, q, N, bs, bm, sn, sub, ab, col, dd, k0, k1, k2, k3, k5, hC, hbm⟩ := T.cls
  obtain ⟨hp, g, dr, tk, os⟩ := s
  have hsz : hp.objs.size ≤ hp.objs.size + 1 := Nat.le_succ _
  have hn : H (hp.objs.size + 1) = none := I.hok.fresh hsz
  have kk : ∀ b o, hp.get? b = some o → ((hp.push (PySem.W.kdv_tup us)).push (PySem.HandSPX.excO C hp.objs.size)).get? b = some o := fun b o e => Heap.get?_push_of_some _ (Heap.get?_push_of_some _ e)
  have hget : ((hp.push (PySem.W.kdv_tup us)).push (PySem.HandSPX.excO C hp.objs.size)).get? (hp.objs.size + 1) = some (PySem.HandSPX.excO C hp.objs.size) := by heap_get
  have I2 : Inv X pins σ (upd H (hp.objs.size + 1) (exo (hp.objs.size + 1) C none)) ⟨(hp.push (PySem.W.kdv_tup us)).push (PySem.HandSPX.excO C hp.objs.size), g, dr, tk, os⟩ :=
    I.laid (t' := tk) (a := hp.objs.size + 1) (o := exo (hp.objs.size + 1) C none) (h' := (hp.push (PySem.W.kdv_tup us)).push (PySem.HandSPX.excO C hp.objs.size)) kk hsz (exo_ok hget)
  have lu : us.length = n := by rw [← r1.length]; exact l1
  have lt : ts.length = ks.length := by rw [← r2.length]; exact l2
  have hb1 : ∀ i ∈ p, i < n + ks.length := fun i hi => by
    have := hb.2.1 (i + 1) (List.mem_cons_of_mem _ (List.mem_map_of_mem hi))
    omega
  have hb0 : p.length = names.length := by
    have := hb.1
    rw [List.length_cons, List.length_map, hps] at this
    omega
  have hL : (permL p (vs ++ ys)).length = names.length := by rw [permL_len (fun i hi => by rw [List.length_append, l1, l2]; exact hb1 i hi), hb0]
  have hB := hb.2.2 ⟨(hp.push (PySem.W.kdv_tup us)).push (PySem.HandSPX.excO C hp.objs.size), g, dr, tk, os⟩ (Value.ref (hp.objs.size + 1) :: us) ts I2.kIn (by rw [List.length_cons, lu]) lt
  rw [List.cons_append, permL_self] at hB
  have rr : Vals (V.ref (hp.objs.size + 1) :: permL p (vs ++ ys)) (Value.ref (hp.objs.size + 1) :: permL p (us ++ ts)) := .cons rfl (vals_perm (r1.append r2) p)
  have hus : us.length ≤ sizeLine := line_of (by rw [lu]; omega)
  refine wpAny_call (PySem.MMx.callK F.excBase_ValueError (fun Y => PySem.HandSPX.refsVE_contains Y bm hbm) (I.kIn _ _ hC) (PySem.W.looks_findIn I.kIn iC) (fun self => PySem.W.bind_fn I.kIn self tI) hus
    (codeAny_mono (F1.run _ X.stack _ _ ⟨Value.ref (hp.objs.size + 1) :: us, ks.zip ts⟩ (Value.ref (hp.objs.size + 1) :: permL p (us ++ ts)) _ (fun v H2 => v = .non ∧ ∃ dx, H dx = none ∧ dx ≠ hp.objs.size + 1 ∧ H2 = upd (upd (upd H (hp.objs.size + 1) (exo (hp.objs.size + 1) C none)) dx (exd dx (names.zip (permL p (vs ++ ys))).reverse)) (hp.objs.size + 1) (exo (hp.objs.size + 1) C (some dx))) (fun _ _ _ => False) (hr.room.make C us _) (I2.env0.make C us _) hB rr
      ⟨_, _, rfl, hL, upd_same, fun dx h1 h2 => ⟨rfl, dx, by rw [upd_ne h2] at h1; exact h1, h2, rfl⟩⟩) fun res s' hq' => ?_))
  cases res with
  | error er => exact (show False from by obtain ⟨_, _, _, _, _, _, _, _, _, _, _, _, z⟩ := hq'; exact z).elim
  | ok fl =>
    cases fl with
    | ret u =>
      obtain ⟨v, H2, os2, bare2, un2, hok2, rv, ev, dx, n1, ne, rfl⟩ := hq'
      subst ev
      obtain ⟨h2, g2, d2, t2, os'⟩ := s'
      refine ⟨rv, mk_end (raises_own T.exC T.tyC) I hsz kk un2 hok2 os2 bare2 (d := dx) (fs := (names.zip (permL p (vs ++ ys))).reverse) upd_same (by rw [upd_ne ne, upd_same]) n1 ?_⟩
      refine ⟨rfl, .inr ⟨dx, rfl, n1, ?_⟩⟩
      funext b
      by_cases e1 : b = dx
      · rw [e1, upd_same, upd_same]
      · rw [upd_ne e1, upd_ne e1]
        by_cases e2 : b = hp.objs.size + 1
        · rw [e2, L2.del_same, hn]
        · rw [L2.del_ne e2, upd_ne e2, upd_ne e1, upd_ne e2]
    | next => exact False.elim hq'
    | brk => exact False.elim hq'
    | cont => exact False.elim hq'
theorem mkx_plain {X : Cx} [Link X.K] {C : Addr} {bmB : List Value} {B newId initId : String} (F : ExcBaseFacts B newId initId bmB) (q : PySem.W.excIn X.K C bmB newId = true) (r : Raises X (.ref C)) (n : Nat) (hn : n ≤ 900) (p : List Nat) : MkX X C [] n [] p := by
  intro pins s σ H vs ys us ts I r1 r2 l1 l2
  obtain ⟨bm, N, nm, qn, bs, hdct, sn, sub, ab, col, dd, k0, k1, k2, k3, k5, mN, hC, hN, hni, T⟩ := exc_obj I.kIn q
  obtain ⟨hp, g, dr, tk, os⟩ := s
  refine wpAny_call_exc_subT F T hC hN hni (fun h' e hm => ?_) (line_of (by rw [← r1.length, l1]; omega))
  exact mk_of I hm r ⟨rfl, .inl ⟨rfl, rfl, rfl⟩⟩ (I.hok.gone hm.new)

theorem exV_ok {P : Program} {w : World} {H : Hp} {h : Heap} {a : Addr} {cls : Value} {d : Option Addr} {oe : Obj} {vs : Array Value} (e : h.get? a = some oe) (z : Zc cls d oe) (hd : oe.data = .fields vs) : ObjOk P w H h a (ExV cls d a) :=
  ⟨⟨oe, vs, e, z, hd⟩, ⟨oe, e⟩, fun _ _ ⟨o, v, q, r⟩ k => ⟨o, v, k o q, r⟩⟩
theorem held {X : Cx} [Link X.K] {pins : List (Addr × Obj)} {σ : L2.St} {H : Hp} {sI s' : Shared} {a : Addr} {cls : Value} {d : Option Addr} {oe : Obj} {vs : Array Value} (I : Inv X pins σ H sI) (k : ∀ b o, sI.heap.get? b = some o → s'.heap.get? b = some o) (hne : sI.heap.get? a = none) (he : s'.heap.get? a = some oe)
    (hz : Zc cls d oe) (hd : oe.data = .fields vs) (na : H a = none) (os : s'.os = sI.os) (ag : AllBare s'.gens) : Inv X pins σ (upd H a (ExV cls d a)) s' := by
  have nb : ∀ {b : Addr} {o : Obj}, sI.heap.get? b = some o → b ≠ a := fun {b o} e z => by rw [z, hne] at e; cases e
  have J := I.call (ch := []) (h' := s'.heap) (g' := s'.gens) (t' := s'.toks) (d' := s'.drawn) (H' := upd H a (ExV cls d a))
    ⟨fun b o e _ _ _ => k b o e, fun b o e _ _ _ => ⟨o.slots, k b o e⟩, fun b o e n _ => by rw [upd_ne (nb e)]; exact n, fun b o e _ => ⟨o, k b o e⟩, fun b xs e => by rw [upd_ne (ne_of_none e na)]; exact e, fun b u xs e => by rw [upd_ne (ne_of_none e na)]; exact e, fun b ps e => ⟨#[], by rw [upd_ne (ne_of_none e na), e]; simp⟩⟩
    (I.hok.laidN k na (exV_ok he hz hd)) ag (fun _ z => nomatch z)
  obtain ⟨a1, a2, a3, a4, a5⟩ := s'
  have e5 : a5 = sI.os := os
  subst e5
  exact J
def mExc (C : Addr) (names : List Str) (n : Nat) (j : Nat) (p : List Nat) : List W → List W → S → R W := fun ws zs st =>
  if ws.length = n ∧ zs.length = j then .ok (.ref st.sz) (st.add (.exc C (names.zip (permL p (ws ++ zs))).reverse)) else .bad
theorem rfs_zip {K : PySem.W.Frag} [Link K] {ad : List Addr} {H : Hp} : ∀ {names : List Str} {ws : List W} {vs : List V}, RWs K ad H ws vs → RFs K ad H (names.zip ws) (names.zip vs)
  | [], _, _, _ => by rw [List.zip_nil_left, List.zip_nil_left]; exact .nil
  | _ :: _, _, _, .nil => by rw [List.zip_nil_right, List.zip_nil_right]; exact .nil
  | f :: names, _, _, .cons r rs => by rw [List.zip_cons_cons, List.zip_cons_cons]; exact .cons r (rfs_zip rs)
theorem rfs_app {K : PySem.W.Frag} [Link K] {ad : List Addr} {H : Hp} {κ : Type} {a b : List (κ × W)} {c d : List (κ × V)} (r : RFs K ad H a c) (s : RFs K ad H b d) : RFs K ad H (a ++ b) (c ++ d) := by
  induction r with
  | nil => exact s
  | cons r _ ih => exact .cons r ih
theorem rfs_rev {K : PySem.W.Frag} [Link K] {ad : List Addr} {H : Hp} {κ : Type} {a : List (κ × W)} {c : List (κ × V)} (r : RFs K ad H a c) : RFs K ad H a.reverse c.reverse := by
  induction r with
  | nil => exact .nil
  | cons r _ ih =>
    rw [List.reverse_cons, List.reverse_cons]
    exact rfs_app ih (.cons r .nil)
theorem xr_of {X : Cx} [Link X.K] {ad : List Addr} {H H' : Hp} {C : Addr} {names : List Str} {L : List V} {Lw : List W} {cls : Value} {d : Option Addr} (r : RWs X.K ad H Lw L) (x : XQ C names L H cls d H') :
    Ext X.K ad H ad H' ∧ XR X.K ad H' C (names.zip Lw).reverse cls d ∧ ∀ b u, H b = some u → H' b = some u := by
  obtain ⟨rfl, ⟨rfl, rfl, rfl⟩ | ⟨dx, rfl, n, rfl⟩⟩ := x
  · exact ⟨.refl, ⟨rfl, .inl ⟨rfl, rfl⟩⟩, fun _ _ h => h⟩
  · have e : Ext X.K ad H ad (upd H dx (.xd (names.zip L).reverse)) := ext_keep (up_keep n)
    exact ⟨e, ⟨rfl, .inr ⟨dx, _, rfl, upd_same, rfs_rev (rfs_zip (r.mono e))⟩⟩, up_keep n⟩
theorem sim_exc {K : PySem.W.Frag} [Link K] {ad : List Addr} {st : S} {H : Hp} {C a : Addr} {fs : List (Str × W)} {cls : Value} {d : Option Addr} (sim : Sim0 K ad st H) (na : H a = none) (x : XR K ad H C fs cls d) :
    Ext K ad H (ad ++ [a]) (upd H a (ExV cls d a)) ∧ Sim0 K (ad ++ [a]) (st.add (.exc C fs)) (upd H a (ExV cls d a)) ∧ RW K (ad ++ [a]) (upd H a (ExV cls d a)) (.ref st.sz) (.ref a) := by
  have e : Ext K ad H (ad ++ [a]) (upd H a (ExV cls d a)) := ext_new (up_keep na)
  refine ⟨e, sim.new na (up_keep na) ?_ e, .ref ?_⟩
  · obtain ⟨rfl, ⟨rfl, rfl⟩ | ⟨dd, fvs, rfl, hd, r⟩⟩ := x
    · exact .inl ⟨rfl, upd_same⟩
    · exact .inr ⟨dd, fvs, upd_same, by rw [upd_ne (ne_of_none hd na)]; exact hd, r.mono e⟩
  · rw [← sim.len, List.getElem?_append_right (Nat.le_refl _), Nat.sub_self]
    rfl
section
variable {X : Cx} [Link X.K] {Wx : WX} {pos : Pos}
theorem lfk_exc {C : Addr} {names ks : List Str} {n : Nat} {p : List Nat} (M : MkX X C names n ks p) : LfK X Wx (.ref C) ks (mExc C names n ks.length p) := by
  intro pins s σ H ad env st ws zs vs ys us ts Q I sim r rv rz rt q
  unfold mExc at q
  by_cases hl : ws.length = n ∧ zs.length = ks.length
  · rw [if_pos hl] at q
    refine thn (M pins s σ H vs ys us ts I rv rt (by rw [← r.length]; exact hl.1) (by rw [← rz.length]; exact hl.2)) fun u s' ⟨a, oe, vs', sI, H', cls, d, eu, J, k, hne, ha, hz, hd, h1, na, os, ag, _, x⟩ => ?_
    subst eu
    obtain ⟨e1, xr, kk⟩ := xr_of ((r.append rz).perm p) x
    obtain ⟨e2, s2, r2⟩ := sim_exc (sim.st.keep kk) na xr
    exact ⟨.ref a, _, held J k hne ha hz hd na os ag, rfl, q _ _ _ (e1.trans e2) (sim.ext s2 (e1.trans e2)) r2⟩
  · rw [if_neg hl] at q
    exact q.elim
theorem lfn_exc {C : Addr} {names : List Str} {n : Nat} {p : List Nat} (M : MkX X C names n [] p) : LfN X Wx (.ref C) (fun ws st => mExc C names n 0 p ws [] st) :=
  fun pins s σ H ad env st ws vs us Q I sim r rv q => lfk_exc M pins s σ H ad env st ws [] vs [] us [] Q I sim r rv .nil .nil q
def mRaise (C : Addr) (names : List Str) (n j : Nat) (p : List Nat) (m mk : MA) : MS := fun env st => (m env st).toS env fun ws s => (mk env s).toS env fun zs s' =>
  if ws.length = n ∧ zs.length = j then .exc C (names.zip (permL p (ws ++ zs))).reverse env s' else .bad
theorem raise_post {K : PySem.W.Frag} [Link K] {D : Ends} {X : Cx} [Link X.K] {C : Addr} {names ks : List Str} {n : Nat} {p : List Nat} {pins : List (Addr × Obj)} {s : Shared} {σ : L2.St} {H0 H : Hp} {ad0 ad : List Addr} {env : Env} {st : S} {ws zs : List W} {vs ys : List V} {us ts : List Value} (M : MkX X C names n ks p) (I : Inv X pins σ H s)
    (e0 : Ext X.K ad0 H0 ad H) (sim : Sim X.K ad env σ st H) (r : RWs X.K ad H ws vs) (rv : Vals vs us) (rz : RWs X.K ad H zs ys) (rt : Vals ys ts)
    (q : PSt X.K Wx ad0 H0 D (if ws.length = n ∧ zs.length = ks.length then .exc C (names.zip (permL p (ws ++ zs))).reverse env st else .bad)) : wpAny (model X.prog X.w) X.A (call (.ref C) us (ks.zip ts)) (MkP X pins σ (fun cls d H' => Wx cls d σ H')) X.xe s := by
  by_cases hl : ws.length = n ∧ zs.length = ks.length
  · rw [if_pos hl] at q
    refine thn (M pins s σ H vs ys us ts I rv rt (by rw [← r.length]; exact hl.1) (by rw [← rz.length]; exact hl.2)) fun u s' ⟨a, oe, vs', sI, H', cls, d, eu, J, k, hne, ha, hz, hd, h1, na, os, ag, rs, x⟩ => ?_
    obtain ⟨e1, xr, kk⟩ := xr_of ((r.append rz).perm p) x
    exact ⟨a, oe, vs', sI, H', cls, d, eu, J, k, hne, ha, hz, hd, h1, na, os, ag, rs, q ad H' σ cls d (e0.trans e1) (sim.ext (sim.st.keep kk) e1) xr⟩
  · rw [if_neg hl] at q
    exact q.elim
variable {e : Expr} {es : List Expr} {kws : List Keyword} {ks : List Str} {n1 nk : MA} {x : Str} {pc : Pos} {C : Addr} {names : List Str} {n : Nat} {p : List Nat} {pp : Pos}
theorem sp_raise (M : MkX X C names n [] p) (hc : X.calm = true) (tk : Takes X Wx) (hg : Gl X x) (hm : X.mg x = some (.ref C)) (hk : PySem.W.keepIn X.K (.ref C) = true) (ha : PA X (e :: es) (tL X.K Wx n1))
    (hdb : (x == ("__debug__" : Str)) = false := by decide) (he : starEach (e :: es) X.env = (false, eval e X.env) :: starEach es X.env := by rfl) (hpl : (backTo pc (starEach es X.env)).any (·.1) = false := by rfl) :
    PS X (.Raise (some (.Call (.Name x pp) (e :: es) [] pc)) none pos) (tS X.K Wx (mRaise C names n 0 p n1 mLNil)) := by
  have mk : PMk X (.Call (.Name x pp) (e :: es) [] pc) (fun σ H Q => ∀ (_ : True), ∃ ad env st D, Sim X.K ad env σ st H ∧ PSt X.K Wx ad H D (mRaise C names n 0 p n1 mLNil env st) ∧ Q = fun cls d H' => Wx cls d σ H') := by
    intro pins s σ H Q I h
    obtain ⟨ad, env, st, D, sim, q, rfl⟩ := h trivial
    refine wpAny_Call_Name_kw (ld_glob I hg hm ?_ hdb)
    refine PySem.W.callWith_K (h₀ := X.base) I.ok.mod.kin hk (thn (ha.run pc pins s σ H _ I (tL_thenS (Q := fun vs H1 => ∃ ad1 st1 ws, Ext X.K ad H ad1 H1 ∧ Sim X.K ad1 env σ st1 H1 ∧ RWs X.K ad1 H1 ws vs ∧ PSt X.K Wx ad H D (if ws.length = n ∧ ([] : List W).length = ([] : List Str).length then .exc C (names.zip (permL p (ws ++ []))).reverse env st1 else .bad)) sim q fun ws st1 vs H1 ad1 e1 s1 r p1 => ⟨ad1, st1, ws, e1, s1, r, p1⟩)) fun us s1 ⟨vs, H1, I1, rv, ad1, st1, ws, e1, s1', r, p1⟩ => ⟨I1.kIn, ?_⟩) he hpl
    exact raise_post (K := X.K) (ks := []) (ts := []) (zs := []) (ys := []) M I1 e1 s1' r rv .nil .nil p1
  refine ⟨fun pins s σ H D I ⟨ad, env, st, sim, q⟩ => ?_⟩
  exact (ps_raise hc tk mk).run pins s σ H D I fun _ => ⟨ad, env, st, D, sim, q, rfl⟩
theorem sp_raise0 (M : MkX X C names n [] p) (hc : X.calm = true) (tk : Takes X Wx) (hg : Gl X x) (hm : X.mg x = some (.ref C)) (hk : PySem.W.keepIn X.K (.ref C) = true)
    (hdb : (x == ("__debug__" : Str)) = false := by decide) : PS X (.Raise (some (.Call (.Name x pp) [] [] pc)) none pos) (tS X.K Wx (mRaise C names n 0 p mLNil mLNil)) := by
  have mk : PMk X (.Call (.Name x pp) [] [] pc) (fun σ H Q => ∀ (_ : True), ∃ ad env st D, Sim X.K ad env σ st H ∧ PSt X.K Wx ad H D (mRaise C names n 0 p mLNil mLNil env st) ∧ Q = fun cls d H' => Wx cls d σ H') := by
    intro pins s σ H Q I h
    obtain ⟨ad, env, st, D, sim, q, rfl⟩ := h trivial
    refine wpAny_Call_Name_kw (ld_glob I hg hm ?_ hdb)
    exact PySem.W.callWith_K0 I.kIn hk (raise_post (K := X.K) (ks := []) (ts := []) (zs := []) (ys := []) (ws := []) (vs := []) (us := []) M I .refl sim .nil .nil .nil .nil q)
  refine ⟨fun pins s σ H D I ⟨ad, env, st, sim, q⟩ => ?_⟩
  exact (ps_raise hc tk mk).run pins s σ H D I fun _ => ⟨ad, env, st, D, sim, q, rfl⟩
end
end MM

namespace MM
open PySem PySem.Spec PyProof.Rows L2

inductive Tg where
  | ty (n : String)
  | cl (a : Addr)
deriving DecidableEq
def Tg.v : Tg → Value
  | .ty n => .type n
  | .cl a => .ref a
def tgOf : W → S → Option Tg
  | .non, _ => some (.ty "NoneType")
  | .bl _, _ => some (.ty "bool")
  | .int _, _ => some (.ty "int")
  | .str _, _ => some (.ty "str")
  | .tup _, _ => some (.ty "tuple")
  | .frz _, _ => some (.ty "list")
  | .ref n, s => match s.get n with
    | some (.lst _) => some (.ty "list")
    | some (.dic _) => some (.ty "dict")
    | some (.ins C _) => some (.cl C)
    | some (.exc C _) => some (.cl C)
    | none => none
  | _, _ => none
def tgC : W → Option Tg
  | .ty n => some (.ty n)
  | .glo a => some (.cl a)
  | _ => none
structure InsF (K : PySem.W.Frag) (C : Addr) : Prop where
  cl : Cls K C
  ha : PySem.W.findIn K (.ref C) "__class__" = some (some (.builtin "object.__class__"))
  hn : PySem.W.specialIn K (.builtin "object.__class__") "__get__" = some (some (.builtin "getset_descriptor.__get__"))
  htk : PySem.W.takesIn K (.builtin "object.__class__") = some true
  hm : PySem.W.mroIn K C (.type "object") = some true
structure IsT (K : PySem.W.Frag) where
  TI : List Addr
  TX : List Addr
  Bs : List String
  Cs : List Tg
  f : Tg → Tg → Bool
  hI : ∀ C ∈ TI, InsF K C
  hX : ∀ C ∈ TX, ExcC K C
  hB : ∀ n ∈ Bs, ∀ c ∈ Cs, PySem.W.kitOne K (.type n) c.v = some (f (.ty n) c)
  hC : ∀ C ∈ TI ++ TX, ∀ c ∈ Cs, PySem.W.kitOne K (.ref C) c.v = some (f (.cl C) c)
structure IsP where
  TI : List Addr
  TX : List Addr
  Bs : List String
  Cs : List Tg
  f : Tg → Tg → Bool
def IsT.p {K : PySem.W.Frag} (T : IsT K) : IsP := ⟨T.TI, T.TX, T.Bs, T.Cs, T.f⟩
def IsP.has (T : IsP) : W → S → Option Tg
  | .ref n, s => match s.get n with
    | some (.ins C _) => if C ∈ T.TI then some (.cl C) else none
    | some (.exc C _) => if C ∈ T.TX then some (.cl C) else none
    | some (.lst _) => if "list" ∈ T.Bs then some (.ty "list") else none
    | some (.dic _) => if "dict" ∈ T.Bs then some (.ty "dict") else none
    | none => none
  | w, s => match tgOf w s with
    | some (.ty n) => if n ∈ T.Bs then some (.ty n) else none
    | _ => none
def IsP.any (T : IsP) (t : Tg) : List W → Option Bool
  | [] => some false
  | c :: cs => match tgC c, IsP.any T t cs with
    | some c, some b => if c ∈ T.Cs then some (T.f t c || b) else none
    | _, _ => none
def wIsi (T : IsP) : List W → S → R W
  | [w, .tup cs], s => match T.has w s with
    | some t => match T.any t cs with
      | some b => .ok (.bl b) s
      | none => .bad
    | none => .bad
  | [w, c], s => match T.has w s, tgC c with
    | some t, some c => if c ∈ T.Cs then .ok (.bl (T.f t c)) s else .bad
    | _, _ => .bad
  | _, _ => .bad
section
variable {X : Cx} [Link X.K] {Wx : WX} {pins : List (Addr × Obj)} {s : Shared} {σ : L2.St} {H : Hp} {ad : List Addr} {env : Env} {st : S}
theorem has_kit (T : IsT X.K) {w : W} {v : V} {u : Value} {t : Tg} (I : Inv X pins σ H s) (sim : Sim0 X.K ad st H) (r : RW X.K ad H w v) (rv : RelV v u) (h : T.p.has w st = some t) :
    (∃ P : Heap → Prop, PySem.W.KitX X.K u t.v P ∧ P s.heap ∧ u ≠ .builtin "__main__.__loader__#opaque") ∧ ∀ c ∈ T.Cs, PySem.W.kitOne X.K t.v c.v = some (T.f t c) := by
  have base : ∀ {n : String}, (match some (Tg.ty n) with
      | some (.ty n) => if n ∈ T.Bs then some (Tg.ty n) else none
      | _ => none) = some t → t = .ty n ∧ ∀ c ∈ T.Cs, PySem.W.kitOne X.K t.v c.v = some (T.f t c) := fun {n} e => by
    have e : (if n ∈ T.Bs then some (Tg.ty n) else none) = some t := e
    by_cases hb : n ∈ T.Bs
    · rw [if_pos hb] at e
      cases e
      exact ⟨rfl, T.hB n hb⟩
    · rw [if_neg hb] at e
      cases e
  cases r with
  | non =>
    obtain ⟨rfl, q⟩ := base h
    exact ⟨kit_of I rv (.base .non), q⟩
  | bl b =>
    obtain ⟨rfl, q⟩ := base h
    exact ⟨kit_of I rv (.base (.bl b)), q⟩
  | int b =>
    obtain ⟨rfl, q⟩ := base h
    exact ⟨kit_of I rv (.base (.int b)), q⟩
  | str b =>
    obtain ⟨rfl, q⟩ := base h
    exact ⟨kit_of I rv (.base (.str b)), q⟩
  | ty n => cases h
  | glo a => cases h
  | @tup ws a vs hq rs =>
    obtain ⟨rfl, q⟩ := base h
    rcases hq with (hq | ⟨o, hq⟩) | ⟨o, its, n, h1, h2, h3⟩
    · exact ⟨kit_of I rv (.base (.tup hq)), q⟩
    · exact ⟨kit_of I rv (.fTuple hq), q⟩
    · exact ⟨kit_of I rv (.kTuple h1 h2), q⟩
  | @frz ws a vs hq rs =>
    obtain ⟨rfl, q⟩ := base h
    rcases hq with ⟨o, hq⟩ | ⟨o, its, n, h1, h2, h3⟩
    · exact ⟨kit_of I rv (.base (.frz hq)), q⟩
    · exact ⟨kit_of I rv (.kList h1 h2), q⟩
  | @ref n a hp =>
    unfold IsP.has at h
    cases eg : st.get n with
    | none => simp only [eg] at h; cases h
    | some o =>
      have ro := sim.obj n o a eg hp
      cases o with
      | lst ws =>
        simp only [eg] at h
        by_cases hb : "list" ∈ T.Bs
        · rw [if_pos (show "list" ∈ T.p.Bs from hb)] at h
          cases h
          obtain ⟨vs, hv, _⟩ := ro
          exact ⟨kit_of I rv (.base (.lst hv)), T.hB _ hb⟩
        · rw [if_neg (show ¬ "list" ∈ T.p.Bs from hb)] at h
          cases h
      | dic ws =>
        simp only [eg] at h
        by_cases hb : "dict" ∈ T.Bs
        · rw [if_pos (show "dict" ∈ T.p.Bs from hb)] at h
          cases h
          obtain ⟨vs, hv, _⟩ := ro
          exact ⟨kit_of I rv (.base (.dK hv)), T.hB _ hb⟩
        · rw [if_neg (show ¬ "dict" ∈ T.p.Bs from hb)] at h
          cases h
      | ins C fs =>
        simp only [eg] at h
        by_cases hb : C ∈ T.TI
        · rw [if_pos (show C ∈ T.p.TI from hb)] at h
          cases h
          obtain ⟨dx, fvs, hv, _⟩ := ro
          have F := T.hI C hb
          exact ⟨kit_of I rv (.base (.ins hv F.cl F.ha F.hn F.htk F.hm)), T.hC C (List.mem_append_left _ hb)⟩
        · rw [if_neg (show ¬ C ∈ T.p.TI from hb)] at h
          cases h
      | exc C fs =>
        simp only [eg] at h
        by_cases hb : C ∈ T.TX
        · rw [if_pos (show C ∈ T.p.TX from hb)] at h
          cases h
          have F := T.hX C hb
          have hcl : (PySem.W.clsIn X.K C).isSome = true := by
            obtain ⟨cd, hc, _⟩ := PySem.W.any_some F.hd
            rw [hc]
            rfl
          refine ⟨?_, T.hC C (List.mem_append_right _ hb)⟩
          obtain rfl : u = Value.ref a := rv
          rcases ro with ⟨_, hv⟩ | ⟨d, fvs, hv, hd, _⟩
          · obtain ⟨⟨oe, vs, e, z, dd⟩, _, _⟩ := I.hok a _ hv
            refine ⟨_, PySem.W.kitx_exc (od := none) (ox := oe) hcl F.hg F.hk F.hs F.ha F.hn F.ht F.hm, ?_, fun z => nomatch z⟩
            obtain ⟨oc, od, oda, osl⟩ := oe
            obtain ⟨h1, h2⟩ := z
            dsimp only at h1 h2 dd
            subst h1 h2 dd
            exact ⟨e, rfl, rfl, trivial⟩
          · obtain ⟨⟨oe, vs, e, z, dd⟩, _, _⟩ := I.hok a _ hv
            obtain ⟨mA, ⟨ob, _, _, eb, _⟩, _⟩ := I.hok d _ hd
            refine ⟨_, PySem.W.kitx_exc (od := some ob) (ox := oe) hcl F.hg F.hk F.hs F.ha F.hn F.ht F.hm, ?_, fun z => nomatch z⟩
            obtain ⟨oc, od, oda, osl⟩ := oe
            obtain ⟨h1, h2⟩ := z
            dsimp only at h1 h2 dd
            subst h1 h2 dd
            exact ⟨e, rfl, rfl, eb⟩
        · rw [if_neg (show ¬ C ∈ T.p.TX from hb)] at h
          cases h
theorem tgC_rel {c : W} {v : V} {u : Value} {t : Tg} (r : RW X.K ad H c v) (rv : RelV v u) (h : tgC c = some t) : ClsV v t.v ∧ u = t.v := by
  cases r with
  | ty n => cases h; exact ⟨.ty n, rv⟩
  | glo a => cases h; exact ⟨.own a, rv⟩
  | _ => cases h
theorem any_kit (T : IsT X.K) {t : Tg} (ht : ∀ c ∈ T.Cs, PySem.W.kitOne X.K t.v c.v = some (T.f t c)) : ∀ {cs : List W} {vs : List V} {us : List Value} {b : Bool}, RWs X.K ad H cs vs → Vals vs us → T.p.any t cs = some b → PySem.W.kitAny X.K t.v us = some b
  | _, _, _, b, .nil, .nil, e => e
  | c :: cs, v :: vs, u :: us, b, .cons r rs, .cons rv rvs, e => by
    have e : (match tgC c, IsP.any T.p t cs with
      | some c, some b => if c ∈ T.Cs then some (T.f t c || b) else none
      | _, _ => none) = some b := e
    cases e1 : tgC c with
    | none => simp only [e1] at e; cases e
    | some c1 =>
      cases e2 : IsP.any T.p t cs with
      | none => simp only [e1, e2] at e; cases e
      | some b1 =>
        simp only [e1, e2] at e
        by_cases hc : c1 ∈ T.Cs
        · rw [if_pos hc] at e
          cases e
          obtain ⟨_, rfl⟩ := tgC_rel r rv e1
          refine kitAny_cons (ht c1 hc) (fun hf => ?_) fun hf => by rw [hf, Bool.true_or]
          rw [hf, Bool.false_or]
          exact any_kit T ht rs rvs e2
        · rw [if_neg hc] at e
          cases e
theorem lfn_isi (T : IsT X.K) : LfN X Wx (.builtin "isinstance") (wIsi T.p) := by
  intro pins s σ H ad env st ws vs us Q I sim r rv q
  cases r with
  | nil => exact q.elim
  | @cons w ws v vs r1 r =>
    cases r with
    | nil => cases w <;> exact q.elim
    | @cons c ws c' vs r2 r =>
      cases r with
      | cons _ _ => cases c <;> exact q.elim
      | nil =>
        obtain ⟨u1, u2, rfl, rv1, rv2⟩ := vals2 rv
        have one : (∀ cs, c ≠ .tup cs) → PW X.K Wx ad env σ H Q (match T.p.has w st, tgC c with
            | some t, some c => if c ∈ T.Cs then .ok (.bl (T.f t c)) st else .bad
            | _, _ => .bad) → wpAny (model X.prog X.w) X.A (call (.builtin "isinstance") [u1, u2]) (EP X pins σ Q) X.xe s := fun _ q => by
          cases e1 : T.p.has w st with
          | none => simp only [e1] at q; exact q.elim
          | some t =>
            cases e2 : tgC c with
            | none => simp only [e1, e2] at q; exact q.elim
            | some c1 =>
              simp only [e1, e2] at q
              by_cases hc : c1 ∈ T.Cs
              · rw [if_pos hc] at q
                obtain ⟨⟨P, Z, p, hx⟩, ht⟩ := has_kit T I sim.st r1 rv1 e1
                obtain ⟨_, rfl⟩ := tgC_rel r2 rv2 e2
                exact PySem.W.kia_one Z I.kIn p (ht c1 hc) hx fun tk => ⟨.bl _, H, I.tok tk, rfl, q ad H _ .refl sim (.bl _)⟩
              · rw [if_neg hc] at q
                exact q.elim
        cases r2 with
        | @tup cs tp xs hq rs =>
          have q : PW X.K Wx ad env σ H Q (match T.p.has w st with
            | some t => match T.p.any t cs with
              | some b => .ok (.bl b) st
              | none => .bad
            | none => .bad) := q
          cases e1 : T.p.has w st with
          | none => simp only [e1] at q; exact q.elim
          | some t =>
            cases e2 : T.p.any t cs with
            | none => simp only [e1, e2] at q; exact q.elim
            | some b =>
              simp only [e1, e2] at q
              obtain ⟨⟨P, Z, p, hx⟩, ht⟩ := has_kit T I sim.st r1 rv1 e1
              obtain rfl : u2 = Value.ref tp := rv2
              obtain ⟨its, rvs, ⟨o, h1, h2, n, h3⟩, _⟩ := I.tuple hq
              obtain ⟨oc, od, dt, sl⟩ := o
              simp only at h2 h3
              subst h2 h3
              exact PySem.W.kia_tup Z I.kIn p h1 (any_kit T ht rs rvs e2) hx fun tk => ⟨.bl b, H, I.tok tk, rfl, q ad H _ .refl sim (.bl _)⟩
        | non => exact one (fun _ z => nomatch z) q
        | bl b => exact one (fun _ z => nomatch z) q
        | int b => exact one (fun _ z => nomatch z) q
        | str b => exact one (fun _ z => nomatch z) q
        | ty b => exact one (fun _ z => nomatch z) q
        | glo b => exact one (fun _ z => nomatch z) q
        | ref b => exact one (fun _ z => nomatch z) q
        | frz b c => exact one (fun _ z => nomatch z) q

structure FdT (K : PySem.W.Frag) (TI TX : List Addr) (f : Str) : Prop where
  hI : ∀ C ∈ TI, Cls K C ∧ NoAttr K C f
  hX : ∀ C ∈ TX, XfC K C ∧ PySem.W.findIn K (.ref C) f = some none
def getA (TI TX : List Addr) (f : Str) : W → S → R W
  | .ref n, s => match s.get n with
    | some (.ins C fs) => if C ∈ TI then match fs.lookup f with
        | some w => .ok w s
        | none => .bad
      else .bad
    | some (.exc C fs) => if C ∈ TX then match fs.lookup f with
        | some w => .ok w s
        | none => .bad
      else .bad
    | _ => .bad
  | _, _ => .bad
theorem se_attr {TI TX : List Addr} {f : Str} {a : Expr} {ma : ME} {pos : Pos} (T : FdT X.K TI TX f) (he : PE X a (tE X.K Wx ma)) (hb : attributeBase a f X.env (eval a X.env) = eval a X.env := by rfl) : PE X (.Attribute a f pos) (tE X.K Wx (m1 (getA TI TX f) ma)) := by
  refine ⟨fun pins s σ H Q I ⟨ad, env, st, sim, q⟩ => ?_⟩
  refine attr_of hb (run_bind he PW.excOk I sim q fun w st1 v u H1 ad1 s1 _ e1 s1' r rv I1 p => ?_)
  cases r with
  | @ref n p0 hp =>
    obtain rfl : u = Value.ref p0 := rv
    simp only [getA] at p
    cases eg : st1.get n with
    | none => simp only [eg] at p; exact p.elim
    | some o =>
      cases o with
      | ins C fs =>
        simp only [eg] at p
        by_cases hC : C ∈ TI
        · simp only [if_pos hC] at p
          cases ef : fs.lookup f with
          | none => simp only [ef] at p; exact p.elim
          | some w =>
            simp only [ef] at p
            obtain ⟨dx, fvs, h1, h2⟩ : ∃ dx fvs, H1 p0 = some (.ins C dx fvs) ∧ RFs X.K ad1 H1 fs fvs := s1'.st.obj n _ p0 eg hp
            obtain ⟨v, h3, h4⟩ := rfs_lookup h2 ef
            exact getattr_ok I1 h1 (T.hI C hC).1 (T.hI C hC).2 h3 fun u s' I2 ru => ⟨v, H1, I2, ru, p ad1 H1 v e1 s1' h4⟩
        · simp only [if_neg hC] at p
          exact p.elim
      | exc C fs =>
        simp only [eg] at p
        by_cases hC : C ∈ TX
        · simp only [if_pos hC] at p
          cases ef : fs.lookup f with
          | none => simp only [ef] at p; exact p.elim
          | some w =>
            simp only [ef] at p
            rcases s1'.st.obj n _ p0 eg hp with ⟨hz, _⟩ | ⟨d, fvs, hv, hd, h2⟩
            · rw [hz] at ef; cases ef
            · obtain ⟨v, h3, h4⟩ := rfs_lookup h2 ef
              obtain ⟨⟨oe, vs, e, z, dd⟩, _, _⟩ := I1.hok p0 _ hv
              have hx : ObjOk X.prog X.w H1 s1.heap d (.xd fvs) := I1.hok d _ hd
              obtain ⟨mA, hns, hr⟩ := hx
              obtain ⟨od, ho, hl⟩ := lookIn_ns hns
              obtain ⟨u, hu, ru⟩ := RelO.some_of (v := v) (o := mA f) (by rw [← h3]; exact hr f)
              have J : PySem.W.InstAt s1.heap p0 oe C (some od) := ⟨e, z.1, by unfold PySem.W.notCls; rw [dd] <;> rfl, by rw [z.2]; exact ho⟩
              exact HandSPX.exc_get I1.kIn J (T.hX C hC).1.ga (T.hX C hC).1.gg (T.hX C hC).1.exC (PySem.W.findObj_own (T.hX C hC).1.hdC (T.hX C hC).2 rfl (by rw [hl, hu])) (handed_of ru) ⟨v, H1, I1.tok _, ru, p ad1 H1 v e1 s1' h4⟩
        · simp only [if_neg hC] at p
          exact p.elim
      | lst _ => simp only [eg] at p; exact p.elim
      | dic _ => simp only [eg] at p; exact p.elim
  | _ => exact p.elim
end

theorem landedV {X : Cx} [Link X.K] {pins : List (Addr × Obj)} {σ : L2.St} {H : Hp} {sI s' : Shared} {B : Heap} {a : Addr} {cls : Value} {d : Option Addr} {oe : Obj} {vs : Array Value} (I : Inv X pins σ H sI) (nb : ∀ b o, sI.heap.get? b = some o → b ∉ frs X.stack → B.get? b = some o) (ba : B.get? a = none) (nf : a ∉ frs X.stack)
    (st : B.StaysIn s'.heap) (up : sI.heap.UpToSlots s'.heap) (os : s'.os = sI.os) (ag : AllBare s'.gens) (na : H a = none) (he : s'.heap.get? a = some oe) (hz : Zc cls d oe) (hd : oe.data = .fields vs) : Inv X pins σ (upd H a (ExV cls d a)) s' := by
  have frm : ∀ b ∈ frs X.stack, ∀ o, sI.heap.get? b = some o → ∃ sl, s'.heap.get? b = some { o with slots := sl } := fun b hb o e => by
    obtain ⟨_, o', e', hd⟩ := I.stack.mem hb
    rw [e] at e'; cases e'
    exact up b o e hd
  have neA : ∀ {b : Addr} {o : Obj}, sI.heap.get? b = some o → b ≠ a := fun {b o} e z => by
    subst z
    have := nb b o e nf
    rw [ba] at this
    cases this
  have hok2 : HOk X.prog X.w (upd H a (ExV cls d a)) s'.heap := by
    have h1 : HOk X.prog X.w H s'.heap := (I.inGround nb).kept st
    exact h1.laidN (fun _ _ q => q) na (exV_ok he hz hd)
  have J := I.call (ch := []) (h' := s'.heap) (g' := s'.gens) (t' := s'.toks) (d' := s'.drawn) (H' := upd H a (ExV cls d a))
    ⟨fun b o e _ hb _ => st b o (nb b o e hb), fun b o e _ hb _ => frm b hb o e, fun b o e n _ => by rw [upd_ne (neA e)]; exact n, fun b o e _ => by
      by_cases hb : b ∈ frs X.stack
      · obtain ⟨sl, q⟩ := frm b hb o e
        exact ⟨_, q⟩
      · exact ⟨o, st b o (nb b o e hb)⟩, fun b xs e => by rw [upd_ne (ne_of_none e na)]; exact e, fun b u xs e => by rw [upd_ne (ne_of_none e na)]; exact e, fun b ps e => ⟨#[], by rw [upd_ne (ne_of_none e na), e]; simp⟩⟩
    hok2 ag (fun _ z => nomatch z)
  obtain ⟨a1, a2, a3, a4, a5⟩ := s'
  have e5 : a5 = sI.os := os
  subst e5
  exact J
theorem toSuite {X : Cx} [Link X.K] {pins : List (Addr × Obj)} {σ : L2.St} {H : Hp} {s : Shared} (I : Inv X pins σ H s) (a : Addr) : Inv (X.suite a (X.pn ++ pins)) [] σ H s :=
  ⟨I.ok.suite _ _, I.os, I.bare, I.base, I.loc, I.cell, I.free, I.freeC, fun p hp => I.pin p (by rw [List.append_nil] at hp; exact hp), I.hok, I.len⟩
theorem ofSuite {X : Cx} [Link X.K] {pins pn' : List (Addr × Obj)} {σ : L2.St} {H : Hp} {s : Shared} {a : Addr} (I : Inv (X.suite a (X.pn ++ pins)) pn' σ H s) (ok : X.Ok) : Inv X pins σ H s :=
  ⟨ok, I.os, I.bare, I.base, I.loc, I.cell, I.free, I.freeC, fun p hp => I.pin p (List.mem_append_left _ hp), I.hok, I.len⟩
structure Cat (K : PySem.W.Frag) (c : Value) where
  on : List Addr
  f : Addr → Bool
  ok : ∀ C ∈ on, PySem.W.exmOne K (.ref C) c = some (f C)
def mTry (on : List Addr) (f : Addr → Bool) (pre : Env → Nat → Env) (post : Env → Env) (mb ms : MS) : MS := fun env st => match mb env st with
  | .exc C fs env' st' => if C ∈ on then if f C then match ms (pre env' st'.sz) (st'.add (.exc C fs)) with
      | .nx e s => .nx (post e) s
      | .bk e s => .bk (post e) s
      | .ct e s => .ct (post e) s
      | .rt w s => .rt w s
      | _ => .bad
    else .exc C fs env' st' else .bad
  | r => r
section
variable {X : Cx} [Link X.K] {Wx : WX} {x n : Str} {c : Value} {i : Nat} {body suite : List Stmt} {b₀ : Stmt} {np pos pos' : Pos} {mb ms : MS}
theorem sp_tryAs (T : Cat X.K c) (hs : X.stack = X.env :: X.outer) (hf : X.env.frame = some X.env.locals) (hN : X.N.Nodup) (hi : X.N[i]? = some n) (hln : X.env.kindOf n = some .local) (hc : Names X x c) (tk : Takes X Wx)
    (hb : ∀ (W : WX) (pn : List (Addr × Obj)) (xe : Value → Shared → Prop), Takes (X.tr pn xe) W → PassesOwn (model X.prog X.w) X.A X.env xe → PSs (X.tr pn xe) body (tS X.K W mb))
    (hsu : ∀ (W : WX) (a : Addr) (pn : List (Addr × Obj)), PSs (X.suite a pn) (b₀ :: suite) (tS X.K W ms)) :
    PS X (.Try body [.ExceptHandler (some (.Name x np)) (some n) (b₀ :: suite) pos'] [] [] pos) (tS X.K Wx (mTry T.on T.f (fun e k => e.set i (some (.ref k))) (fun e => e.set i none) mb ms)) := by
  refine ⟨fun pins s σ H D I ⟨ad, env, st, sim, q⟩ => ?_⟩
  have ok := I.ok
  have hfr : X.A.frames = some (X.env :: X.outer) := by rw [ok.frames, hs]
  have hloc : Loc X.env.scope n := .inl hln
  refine wpAny_Try_except ?_
  have rd : tS X.K (fun cls d σ' H' => ∃ C fs env' st' ad', mb env st = .exc C fs env' st' ∧ Ext X.K ad H ad' H' ∧ Sim X.K ad' env' σ' st' H' ∧ XR X.K ad' H' C fs cls d) mb D σ H := by
    refine ⟨ad, env, st, sim, ?_⟩
    unfold mTry at q
    cases e : mb env st with
    | exc C fs env' st' => exact fun ad' H' σ' cls d e1 s1 x1 => ⟨C, fs, env', st', ad', rfl, e1, s1, x1⟩
    | nx env' st' => rw [e] at q; exact q
    | rt w st' => rw [e] at q; exact q
    | bk env' st' => rw [e] at q; exact q
    | ct env' st' => rw [e] at q; exact q
    | bad => rw [e] at q; exact q.elim
  refine wpAny_mono ((hb _ (X.pn ++ pins) (fun e s₁ => wpAny (model X.prog X.w) X.A (noteFrame e X.env) (fun _ s₂ => wpAny (model X.prog X.w) X.A (setFlight e none) (fun _ s₃ =>
    wpAny (model X.prog X.w) X.A (handleBy e X.env [.ExceptHandler (some (.Name x np)) (some n) (b₀ :: suite) pos']) (SP X pins D) X.xe s₃) X.xe s₂) X.xe s₁) (fun u s' xx => ?_) PassesOwn.looking).run [] s σ H D (I.toTry _) rd) (fun f s1 hsp => ?_) (fun e s1 he => he)
  · obtain ⟨a, B, sI, pins', σ', H', cls, d, rfl, J', nb, up, sky, na, os, ag, C, fs, env', st', ad', em, ex1, sim1, xr⟩ := xx
    have q : PSt X.K Wx ad H D (mTry T.on T.f (fun e k => e.set i (some (.ref k))) (fun e => e.set i none) mb ms env st) := q
    unfold mTry at q
    rw [em] at q
    simp only at q
    have hon : C ∈ T.on := Decidable.byContradiction fun hn => by
      rw [if_neg hn] at q
      exact q
    rw [if_pos hon] at q
    obtain rfl : cls = .ref C := xr.1
    have J : Inv X pins σ' H' sI := J'.ofTry ok
    have sky' : Sky B (X.env :: X.outer) a (Zc (.ref C) d) X.env.locals s'.heap := by rw [← hs]; exact sky
    show wpAny (model X.prog X.w) X.A (noteFrame (.ref a) X.env) _ _ _
    refine Sky.land Zc.steady hfr hf sky' fun h3 fl3 up3 => ?_
    have J3 : Inv X pins σ' H' { s' with heap := h3 } := J.landed nb fl3.1 (up.trans up3) os ag
    obtain ⟨oe3, vs3, he3, hz3, hd3⟩ := fl3.there
    have nfr : a ∉ frs (X.env :: X.outer) := fun hm => by
      obtain ⟨_, o', e', hnf⟩ := Heap.FunFrames.mem fl3.2.2.1 hm
      rw [he3] at e'; cases e'
      exact hnf _ hd3
    have nL : a ≠ X.env.locals := fun z => nfr (List.mem_filterMap.mpr ⟨X.env, List.mem_cons_self, by rw [hf, z]⟩)
    have nF : a ∉ X.fs := fun hm => by
      obtain ⟨e, he, q⟩ := List.mem_filterMap.mp hm
      exact nfr (List.mem_filterMap.mpr ⟨e, List.mem_cons_of_mem _ he, q⟩)
    have S3 := J3.suite he3 hd3 na nL nF
    refine wpAny_handleBy_cons (codeAny_handlers_test ?_) (by intro q; cases q)
    have LT : PySem.W.Looks (model X.prog X.w) h3 (typeOf (.ref a)) (.ref C) := fun A Q E s k q => wpAny_typeOf_ref (k _ _ he3) (by rw [hz3.1]; exact q)
    have LM := PySem.W.exm_one (M := model X.prog X.w) (J3.kIn) LT (T.ok C hon)
    have test : ∀ {Q : Value → Shared → Prop} {E : Value → Shared → Prop}, Q c { s' with heap := h3 } → wpAny (model X.prog X.w) (X.A.mark (some (.ref a))) (eval (.Name x np) X.env) Q E { s' with heap := h3 } := fun {Q E} q => by
      obtain ⟨hg, hdbg, hm | ⟨hm, hv, hnn⟩⟩ := hc
      · exact ld_glob (X := X.suite a ((a, oe3) :: (X.pn ++ pins))) S3 hg hm q hdbg
      · exact ld_blt (X := X.suite a ((a, oe3) :: (X.pn ++ pins))) S3 hg hm hv q hnn hdbg
    refine test (LM.here ?_)
    cases hb2 : T.f C with
    | true =>
      rw [if_pos hb2] at q
      refine codeAny_handlers_suite_as (HandSPX.lands_againZ fl3 fun h4 fl4 up4 => ?_)
      obtain ⟨oe4, vs4, he4, hz4, hd4⟩ := fl4.there
      have J4 : Inv X pins σ' (upd H' a (ExV (.ref C) d a)) { s' with heap := h4 } := landedV J nb fl4.2.1 (by rw [hs]; exact nfr) fl4.1 ((up.trans up3).trans up4) os ag na he4 hz4 hd4
      obtain ⟨e4, sim4, rw4⟩ := sim_exc sim1.st na xr
      refine store_ok (X := X.suite a (X.pn ++ pins)) (v := .ref a) (toSuite J4 a) hN hi hloc rfl (fun s5 S5 => ?_) (.inr hln)
      have fin : tS X.K (fun _ _ _ _ => False) ms { nx := fun σ' H' => D.nx (σ'.set i none) H', rt := D.rt, bk := fun σ' H' => D.bk (σ'.set i none) H', ct := fun σ' H' => D.ct (σ'.set i none) H' } (σ'.set i (some (.ref a))) (upd H' a (ExV (.ref C) d a)) := by
        refine ⟨_, env'.set i (some (.ref st'.sz)), _, ⟨sim4, (sim1.en.mono e4).set rw4⟩, ?_⟩
        cases em2 : ms (env'.set i (some (.ref st'.sz))) (st'.add (.exc C fs)) with
        | nx e2 st2 => rw [em2] at q; exact fun ad2 H2 σ2 x2 s2 => q ad2 H2 _ ((ex1.trans e4).trans x2) ⟨s2.st, s2.en.unset⟩
        | bk e2 st2 => rw [em2] at q; exact fun ad2 H2 σ2 x2 s2 => q ad2 H2 _ ((ex1.trans e4).trans x2) ⟨s2.st, s2.en.unset⟩
        | ct e2 st2 => rw [em2] at q; exact fun ad2 H2 σ2 x2 s2 => q ad2 H2 _ ((ex1.trans e4).trans x2) ⟨s2.st, s2.en.unset⟩
        | rt w st2 => rw [em2] at q; exact fun ad2 H2 v x2 s2 r2 => q ad2 H2 v ((ex1.trans e4).trans x2) s2 r2
        | exc _ _ _ _ => rw [em2] at q; exact q.elim
        | bad => rw [em2] at q; exact q.elim
      refine wpAny_mono ((hsu (fun _ _ _ _ => False) a (X.pn ++ pins)).run [] s5 _ _ _ S5 fin) (fun f s6 hsp => ?_) (fun _ _ z => False.elim z)
      have end_ : ∀ {σ6 : L2.St} {H6 : Hp} {Q : Shared → Prop}, Inv (X.suite a (X.pn ++ pins)) [] σ6 H6 s6 → (∀ s7, Inv X pins (σ6.set i none) H6 s7 → Q s7) →
          wpAny (model X.prog X.w) X.A (do bindName X.env n .none; unbindBehindTheSuite X.env n pos') (fun _ s7 => Q s7) X.xe s6 := fun {σ6 H6 Q} S6 hq => gone_ok (ofSuite S6 ok) hN hi hln hq
      cases f with
      | next =>
        obtain ⟨σ6, H6, S6, q6⟩ := hsp
        exact end_ S6 fun s7 J7 => ⟨_, _, J7, q6⟩
      | brk =>
        obtain ⟨σ6, H6, S6, q6⟩ := hsp
        exact end_ S6 fun s7 J7 => ⟨_, _, J7, q6⟩
      | cont =>
        obtain ⟨σ6, H6, S6, q6⟩ := hsp
        exact end_ S6 fun s7 J7 => ⟨_, _, J7, q6⟩
      | ret u =>
        obtain ⟨v6, σ6, H6, S6, r6, q6⟩ := hsp
        exact end_ S6 fun s7 J7 => ⟨_, _, _, J7, r6, q6⟩
    | false =>
      rw [if_neg (by rw [hb2]; exact Bool.false_ne_true)] at q
      show wpAny _ X.A (handleBy (.ref a) X.env []) _ _ _
      refine wpAny_handleBy_nil ?_
      obtain ⟨k1, k2, k3, oe, vs, T1, oT, ts', he, hz, hd, h1, hr⟩ := id fl3
      unfold PySem.passOn
      refine wpAny_bind (wpAny_field he hd h1 ?_)
      rw [if_neg (show ¬ ((Value.ref T1 == Value.none) = true) from by simp)]
      have fin : wpAny (model X.prog X.w) X.A (setFlight (.ref a) X.env.frame) (fun _ s4 => wpAny (model X.prog X.w) X.A (throw (.ref a) : Sem Flow) (SP X pins D) X.xe s4) X.xe { s' with heap := h3 } := by
        rw [hf]
        refine HandSPX.setFlight_upZ fl3 fun h4 hh4 up4 => wpAny_throw (tk _ _ ?_)
        exact ⟨a, B, sI, pins, σ', H', .ref C, d, rfl, J, nb, (up.trans up3).trans up4, .inr (.inr (by rw [hs]; exact hh4)), na, os, ag, q ad' H' σ' (.ref C) d ex1 sim1 xr⟩
      first
        | exact wpAny_bind (wpAny_pure (wpAny_bind fin))
        | exact wpAny_bind fin
  · cases f with
    | next =>
      obtain ⟨σ', H', J', q⟩ := hsp
      exact wpAny_execs_nil ⟨σ', H', J'.ofTry ok, q⟩
    | brk =>
      obtain ⟨σ', H', J', q⟩ := hsp
      exact ⟨σ', H', J'.ofTry ok, q⟩
    | cont =>
      obtain ⟨σ', H', J', q⟩ := hsp
      exact ⟨σ', H', J'.ofTry ok, q⟩
    | ret u =>
      obtain ⟨v, σ', H', J', r, q⟩ := hsp
      exact ⟨v, σ', H', J'.ofTry ok, r, q⟩
end
end MM

namespace MM
open PySem PySem.Spec PyProof.Rows L2

def rd : Nat → S → W → Option PyData
  | 0, _, _ => none
  | k + 1, s, w => match w with
    | .non => some .none
    | .bl b => some (.bool b)
    | .int i => some (.int i)
    | .str x => some (.str x)
    | .tup ws => (ws.mapM (rd k s)).map .tuple
    | .frz ws => (ws.mapM (rd k s)).map .list
    | .ref n => match s.get n with
      | some (.lst ws) => (ws.mapM (rd k s)).map .list
      | _ => none
    | _ => none
section
variable {X : Cx} [Link X.K] {Wx : WX} {pins : List (Addr × Obj)} {s : Shared} {σ : L2.St} {H : Hp} {ad : List Addr} {env : Env} {st : S}
theorem reads_all {k : Nat} (one : ∀ (w : W) (v : V) (u : Value) (d : PyData), RW X.K ad H w v → RelV v u → rd k st w = some d → ∃ as, Reads s.heap u d as) : ∀ (ws : List W) (vs : List V) (us : List Value) (ds : List PyData), RWs X.K ad H ws vs → Vals vs us → ws.mapM (rd k st) = some ds → ∃ as, ReadsAll s.heap us ds as
  | _, _, _, ds, .nil, .nil, e => by
    rw [List.mapM_nil] at e
    cases e
    exact ⟨_, .nil⟩
  | w :: ws, v :: vs, u :: us, ds, .cons r rs, .cons q qs, e => by
    rw [List.mapM_cons] at e
    cases e1 : rd k st w with
    | none => rw [e1] at e; cases e
    | some d =>
      cases e2 : ws.mapM (rd k st) with
      | none => rw [e1, e2] at e; cases e
      | some ds' =>
        rw [e1, e2] at e
        cases e
        obtain ⟨as, h1⟩ := one w v u d r q e1
        obtain ⟨bs, h2⟩ := reads_all one ws vs us ds' rs qs e2
        exact ⟨_, .cons h1 h2⟩
theorem reads_of (I : Inv X pins σ H s) (sim : Sim0 X.K ad st H) : ∀ (k : Nat) (w : W) (v : V) (u : Value) (d : PyData), RW X.K ad H w v → RelV v u → rd k st w = some d → ∃ as, Reads s.heap u d as
  | 0, _, _, _, _, _, _, e => by cases e
  | k + 1, w, v, u, d, r, q, e => by
    have ih := reads_all (X := X) (s := s) (st := st) (ad := ad) (H := H) (k := k) (reads_of I sim k)
    cases r with
    | non =>
      cases e
      obtain rfl : u = Value.none := q
      exact ⟨_, .none⟩
    | bl b =>
      cases e
      obtain rfl : u = Value.bool b := q
      exact ⟨_, .bool b⟩
    | int i =>
      cases e
      obtain ⟨t, rfl⟩ : ∃ t, u = Value.int i t := q
      exact ⟨_, .int i t⟩
    | str x =>
      cases e
      obtain ⟨t, rfl⟩ : ∃ t, u = Value.str x t := q
      exact ⟨_, .str x t⟩
    | ty n => cases e
    | glo a => cases e
    | @tup ws a vs hq rs =>
      obtain rfl : u = Value.ref a := q
      have e : (ws.mapM (rd k st)).map PyData.tuple = some d := e
      cases e1 : ws.mapM (rd k st) with
      | none => rw [e1] at e; cases e
      | some ds =>
        rw [e1] at e
        cases e
        obtain ⟨its, rv, ⟨o, h1, h2, n, h3⟩, _⟩ := I.tuple hq
        obtain ⟨as, h⟩ := ih ws vs its ds rs rv e1
        exact ⟨_, .tuple h1 h2 h3 (by simpa using h)⟩
    | @frz ws a vs hq rs =>
      obtain rfl : u = Value.ref a := q
      have e : (ws.mapM (rd k st)).map PyData.list = some d := e
      cases e1 : ws.mapM (rd k st) with
      | none => rw [e1] at e; cases e
      | some ds =>
        rw [e1] at e
        cases e
        obtain ⟨its, rv, ⟨o, n, h1, h2, _, h3⟩, _⟩ := I.list hq.sq
        obtain ⟨as, h⟩ := ih ws vs its ds rs rv e1
        exact ⟨_, .list h1 h2 h3 (by simpa using h)⟩
    | @ref n a hp =>
      obtain rfl : u = Value.ref a := q
      unfold rd at e
      cases eg : st.get n with
      | none => simp only [eg] at e; cases e
      | some ob =>
        cases ob with
        | lst ws =>
          simp only [eg] at e
          cases e1 : ws.mapM (rd k st) with
          | none => rw [e1] at e; cases e
          | some ds =>
            rw [e1] at e
            cases e
            obtain ⟨vs, h1, h2⟩ : ∃ vs, H a = some (.lst vs) ∧ RWs X.K ad H ws vs := sim.obj n _ a eg hp
            obtain ⟨its, rv, ⟨o, n, h3, h4, _, h5⟩, _⟩ := I.list (.of h1)
            obtain ⟨as, h⟩ := ih ws vs its ds h2 rv e1
            exact ⟨_, .list h3 h4 h5 (by simpa using h)⟩
        | dic _ => simp only [eg] at e; cases e
        | ins _ _ => simp only [eg] at e; cases e
        | exc _ _ => simp only [eg] at e; cases e
def wEq (w w' : W) (s : S) : R W := match rd 60 s w, rd 60 s w' with
  | some d, some d' => if SeqAt.shaped d && SeqAt.shaped d' then .ok (.bl (PyData.eqv d d')) s else .bad
  | _, _ => .bad
def wNe (w w' : W) (s : S) : R W := match rd 60 s w, rd 60 s w' with
  | some d, some d' => if SeqAt.shaped d && SeqAt.shaped d' then .ok (.bl (!PyData.eqv d d')) s else .bad
  | _, _ => .bad
theorem lf_eq (hu : X.A.units + 64 < cLine) : Lf2 X Wx (compareOp .Eq) wEq := by
  intro pins s σ H ad env st w w' v v' u u' Q I sim r r' q q' p
  unfold wEq at p
  cases e1 : rd 60 st w with
  | none => simp only [e1] at p; exact p.elim
  | some d =>
    cases e2 : rd 60 st w' with
    | none => simp only [e1, e2] at p; exact p.elim
    | some d' =>
      simp only [e1, e2] at p
      by_cases hs : (SeqAt.shaped d && SeqAt.shaped d') = true
      · rw [if_pos hs] at p
        obtain ⟨h1, h2⟩ := Bool.and_eq_true_iff.mp hs
        obtain ⟨as, ra⟩ := reads_of I sim.st 60 w v u d r q e1
        obtain ⟨bs, rb⟩ := reads_of I sim.st 60 w' v' u' d' r' q' e2
        exact eq_dataH ra rb h1 h2 hu ⟨.bl _, H, I, rfl, p ad H _ .refl sim (.bl _)⟩
      · rw [if_neg hs] at p
        exact p.elim
theorem lf_ne (hu : X.A.units + 64 < cLine) : Lf2 X Wx (compareOp .NotEq) wNe := by
  intro pins s σ H ad env st w w' v v' u u' Q I sim r r' q q' p
  unfold wNe at p
  cases e1 : rd 60 st w with
  | none => simp only [e1] at p; exact p.elim
  | some d =>
    cases e2 : rd 60 st w' with
    | none => simp only [e1, e2] at p; exact p.elim
    | some d' =>
      simp only [e1, e2] at p
      by_cases hs : (SeqAt.shaped d && SeqAt.shaped d') = true
      · rw [if_pos hs] at p
        obtain ⟨h1, h2⟩ := Bool.and_eq_true_iff.mp hs
        obtain ⟨as, ra⟩ := reads_of I sim.st 60 w v u d r q e1
        obtain ⟨bs, rb⟩ := reads_of I sim.st 60 w' v' u' d' r' q' e2
        exact ne_dataH ra rb h1 h2 hu ⟨.bl _, H, I, rfl, p ad H _ .refl sim (.bl _)⟩
      · rw [if_neg hs] at p
        exact p.elim
end
end MM

namespace MM
open PySem PySem.Spec PyProof.Rows L2
section
variable {X : Cx} [Link X.K] {Wx : WX} {pins : List (Addr × Obj)} {s : Shared} {σ : L2.St} {H : Hp} {ad : List Addr} {env : Env} {st : S} {pos : Pos}
theorem one_rw {ws : List W} {vs : List V} {w : W} (r : RWs X.K ad H [w] vs) : ∃ v, vs = [v] ∧ RW X.K ad H w v := by
  cases r with
  | cons r rr =>
    cases rr
    exact ⟨_, rfl, r⟩
def refW : W → Bool
  | .tup _ => true
  | .frz _ => true
  | .ref _ => true
  | _ => false
theorem isRef {w : W} {v : V} (r : RW X.K ad H w v) (h : refW w = true) : ∃ a, v = .ref a := by
  cases r with
  | tup _ _ => exact ⟨_, rfl⟩
  | frz _ _ => exact ⟨_, rfl⟩
  | ref _ => exact ⟨_, rfl⟩
  | _ => cases h
def wRepr : List W → S → R W
  | [.int i], s => if i.natAbs.log2 < 1920 then .ok (.str (toString i)) s else .bad
  | [w], s => if refW w then match rd 60 s w with
    | some d => if d.showable && !d.hasDict && decide (d.depth ≤ 60) && decide (d.shown.length ≤ 1000000) then .ok (.str d.shown) s else .bad
    | none => .bad
    else .bad
  | _, _ => .bad
theorem lfn_repr (hg : X.A.guards = some []) (hu : X.A.units + 64 < cLine) : LfN X Wx (.builtin "repr") wRepr := by
  intro pins s σ H ad env st ws vs us Q I sim r rv q
  cases r with
  | nil => exact q.elim
  | @cons w ws v vs r r2 =>
    cases r2 with
    | cons _ _ => cases w <;> exact q.elim
    | nil =>
      have big : refW w = true → PW X.K Wx ad env σ H Q (match rd 60 st w with
          | some d => if d.showable && !d.hasDict && decide (d.depth ≤ 60) && decide (d.shown.length ≤ 1000000) then .ok (.str d.shown) st else .bad
          | none => .bad) → wpAny (model X.prog X.w) X.A (call (.builtin "repr") us) (EP X pins σ Q) X.xe s := fun hw q => by
        obtain ⟨u, rfl, ru⟩ := vals1 rv
        obtain ⟨a, rfl⟩ := isRef r hw
        obtain rfl : u = Value.ref a := ru
        cases e : rd 60 st w with
        | none => simp only [e] at q; exact q.elim
        | some d =>
          simp only [e] at q
          by_cases hc : (d.showable && !d.hasDict && decide (d.depth ≤ 60) && decide (d.shown.length ≤ 1000000)) = true
          · rw [if_pos hc] at q
            obtain ⟨h1, h4⟩ := Bool.and_eq_true_iff.mp hc
            obtain ⟨h1, h3⟩ := Bool.and_eq_true_iff.mp h1
            obtain ⟨h1, h2⟩ := Bool.and_eq_true_iff.mp h1
            have h3 := of_decide_eq_true h3
            obtain ⟨as, rd⟩ := reads_of I sim.st 60 w (.ref a) (.ref a) d r rfl e
            refine repr_of_reads' rd h1 (PyData.noDict_hsm (by simpa using h2)) hg (by omega) (fun _ _ h => h) (fun h' u tk k => ?_) (line_of (of_decide_eq_true h4))
            exact ⟨.str _, H, I.kept k, ⟨u, rfl⟩, q ad H _ .refl sim (.str _)⟩
          · rw [if_neg hc] at q
            exact q.elim
      cases r with
      | @int i =>
        by_cases hl : i.natAbs.log2 < 1920
        · simp only [wRepr, if_pos hl] at q
          exact SkE.call_repr_int pins s σ H _ us Q I rv ⟨i, rfl, hl, q ad H _ .refl sim (.str _)⟩
        · simp only [wRepr, if_neg hl] at q
          exact q.elim
      | tup hq rs => exact big rfl q
      | frz hq rs => exact big rfl q
      | ref hp => exact big rfl q
      | _ => exact q.elim

def hasIn (x : PyData) (xs : List PyData) : Bool := xs.any fun y => PyData.eqv y x
def inStr (i j : Str) : Bool := !(Builtin.Str.occurrences j i 0 j.length 1).isEmpty
def wInB (w w' : W) (s : S) : R Bool := match w, w' with
  | .str i, .str j => .ok (inStr i j) s
  | _, _ => match rd 60 s w, rd 60 s w' with
    | some d, some (.list ds) => if SeqAt.shaped d && SeqAt.shaped (.list ds) then .ok (hasIn d ds) s else .bad
    | some d, some (.tuple ds) => if SeqAt.shaped d && SeqAt.shaped (.tuple ds) then .ok (hasIn d ds) s else .bad
    | _, _ => .bad
def wIn (w w' : W) (s : S) : R W := (wInB w w' s).bind fun b s => .ok (.bl b) s
def wNotIn (w w' : W) (s : S) : R W := (wInB w w' s).bind fun b s => .ok (.bl (!b)) s
theorem room_in {A : Around} {d : PyData} {ds : List PyData} (h : SeqAt.shaped d = true) (hu : A.units + 65 < cLine) : A.units + 1 + min (PyData.depthAll ds) d.depth < cLine := by
  have h1 := SeqAt.depth_of_shaped h
  have h2 : min (PyData.depthAll ds) d.depth ≤ d.depth := Nat.min_le_right _ _
  omega
theorem in_ok (hu : X.A.units + 65 < cLine) {w w' : W} {v v' : V} {u u' : Value} {Q : VK} (I : Inv X pins σ H s) (sim : Sim X.K ad env σ st H) (r : RW X.K ad H w v) (r' : RW X.K ad H w' v') (q : RelV v u) (q' : RelV v' u') {b : Bool} {st' : S} (e : wInB w w' st = .ok b st') :
    st' = st ∧ (Q (.bl b) H → wpAny (model X.prog X.w) X.A (compareOp .In u u') (EP X pins σ Q) X.xe s) ∧ (Q (.bl (!b)) H → wpAny (model X.prog X.w) X.A (compareOp .NotIn u u') (EP X pins σ Q) X.xe s) := by
  have data : (match rd 60 st w, rd 60 st w' with
    | some d, some (.list ds) => if SeqAt.shaped d && SeqAt.shaped (.list ds) then R.ok (hasIn d ds) st else .bad
    | some d, some (.tuple ds) => if SeqAt.shaped d && SeqAt.shaped (.tuple ds) then .ok (hasIn d ds) st else .bad
    | _, _ => .bad) = .ok b st' → st' = st ∧ (Q (.bl b) H → wpAny (model X.prog X.w) X.A (compareOp .In u u') (EP X pins σ Q) X.xe s) ∧ (Q (.bl (!b)) H → wpAny (model X.prog X.w) X.A (compareOp .NotIn u u') (EP X pins σ Q) X.xe s) := fun e => by
    cases e1 : rd 60 st w with
    | none => simp only [e1] at e; cases e
    | some d =>
      cases e2 : rd 60 st w' with
      | none => simp only [e1, e2] at e; cases e
      | some d' =>
        obtain ⟨as, ra⟩ := reads_of I sim.st 60 w v u d r q e1
        obtain ⟨bs, rb⟩ := reads_of I sim.st 60 w' v' u' d' r' q' e2
        cases d' with
        | list ds =>
          simp only [e1, e2] at e
          by_cases hs : (SeqAt.shaped d && SeqAt.shaped (.list ds)) = true
          · rw [if_pos hs] at e
            cases e
            obtain ⟨h1, h2⟩ := Bool.and_eq_true_iff.mp hs
            refine ⟨rfl, fun p => ?_, fun p => ?_⟩
            · exact SeqAt.in_list_reads rb ra (SeqAt.canLay_of_shaped h2) (SeqAt.canLay_of_shaped h1) (room_in h1 hu) ⟨.bl _, H, I, rfl, p⟩
            · exact SeqAt.notIn_list_reads rb ra (SeqAt.canLay_of_shaped h2) (SeqAt.canLay_of_shaped h1) (room_in h1 hu) ⟨.bl _, H, I, rfl, p⟩
          · rw [if_neg hs] at e
            cases e
        | tuple ds =>
          simp only [e1, e2] at e
          by_cases hs : (SeqAt.shaped d && SeqAt.shaped (.tuple ds)) = true
          · rw [if_pos hs] at e
            cases e
            obtain ⟨h1, h2⟩ := Bool.and_eq_true_iff.mp hs
            refine ⟨rfl, fun p => ?_, fun p => ?_⟩
            · exact SeqAt.in_tuple_reads rb ra (SeqAt.canLay_of_shaped h2) (SeqAt.canLay_of_shaped h1) (room_in h1 hu) ⟨.bl _, H, I, rfl, p⟩
            · exact SeqAt.notIn_tuple_reads rb ra (SeqAt.canLay_of_shaped h2) (SeqAt.canLay_of_shaped h1) (room_in h1 hu) ⟨.bl _, H, I, rfl, p⟩
          · rw [if_neg hs] at e
            cases e
        | none => simp only [e1, e2] at e; cases e
        | bool _ => simp only [e1, e2] at e; cases e
        | int _ => simp only [e1, e2] at e; cases e
        | str _ => simp only [e1, e2] at e; cases e
        | dict _ => simp only [e1, e2] at e; cases e
  cases r with
  | str i =>
    cases r' with
    | str j =>
      cases e
      exact ⟨rfl, fun p => op_in_str pins s σ H _ _ u u' Q I q q' ⟨i, j, rfl, rfl, p⟩, fun p => op_notin_str pins s σ H _ _ u u' Q I q q' ⟨i, j, rfl, rfl, p⟩⟩
    | _ => exact data e
  | _ => exact data e
theorem lf_in (hu : X.A.units + 65 < cLine) : Lf2 X Wx (compareOp .In) wIn := by
  intro pins s σ H ad env st w w' v v' u u' Q I sim r r' q q' p
  unfold wIn at p
  cases e : wInB w w' st with
  | bad => rw [e] at p; exact p.elim
  | exc C fs s' =>
    unfold wInB at e
    repeat (first | (split at e) | cases e)
  | ok b st' =>
    rw [e] at p
    obtain ⟨rfl, h, _⟩ := in_ok (Q := Q) hu I sim r r' q q' e
    exact h (p ad H _ .refl sim (.bl _))
theorem lf_notIn (hu : X.A.units + 65 < cLine) : Lf2 X Wx (compareOp .NotIn) wNotIn := by
  intro pins s σ H ad env st w w' v v' u u' Q I sim r r' q q' p
  unfold wNotIn at p
  cases e : wInB w w' st with
  | bad => rw [e] at p; exact p.elim
  | exc C fs s' =>
    unfold wInB at e
    repeat (first | (split at e) | cases e)
  | ok b st' =>
    rw [e] at p
    obtain ⟨rfl, _, h⟩ := in_ok (Q := Q) hu I sim r r' q q' e
    exact h (p ad H _ .refl sim (.bl _))
def wIsBl : W → W → S → R W
  | .bl a, .bl b, s => .ok (.bl (decide (a = b))) s
  | _, _, _ => .bad
def wNotBl : W → W → S → R W
  | .bl a, .bl b, s => .ok (.bl (!decide (a = b))) s
  | _, _, _ => .bad
theorem lf_isBl : Lf2 X Wx (compareOp .Is) wIsBl := by
  refine Lf2.of op_isBl fun σ H ad env st w w' v v' Q sim r r' p => ?_
  cases r with
  | bl a =>
    cases r' with
    | bl b => exact ⟨a, b, rfl, rfl, p ad H _ .refl sim (.bl _)⟩
    | _ => exact p.elim
  | _ => cases r' <;> exact p.elim
theorem lf_notBl : Lf2 X Wx (compareOp .IsNot) wNotBl := by
  refine Lf2.of op_notBl fun σ H ad env st w w' v v' Q sim r r' p => ?_
  cases r with
  | bl a =>
    cases r' with
    | bl b => exact ⟨a, b, rfl, rfl, p ad H _ .refl sim (.bl _)⟩
    | _ => exact p.elim
  | _ => cases r' <;> exact p.elim

def wLen : List W → S → R W
  | [.str x], s => if x.length ≤ 1000000 then .ok (.int x.length) s else .bad
  | [w], s => match itemsW w s with
    | some ws => .ok (.int ws.length) s
    | none => .bad
  | _, _ => .bad
theorem lfn_len : LfN X Wx (.builtin "len") wLen := by
  refine LfN.of call_len fun σ H ad env st ws vs Q sim r p => ?_
  cases r with
  | nil => exact p.elim
  | @cons w ws v vs r r2 =>
    cases r2 with
    | cons _ _ => cases w <;> exact p.elim
    | nil =>
      cases r with
      | str x =>
        by_cases hl : x.length ≤ 1000000
        · simp only [wLen, if_pos hl] at p
          exact ⟨_, _, rfl, ⟨line_of hl, rfl⟩, p ad H _ .refl sim (.int _)⟩
        · simp only [wLen, if_neg hl] at p
          exact p.elim
      | @tup ws a vs hq rs =>
        refine ⟨_, _, rfl, .inr ⟨_, hq, rfl⟩, ?_⟩
        rw [← rs.length]
        exact p ad H _ .refl sim (.int _)
      | @frz ws a vs hq rs =>
        refine ⟨_, _, rfl, .inl ⟨_, hq.sq, rfl⟩, ?_⟩
        rw [← rs.length]
        exact p ad H _ .refl sim (.int _)
      | @ref n a hp =>
        simp only [wLen, itemsW] at p
        cases e : lst? st n with
        | none => simp only [e] at p; exact p.elim
        | some ws =>
          simp only [e] at p
          obtain ⟨vs, hv, rs⟩ := lst_ro sim.st e hp
          refine ⟨_, _, rfl, .inl ⟨_, .of hv, rfl⟩, ?_⟩
          rw [← rs.length]
          exact p ad H _ .refl sim (.int _)
      | _ => exact p.elim
def wInt : List W → S → R W
  | [.int i], s => .ok (.int i) s
  | [.bl b], s => .ok (.int (if b then 1 else 0)) s
  | _, _ => .bad
theorem lfn_int : LfN X Wx (.type "int") wInt := by
  refine LfN.of call_int1 fun σ H ad env st ws vs Q sim r p => ?_
  cases r with
  | nil => exact p.elim
  | @cons w ws v vs r r2 =>
    cases r2 with
    | cons _ _ => cases w <;> exact p.elim
    | nil =>
      cases r with
      | int i => exact .inl ⟨i, rfl, p ad H _ .refl sim (.int _)⟩
      | bl b => exact .inr ⟨b, rfl, p ad H _ .refl sim (.int _)⟩
      | _ => exact p.elim
def wAbs : List W → S → R W
  | [.int i], s => .ok (.int (if i < 0 then -i else i)) s
  | _, _ => .bad
theorem lfn_abs : LfN X Wx (.builtin "abs") wAbs := by
  refine LfN.of call_abs fun σ H ad env st ws vs Q sim r p => ?_
  cases r with
  | nil => exact p.elim
  | @cons w ws v vs r r2 =>
    cases r2 with
    | cons _ _ => cases w <;> exact p.elim
    | nil =>
      cases r with
      | int i => exact ⟨i, rfl, p ad H _ .refl sim (.int _)⟩
      | _ => exact p.elim
def wList : List W → S → R W
  | [w], s => match itemsW w s with
    | some ws => .ok (.ref s.sz) (s.add (.lst ws))
    | none => .bad
  | _, _ => .bad
theorem lfn_list : LfN X Wx (.type "list") wList := by
  refine LfN.of call_list_of fun σ H ad env st ws vs Q sim r p => ?_
  cases r with
  | nil => exact p.elim
  | @cons w ws v vs r r2 =>
    cases r2 with
    | cons _ _ => exact p.elim
    | nil =>
      cases e : itemsW w st with
      | none => simp only [wList, e] at p; exact p.elim
      | some xs =>
        simp only [wList, e] at p
        obtain ⟨a, vs, rfl, hq, rs⟩ := itemsW_ok sim.st r e
        refine ⟨a, vs, rfl, hq.symm, fun l hl => ?_⟩
        obtain ⟨e2, s2, r2⟩ := sim_newLst sim hl rs
        exact p _ _ _ e2 s2 r2
def wTuple : List W → S → R W
  | [.tup ws], s => .ok (.tup ws) s
  | [w], s => match itemsW w s with
    | some ws => .ok (.tup ws) s
    | none => .bad
  | _, _ => .bad
theorem lfn_tuple : LfN X Wx (.type "tuple") wTuple := by
  refine LfN.of call_tuple_of fun σ H ad env st ws vs Q sim r p => ?_
  have fin : ∀ {a : Addr} {xs : List W} {vs : List V}, SqL X.K H a vs → RWs X.K ad H xs vs → PW X.K Wx ad env σ H Q (.ok (.tup xs) st) → ∃ p ys, [V.ref a] = [V.ref p] ∧ ((SqL X.K H p ys ∧ ∀ l, H l = none → Q (.ref l) (upd H l (.tup ys))) ∨ (SqT X.K H p ys ∧ Q (.ref p) H)) := fun {a xs vs} hq rs p => by
    refine ⟨a, vs, rfl, .inl ⟨hq, fun l hl => ?_⟩⟩
    have e4 : Ext X.K ad H ad (upd H l (.tup vs)) := ext_keep (up_keep hl)
    exact p ad _ _ e4 (sim.ext (sim.st.keep (up_keep hl)) e4) (.tup (.of upd_same) (rs.mono e4))
  cases r with
  | nil => exact p.elim
  | @cons w ws v vs r r2 =>
    cases r2 with
    | cons _ _ => cases w <;> exact p.elim
    | nil =>
      cases r with
      | @tup ws a vs hq rs => exact ⟨a, vs, rfl, .inr ⟨hq, p ad H _ .refl sim (.tup hq rs)⟩⟩
      | @frz ws a vs hq rs => exact fin hq.sq rs p
      | @ref n a hp =>
        simp only [wTuple, itemsW] at p
        cases e : lst? st n with
        | none => simp only [e] at p; exact p.elim
        | some xs =>
          simp only [e] at p
          obtain ⟨vs, hv, rs⟩ := lst_ro sim.st e hp
          exact fin (.of hv) rs p
      | _ => exact p.elim
def blsW : List W → Option (List Bool)
  | [] => some []
  | .bl b :: r => (blsW r).map (b :: ·)
  | _ => none
theorem blsW_ok : ∀ {ws : List W} {bs : List Bool} {vs : List V}, blsW ws = some bs → RWs X.K ad H ws vs → vs = bs.map V.bl
  | [], bs, vs, e, r => by
    cases e
    cases r
    rfl
  | w :: ws, bs, vs, e, r => by
    cases r with
    | cons r rs =>
      cases r with
      | bl b =>
        have e : (blsW ws).map (b :: ·) = some bs := e
        cases e2 : blsW ws with
        | none => rw [e2] at e; cases e
        | some bs' =>
          rw [e2] at e
          cases e
          rw [List.map_cons, blsW_ok e2 rs]
      | _ => cases e
def wAll : List W → S → R W
  | [.ref n], s => match (lst? s n).bind blsW with
    | some bs => .ok (.bl (bs.all id)) s
    | none => .bad
  | _, _ => .bad
theorem lfn_all (hc : X.calm = true) : LfN X Wx (.builtin "all") wAll := by
  refine LfN.of (cr_all hc) fun σ H ad env st ws vs Q sim r p => ?_
  cases r with
  | nil => exact p.elim
  | @cons w ws v vs r r2 =>
    cases r2 with
    | cons _ _ => cases w <;> exact p.elim
    | nil =>
      cases r with
      | @ref n a hp =>
        simp only [wAll] at p
        cases e : lst? st n with
        | none => simp only [e, Option.bind_none] at p; exact p.elim
        | some xs =>
          cases e2 : blsW xs with
          | none => simp only [e, Option.bind_some, e2] at p; exact p.elim
          | some bs =>
            simp only [e, Option.bind_some, e2] at p
            obtain ⟨vs, hv, rs⟩ := lst_ro sim.st e hp
            rw [blsW_ok e2 rs] at hv
            exact ⟨a, bs, rfl, .of hv, p ad H _ .refl sim (.bl _)⟩
      | _ => exact p.elim

def LfM (X : Cx) [Link X.K] (Wx : WX) (id : String) (g : W → List W → S → R W) : Prop :=
  ∀ (pins : List (Addr × Obj)) (s : Shared) (σ : L2.St) (H : Hp) (ad : List Addr) (env : Env) (st : S) (w : W) (v : V) (u : Value) (ws : List W) (vs : List V) (us : List Value) (Q : VK), Inv X pins σ H s → Sim X.K ad env σ st H → RW X.K ad H w v → RelV v u → RWs X.K ad H ws vs → Vals vs us →
    PW X.K Wx ad env σ H Q (g w ws st) → wpAny (model X.prog X.w) X.A (call (.builtin id) (u :: us)) (EP X pins σ Q) X.xe s
theorem LfM.of {id : String} {r : V → List V → Hp → VK → Prop} {g : W → List W → S → R W} (ho : MtR X id r)
    (h : ∀ (σ : L2.St) (H : Hp) (ad : List Addr) (env : Env) (st : S) (w : W) (v : V) (ws : List W) (vs : List V) (Q : VK), Sim X.K ad env σ st H → RW X.K ad H w v → RWs X.K ad H ws vs → PW X.K Wx ad env σ H Q (g w ws st) → r v vs H Q) : LfM X Wx id g :=
  fun pins s σ H ad env st w v u ws vs us Q I sim r1 q1 r2 q2 p => ho pins s σ H v vs u us Q I q1 q2 (h σ H ad env st w v ws vs Q sim r1 r2 p)
def tyW (T : String) : W → S → Bool
  | .str _, _ => T == "str"
  | .int _, _ => T == "int"
  | .ref n, s => match s.get n with
    | some (.lst _) => T == "list"
    | some (.dic _) => T == "dict"
    | _ => false
  | _, _ => false
theorem tyW_ok {T : String} {w : W} {v : V} (sim : Sim0 X.K ad st H) (r : RW X.K ad H w v) (h : tyW T w st = true) : tyV X.K T v H := by
  cases r with
  | str x => exact (beq_iff_eq.mp h)
  | int x => exact (beq_iff_eq.mp h)
  | @ref n a hp =>
    unfold tyW at h
    cases e : st.get n with
    | none => simp only [e] at h; cases h
    | some o =>
      cases o with
      | lst ws =>
        simp only [e] at h
        obtain ⟨vs, hv, _⟩ := sim.obj n _ a e hp
        exact .inl ⟨beq_iff_eq.mp h, vs, .of hv⟩
      | dic kvs =>
        simp only [e] at h
        obtain ⟨vs, hv, _⟩ := sim.obj n _ a e hp
        exact .inr (.inr (.inl ⟨beq_iff_eq.mp h, .inl ⟨vs, hv⟩⟩))
      | ins _ _ => simp only [e] at h; cases h
      | exc _ _ => simp only [e] at h; cases h
  | _ => cases h
def mBM (T : String) (g : W → List W → S → R W) (mo : ME) (n : MA) : ME := fun env st => (mo env st).bind fun o s1 => if tyW T o s1 then (n env s1).bind fun ws s2 => g o ws s2 else .bad
variable {o e : Expr} {es : List Expr} {mo me : ME} {n : MA} {name : Str} {apos cpos : Pos} {T id : String} {g : W → List W → S → R W}
theorem se_bm0 (pa : PlainAttrs T) (slot : Slot T name id) (hty : typeOf (.builtin id) = pure (.type "method_descriptor")) (L : LfM X Wx id g) (ho : PE X o (tE X.K Wx mo))
    (hbase : attributeBase o name X.env (eval o X.env) = eval o X.env := by rfl) (hline : (apos.endLine == cpos.line) = true := by rfl) : PE X (.Call (.Attribute o name apos) [] [] cpos) (tE X.K Wx (mBM T g mo mLNil)) := by
  refine ⟨fun pins s σ H Q I ⟨ad, env, st, sim, q⟩ => ?_⟩
  refine wpAny_Call_method0_late hbase hline (run_bind ho PW.excOk I sim q fun w st1 v u H1 ad1 s1 _ e1 s1' r rv I1 p => ?_)
  by_cases ht : tyW T w st1 = true
  · rw [if_pos ht] at p
    obtain ⟨h1, h2⟩ := tyV_is I1 rv (tyW_ok s1'.st r ht)
    exact ⟨T, id, pa, slot, hty, h1, h2, Calls.callWith_builtin rfl (PySem.evalArgs_none (L pins s1 σ H1 ad1 env st1 w v u [] [] [] Q I1 s1' r rv .nil .nil (PW.ext p e1)))⟩
  · rw [if_neg ht] at p
    exact p.elim
theorem se_bm (pa : PlainAttrs T) (slot : Slot T name id) (hty : typeOf (.builtin id) = pure (.type "method_descriptor")) (L : LfM X Wx id g) (ho : PE X o (tE X.K Wx mo)) (ha : PA X (e :: es) (tL X.K Wx n))
    (hbase : attributeBase o name X.env (eval o X.env) = eval o X.env := by rfl)
    (hfew : ((backTo cpos (starEach (e :: es) X.env)).all (fun x => !x.1) && (backToKw cpos (keywordEach [] X.env)).all (fun x => x.1.isSome)
      && decide ((e :: es).length + ([] : List Keyword).length + (if ([] : List Keyword).isEmpty then 0 else 1) < 30)) = true := by rfl)
    (hline : (apos.endLine == cpos.line) = true := by rfl) (hs : starEach (e :: es) X.env = (false, eval e X.env) :: starEach es X.env := by rfl) (hplain : (backTo cpos (starEach es X.env)).any (·.1) = false := by rfl) :
    PE X (.Call (.Attribute o name apos) (e :: es) [] cpos) (tE X.K Wx (mBM T g mo n)) := by
  refine ⟨fun pins s σ H Q I ⟨ad, env, st, sim, q⟩ => ?_⟩
  refine wpAny_Call_method_late hbase hfew hline rfl (run_bind ho PW.excOk I sim q fun w st1 v u H1 ad1 s1 _ e1 s1' r rv I1 p => ?_)
  by_cases ht : tyW T w st1 = true
  · rw [if_pos ht] at p
    obtain ⟨h1, h2⟩ := tyV_is I1 rv (tyW_ok s1'.st r ht)
    refine ⟨T, id, pa, slot, hty, h1, h2, ?_⟩
    have hA := run_bindL (pos := cpos) ha PW.excOk I1 s1' (PW.ext p e1) (G := fun us s2 => wpAny (model X.prog X.w) X.A (call (.builtin id) (u :: us)) (EP X pins σ Q) X.xe s2) fun ws st2 vs us H2 ad2 s2 _ e2 s2' r2 rv2 I2 p2 =>
      L pins s2 σ H2 ad2 env st2 w v u ws vs us Q I2 s2' (r.mono e2) rv r2 rv2 (PW.ext p2 e2)
    rw [hs] at hA ⊢
    exact Calls.callWith_builtin (by show (false || (backTo cpos (starEach es X.env)).any (·.1)) = false; rw [hplain] <;> rfl) (Calls.evalArgs_plain hA)
  · rw [if_neg ht] at p
    exact p.elim
def gAppend : W → List W → S → R W
  | .ref n, [w], s => match lst? s n with
    | some ws => if ws.length < 1000000 then .ok .non (s.put n (.lst (ws ++ [w]))) else .bad
    | none => .bad
  | _, _, _ => .bad
theorem sim_putLst {n : Nat} {a : Addr} {ws ws' : List W} {vs vs' : List V} (sim : Sim X.K ad env σ st H) (hp : ad[n]? = some a) (hv : H a = some (.lst vs)) (r : RWs X.K ad H ws' vs') : Ext X.K ad H ad (upd H a (.lst vs')) ∧ Sim X.K ad env σ (st.put n (.lst ws')) (upd H a (.lst vs')) := by
  have kk : ∀ b z, b ≠ a → H b = some z → upd H a (.lst vs') b = some z := fun b z hb h => by rw [upd_ne hb]; exact h
  have e : Ext X.K ad H ad (upd H a (.lst vs')) := ext_put hv (.inl ⟨_, rfl⟩) kk
  exact ⟨e, sim.ext (sim.st.wr hp hv (.inl ⟨_, rfl⟩) kk ⟨vs', upd_same, r.mono e⟩) e⟩
theorem lfm_append : LfM X Wx "list.append" gAppend := by
  refine LfM.of mt_append fun σ H ad env st w v ws vs Q sim r rs p => ?_
  cases r with
  | @ref n a hp =>
    cases rs with
    | nil => exact p.elim
    | @cons w2 ws v2 vs r2 rs =>
      cases rs with
      | cons _ _ => exact p.elim
      | nil =>
        simp only [gAppend] at p
        cases e : lst? st n with
        | none => simp only [e] at p; exact p.elim
        | some xs =>
          simp only [e] at p
          by_cases hl : xs.length < 1000000
          · rw [if_pos hl] at p
            obtain ⟨ys, hv, rx⟩ := lst_ro sim.st e hp
            obtain ⟨e2, s2⟩ := sim_putLst (ws := xs) sim hp hv (rx.append (.cons r2 .nil))
            exact ⟨a, ys, v2, rfl, rfl, hv, by rw [← rx.length, sizeLine_eq]; omega, p ad _ _ e2 s2 .non⟩
          · rw [if_neg hl] at p
            exact p.elim
  | _ => exact p.elim
def strsW : List W → Option (List Str)
  | [] => some []
  | .str x :: r => (strsW r).map (x :: ·)
  | _ => none
theorem strsW_ok : ∀ {ws : List W} {xs : List Str} {vs : List V}, strsW ws = some xs → RWs X.K ad H ws vs → vs = xs.map V.str
  | [], bs, vs, e, r => by
    cases e
    cases r
    rfl
  | w :: ws, bs, vs, e, r => by
    cases r with
    | cons r rs =>
      cases r with
      | str b =>
        have e : (strsW ws).map (b :: ·) = some bs := e
        cases e2 : strsW ws with
        | none => rw [e2] at e; cases e
        | some bs' =>
          rw [e2] at e
          cases e
          rw [List.map_cons, strsW_ok e2 rs]
      | _ => cases e
theorem rws_strs : ∀ xs : List Str, RWs X.K ad H (xs.map W.str) (xs.map V.str)
  | [] => .nil
  | x :: xs => .cons (.str x) (rws_strs xs)
def gSplit : W → List W → S → R W
  | .str a, [.str b], s => if (b.length == 0) = false ∧ a.length ≤ 1000000 then .ok (.ref s.sz) (s.add (.lst ((Txt.split a b).map W.str))) else .bad
  | _, _, _ => .bad
theorem lfm_split : LfM X Wx "str.split" gSplit := by
  refine LfM.of mt_split fun σ H ad env st w v ws vs Q sim r rs p => ?_
  cases r with
  | str a =>
    cases rs with
    | nil => exact p.elim
    | @cons w2 ws v2 vs r2 rs =>
      cases rs with
      | cons _ _ => cases w2 <;> exact p.elim
      | nil =>
        cases r2 with
        | str b =>
          by_cases hl : (b.length == 0) = false ∧ a.length ≤ 1000000
          · simp only [gSplit, if_pos hl] at p
            refine ⟨a, b, rfl, rfl, hl.1, by rw [sizeLine_eq]; omega, fun l hl => ?_⟩
            obtain ⟨e2, s2, r2⟩ := sim_newLst sim hl (rws_strs (Txt.split a b))
            exact p _ _ _ e2 s2 r2
          · simp only [gSplit, if_neg hl] at p
            exact p.elim
        | _ => exact p.elim
  | _ => exact p.elim
def gJoin : W → List W → S → R W
  | .str a, [w], s => match (itemsW w s).bind strsW with
    | some ys => if (ys.map (·.length)).sum + ys.length * a.length ≤ 1000000 then .ok (.str (Txt.join a ys)) s else .bad
    | none => .bad
  | _, _, _ => .bad
theorem lfm_join : LfM X Wx "str.join" gJoin := by
  refine LfM.of mt_join fun σ H ad env st w v ws vs Q sim r rs p => ?_
  cases r with
  | str a =>
    cases rs with
    | nil => exact p.elim
    | @cons w2 ws v2 vs r2 rs =>
      cases rs with
      | cons _ _ => exact p.elim
      | nil =>
        simp only [gJoin] at p
        cases e : itemsW w2 st with
        | none => simp only [e, Option.bind_none] at p; exact p.elim
        | some xs =>
          cases e2 : strsW xs with
          | none => simp only [e, Option.bind_some, e2] at p; exact p.elim
          | some ys =>
            simp only [e, Option.bind_some, e2] at p
            by_cases hl : (ys.map (·.length)).sum + ys.length * a.length ≤ 1000000
            · rw [if_pos hl] at p
              obtain ⟨b, us, rfl, hq, rx⟩ := itemsW_ok sim.st r2 e
              rw [strsW_ok e2 rx] at hq
              exact ⟨a, b, ys, rfl, rfl, hq.symm, by omega, p ad H _ .refl sim (.str _)⟩
            · rw [if_neg hl] at p
              exact p.elim
  | _ => exact p.elim

variable {a b c : Expr} {ma mb mc : ME}
theorem se_chain {op op' : CmpOp} {g g' : W → W → S → R W} (L : Lf2 X Wx (compareOp op) g) (L' : Lf2 X Wx (compareOp op') g') (ha : PE X a (tE X.K Wx ma)) (hb : PE X b (tE X.K Wx mb)) (hc : PE X c (tE X.K Wx mc))
    (hm : lastMarks [op, op'] [b, c] = false := by with_unfolding_all rfl) : PE X (.Compare a [op, op'] [b, c] pos) (tE X.K Wx (mChain g g' ma mb mc)) := by
  refine ⟨fun pins s σ H Q I ⟨ad, env, st, sim, h⟩ => ?_⟩
  refine Compare_chain (run_bind ha PW.excOk I sim h fun w st1 v u H1 ad1 s1 _ x1 sim1 r1 q1 I1 p1 => chain_link (run_bind hb PW.excOk I1 sim1 (PW.ext p1 x1) fun w' st2 v' u' H2 ad2 s2 _ x2 sim2 r2 q2 I2 p2 => ?_)) hm
  have p2 := PW.ext p2 x2
  have leaf : PW X.K Wx ad2 env σ H2 (fun x H3 => ∃ k st3 ad3, x = .bl k ∧ Ext X.K ad2 H2 ad3 H3 ∧ Sim X.K ad3 env σ st3 H3 ∧ PW X.K Wx ad3 env σ H3 Q (if k then (mc env st3).bind fun y s4 => g' w' y s4 else .ok (.bl false) st3)) (g w w' st2) := by
    cases e : g w w' st2 with
    | bad => rw [e] at p2; exact p2
    | exc C fs st3 => rw [e] at p2; exact p2
    | ok z st3 =>
      rw [e] at p2
      intro ad3 H3 x x3 sim3 r3
      cases r3 with
      | bl k =>
        refine ⟨k, st3, ad3, rfl, x3, sim3, ?_⟩
        cases k with
        | true => exact PW.ext p2 x3
        | false => exact PW.ext p2 x3
      | _ => exact p2.elim
  refine thn (L pins s2 σ H2 ad2 env st2 w w' v v' u u' _ I2 sim2 (r1.mono x2) r2 q1 q2 leaf) fun d s3 ⟨x, H3, I3, r3, k, st3, ad3, ex, x3, sim3, q3⟩ => ?_
  subst ex
  cases r3
  refine wpAny_truthy_bool ?_
  cases k with
  | false => exact ite_ff ⟨.bl false, H3, I3, rfl, q3 ad3 H3 _ .refl sim3 (.bl _)⟩
  | true => exact ite_tt (chain_last (run_bind hc PW.excOk I3 sim3 q3 fun y st4 v4 u4 H4 ad4 s4 _ x4 sim4 r4 q4 I4 p4 => L' pins s4 σ H4 ad4 env st4 w' y v' v4 u' u4 Q I4 sim4 ((r2.mono x3).mono x4) r4 q2 q4 (PW.ext p4 x4)))
theorem st_chain {op op' : CmpOp} {g g' : W → W → S → R W} (L : Lf2 X Wx (compareOp op) g) (L' : Lf2 X Wx (compareOp op') g') (ha : PE X a (tE X.K Wx ma)) (hb : PE X b (tE X.K Wx mb)) (hc : PE X c (tE X.K Wx mc))
    (hm : lastMarks [op, op'] [b, c] = false := by with_unfolding_all rfl) : PT X (.Compare a [op, op'] [b, c] pos) (tB X.K Wx (mT asB (mChain g g' ma mb mc))) := by
  refine ⟨fun pins s σ H Q I ⟨ad, env, st, sim, h⟩ => ?_⟩
  have h' : PB X.K Wx ad env σ H Q ((ma env st).bind fun w s1 => (mb env s1).bind fun w' s2 => (g w w' s2).bind fun z s3 => match z with
      | .bl true => (mc env s3).bind fun y s4 => (g' w' y s4).bind asB
      | .bl false => .ok false s3
      | _ => .bad) := by
    have e : ((ma env st).bind fun w s1 => (mb env s1).bind fun w' s2 => (g w w' s2).bind fun z s3 => match z with
      | .bl true => (mc env s3).bind fun y s4 => (g' w' y s4).bind asB
      | .bl false => .ok false s3
      | _ => .bad) = mT asB (mChain g g' ma mb mc) env st := by
      unfold mT mChain
      cases ma env st with
      | exc => rfl
      | bad => rfl
      | ok w s1 =>
        simp only [R.bind_ok]
        cases mb env s1 with
        | exc => rfl
        | bad => rfl
        | ok w' s2 =>
          simp only [R.bind_ok]
          cases g w w' s2 with
          | exc => rfl
          | bad => rfl
          | ok z s3 =>
            simp only [R.bind_ok]
            cases z with
            | bl k =>
              cases k with
              | false => rfl
              | true =>
                simp only
                cases mc env s3 <;> rfl
            | _ => rfl
    rw [e]
    exact h
  refine isTrue_chain (run_bind ha PB.excOk I sim h' fun w st1 v u H1 ad1 s1 _ x1 sim1 r1 q1 I1 p1 => test_link (run_bind hb PB.excOk I1 sim1 (PB.ext p1 x1) fun w' st2 v' u' H2 ad2 s2 _ x2 sim2 r2 q2 I2 p2 => ?_)) hm
  have p2 := PB.ext p2 x2
  have leaf : PW X.K Wx ad2 env σ H2 (fun x H3 => ∃ k st3 ad3, x = .bl k ∧ Ext X.K ad2 H2 ad3 H3 ∧ Sim X.K ad3 env σ st3 H3 ∧ PB X.K Wx ad3 env σ H3 Q (if k then (mc env st3).bind fun y s4 => (g' w' y s4).bind asB else .ok false st3)) (g w w' st2) := by
    cases e : g w w' st2 with
    | bad => rw [e] at p2; exact p2
    | exc C fs st3 => rw [e] at p2; exact p2
    | ok z st3 =>
      rw [e] at p2
      intro ad3 H3 x x3 sim3 r3
      cases r3 with
      | bl k =>
        refine ⟨k, st3, ad3, rfl, x3, sim3, ?_⟩
        cases k with
        | true => exact PB.ext p2 x3
        | false => exact PB.ext p2 x3
      | _ => exact p2.elim
  refine thn (L pins s2 σ H2 ad2 env st2 w w' v v' u u' _ I2 sim2 (r1.mono x2) r2 q1 q2 leaf) fun d s3 ⟨x, H3, I3, r3, k, st3, ad3, ex, x3, sim3, q3⟩ => ?_
  subst ex
  cases r3
  refine wpAny_truthy_bool ?_
  cases k with
  | false => exact ite_ff ⟨H3, I3, q3 ad3 H3 .refl sim3⟩
  | true =>
    refine ite_tt (test_last (run_bind hc PB.excOk I3 sim3 q3 fun y st4 v4 u4 H4 ad4 s4 _ x4 sim4 r4 q4 I4 p4 => ?_))
    have p4 := PB.ext p4 x4
    have leaf2 : PW X.K Wx ad4 env σ H4 (fun x H5 => ∃ k, x = .bl k ∧ Q k H5) (g' w' y st4) := by
      cases e : g' w' y st4 with
      | ok z st5 =>
        rw [e] at p4
        intro ad5 H5 x x5 sim5 r5
        have p6 : PB X.K Wx ad4 env σ H4 Q (asB z st5) := p4
        obtain ⟨k, rfl, rfl⟩ := PB_bl r5 p6
        exact ⟨k, rfl, p6 ad5 H5 x5 sim5⟩
      | exc C fs st5 => rw [e] at p4; exact p4
      | bad => rw [e] at p4; exact p4
    refine thn (L' pins s4 σ H4 ad4 env st4 w' y v' v4 u' u4 _ I4 sim4 ((r2.mono x3).mono x4) r4 q2 q4 leaf2) fun d' s5 ⟨x, H5, I5, r5, k2, e2, q5⟩ => ?_
    subst e2
    cases r5
    exact wpAny_truthy_bool ⟨H5, I5, q5⟩

def wFmt : W → S → R W
  | .str y, s => if y.length ≤ 1000000 then .ok (.str y) s else .bad
  | .int i, s => if i.natAbs.log2 < 1920 then .ok (.str (toString i)) s else .bad
  | _, _ => .bad
theorem se_fmt (h : PE X a (tE X.K Wx ma)) : PE X (.FormattedValue a (-1) none pos) (tE X.K Wx (m1 wFmt ma)) := by
  refine (pe_fmt h).imp fun σ H Q ⟨ad, env, st, sim, q⟩ => ?_
  refine tE_then sim (PW.ok' (st := st)) q fun w st1 v H1 ad1 e1 s1 r p => ?_
  cases r with
  | str y =>
    by_cases hl : y.length ≤ 1000000
    · simp only [wFmt, if_pos hl] at p
      exact .inl ⟨y, rfl, line_of hl, p ad1 H1 _ e1 s1 (.str _)⟩
    · simp only [wFmt, if_neg hl] at p
      exact p.elim
  | int i =>
    by_cases hl : i.natAbs.log2 < 1920
    · simp only [wFmt, if_pos hl] at p
      exact .inr ⟨i, rfl, hl, p ad1 H1 _ e1 s1 (.str _)⟩
    · simp only [wFmt, if_neg hl] at p
      exact p.elim
  | _ => exact p.elim
def mJs : List ME → Str → Env → S → R W
  | [], acc, _, s => .ok (.str acc) s
  | m :: ms, acc, env, s => (m env s).bind fun w s1 => match w with
    | .str y => if (acc ++ y).length ≤ 1000000 then mJs ms (acc ++ y) env s1 else .bad
    | _ => .bad
theorem js_read : ∀ (ms : List ME) (acc : Str) (σ : L2.St) (H : Hp) (ad : List Addr) (env : Env) (st : S) (Q : VK), Sim X.K ad env σ st H → PW X.K Wx ad env σ H Q (mJs ms acc env st) → tJs (ms.map (tE X.K Wx)) acc σ H fun out H1 => Q (.str out) H1
  | [], acc, σ, H, ad, env, st, Q, sim, p => p ad H _ .refl sim (.str acc)
  | m :: ms, acc, σ, H, ad, env, st, Q, sim, p => by
    refine tE_then sim (PW.ok' (st := st)) p fun w st1 v H1 ad1 e1 s1 r p1 => ?_
    cases r with
    | str y =>
      by_cases hl : (acc ++ y).length ≤ 1000000
      · simp only [if_pos hl] at p1
        exact ⟨y, rfl, line_of hl, js_read ms (acc ++ y) σ H1 ad1 env st1 Q s1 (PW.ext p1 e1)⟩
      · simp only [if_neg hl] at p1
        exact p1.elim
    | _ => exact p1.elim
theorem se_joined {v1 v2 : Expr} {rest : List Expr} {ms : List ME} (h : PJ X (v1 :: v2 :: rest) (ms.map (tE X.K Wx))) : PE X (.JoinedStr (v1 :: v2 :: rest) pos) (tE X.K Wx (mJs ms Str.empty)) := by
  refine (pe_joined h).imp fun σ H Q ⟨ad, env, st, sim, q⟩ => ?_
  exact js_read ms Str.empty σ H ad env st Q sim q
end
end MM

namespace PySem
namespace MMe
open AutoSeq1 (wpAny_loadPart')
section
variable {prog : Program} {w : World} {A : Around} {E : Value → Shared → Prop} {s : Shared}
abbrev itOb (a : Addr) : Obj := { cls := .type "tuple_iterator", data := .fields #[.ref a, .int 0 0] }
abbrev enOb (j : Addr) : Obj := { cls := .type "enumerate", data := .fields #[.none, .bool false, .ref j, rawInt 0, .none, .none] }
theorem new_run (a : Addr) (xs : Array Value) (c : Nat) (od : Option Addr) (sl : Array (Option Value)) :
    Meets (Builtin.«enumerate.__new__» ⟨[.type "enumerate", .ref a], []⟩) (fun _ R s => s.heap.get? a = some { cls := .type "tuple", dict := od, data := .seq xs c, slots := sl } ∧
      R (.ok (.ret (.ref (s.heap.push (itOb a)).objs.size))) { s with heap := (s.heap.push (itOb a)).push (enOb s.heap.objs.size) }) :=
  .of_wp fun prog w A R s h => by
    obtain ⟨hp, g, d, tk, os⟩ := s
    obtain ⟨at_, fin⟩ := h
    have sub1 := sub_enumerate
    have isT : Heap.IsTuple (Shared.heap ⟨hp, g, d, tk, os⟩) a xs := ⟨_, at_, rfl, c, rfl⟩
    wp_walk using wpAny_loadPart' at_
    refine wpAny_stack_any fun st => wpAny_pure ?_
    split
    · rename_i cc _ _ _ _ _
      cases (cc == Value.type "enumerate")
      · wp_walk using wpAny_loadPart' at_, wpAny_pyIter_tuple isT
        exact ⟨_, rfl, fin⟩
      · wp_walk using wpAny_loadPart' at_, wpAny_pyIter_tuple isT
        exact ⟨_, rfl, fin⟩
    · wp_walk using wpAny_loadPart' at_, wpAny_pyIter_tuple isT
      exact ⟨_, rfl, fin⟩
theorem call_new {a : Addr} {xs : Array Value} {Q : Value → Shared → Prop} (isT : s.heap.IsTuple a xs)
    (fin : ∀ h', IsEnum h' (s.heap.objs.size + 1) s.heap.objs.size 0 .none → h'.IsTupleIter s.heap.objs.size a 0 → (∀ b o, s.heap.get? b = some o → h'.get? b = some o) → Q (.ref (s.heap.objs.size + 1)) { s with heap := h' }) :
    wpAny (model prog w) A (call (.type "enumerate") [.ref a]) Q E s := by
  obtain ⟨⟨c0, od, dt, sl⟩, at_, hc, c, hd⟩ := isT
  obtain rfl : c0 = .type "tuple" := hc
  obtain rfl : dt = .seq xs c := hd
  refine callType_new F.called_enumerate (by decide) (F.typeCall_enumerate_1 _) (F.newCall_enumerate_1 _) (fun obj => F.args_object_init_2 obj _) F.entry_enumerate_new (new_run a xs c od sl) ⟨at_, ?_⟩
  have sz : (s.heap.push (itOb a)).objs.size = s.heap.objs.size + 1 := Heap.size_push ..
  show _ ∧ _
  rw [sz]
  have en : IsEnum ((s.heap.push (itOb a)).push (enOb s.heap.objs.size)) (s.heap.objs.size + 1) s.heap.objs.size 0 .none := by
    have z := Heap.get?_push_size (s.heap.push (itOb a)) (o := enOb s.heap.objs.size) rfl
    rw [sz] at z
    exact z
  exact ⟨⟨_, en, rfl⟩, fin _ en ⟨_, Heap.get?_push_of_some _ (Heap.get?_push_size _ rfl), rfl, rfl⟩ fun b o x => Heap.get?_push_of_some _ (Heap.get?_push_of_some _ x)⟩
theorem next_body {q j a : Addr} {i : Nat} {xs : Array Value} {x old : Value} {Q : Value → Shared → Prop} (en : IsEnum s.heap q j i old) (it : s.heap.IsTupleIter j a i) (isT : s.heap.IsTuple a xs) (at_ : xs[i]? = some x) (ne : q ≠ j)
    (fin : ∀ h', IsEnumOut h' q j ((i : Int) + 1) x s.heap.objs.size → h'.IsTupleIter j a (i + 1) → h'.get? s.heap.objs.size = some { cls := .type "tuple", data := .seq #[.int i s.toks, x] } →
      (∀ b o, b ≠ q → b ≠ j → s.heap.get? b = some o → h'.get? b = some o) → Q (.ref s.heap.objs.size) { s with heap := h', toks := s.toks + 1 }) :
    wpAny (model prog w) A (Builtin.«enumerate.__next__» ⟨[.ref q], []⟩) (fun f s' => ∃ v, f = .done (.ret v) ∧ Q v s') E s := by
  obtain ⟨hp, g, d, tk, os⟩ := s
  refine wpAny_bind (m := field (.ref q) 2) (wpAny_field en rfl (x := .ref j) rfl ?_)
  refine wpAny_bind (RZ.nextOf_tuple_item it isT at_ fun h1 it1 sb1 => ?_)
  replace sb1 : Heap.SameBut j hp h1 := sb1
  have en1 : IsEnum h1 q j i old := (sb1.2 q ne).trans en
  refine wpAny_bind (m := field (.ref q) 3) (s := ⟨h1, g, d, tk, os⟩) (wpAny_field en1 rfl (x := rawInt i) rfl ?_)
  refine wpAny_bind (m := field (.ref q) 4) (s := ⟨h1, g, d, tk, os⟩) (wpAny_field en1 rfl (x := .none) rfl ?_)
  refine wpAny_bind (m := mkInt i) (s := ⟨h1, g, d, tk, os⟩) (wpAny_mkInt ?_)
  refine wpAny_bind (m := setField (.ref q) 3 (rawInt ((i : Int) + 1))) (s := ⟨h1, g, d, tk + 1, os⟩) (wpAny_setField_rec en1 (by simp) fun h2 en2 sb2 => ?_)
  replace sb2 : Heap.SameBut q h1 h2 := sb2
  replace en2 : IsEnum h2 q j ((i : Int) + 1) old := en2
  refine wpAny_bind (m := setField (.ref q) 4 .none) (s := ⟨h2, g, d, tk + 1, os⟩) (wpAny_setField_rec en2 (by simp) fun h3 en3 sb3 => ?_)
  replace sb3 : Heap.SameBut q h2 h3 := sb3
  replace en3 : IsEnum h3 q j ((i : Int) + 1) old := en3
  refine wpAny_bind (m := newTuple [.int i tk, x]) (s := ⟨h3, g, d, tk + 1, os⟩) (wpAny_newTuple ?_)
  have en4 : IsEnum (h3.push { cls := .type "tuple", data := .seq #[.int i tk, x] }) q j ((i : Int) + 1) old := Heap.get?_push_of_some _ en3
  generalize hh : h3.push { cls := .type "tuple", data := .seq #[.int i tk, x] } = h4 at en4
  have sz : h3.objs.size = hp.objs.size := by rw [sb3.1, sb2.1, sb1.1]
  have lq : q < hp.objs.size := Heap.lt_size en
  have t4 : h4.get? hp.objs.size = some { cls := .type "tuple", data := .seq #[.int i tk, x] } := by rw [← hh, ← sz]; exact Heap.get?_push_size _ rfl
  have k4 : ∀ b o, b ≠ q → b ≠ j → hp.get? b = some o → h4.get? b = some o := fun b o n1 n2 e => by
    rw [← hh]
    exact Heap.get?_push_of_some _ (sb3.extBut b o n1 (sb2.extBut b o n1 (sb1.extBut b o n2 e)))
  have it4 : h4.IsTupleIter j a (i + 1) := by
    rw [← hh]
    obtain ⟨o, e, r⟩ := (it1.extBut sb2.extBut (Ne.symm ne)).extBut sb3.extBut (Ne.symm ne)
    exact ⟨o, Heap.get?_push_of_some _ e, r⟩
  show wpAny _ _ (Builtin.SmallTypes.ownedTupleIsFree (.ref q) >>= _) _ _ ⟨h4, g, d, tk + 1, os⟩
  rw [sz]
  refine wpAny_bind ?_
  unfold Builtin.SmallTypes.ownedTupleIsFree
  refine wpAny_bind (wpAny_field en4 rfl (x := .none) rfl (wpAny_pure ?_))
  simp only [if_true]
  refine wpAny_bind (wpAny_rule (wpAny_bind (wpAny_field en4 rfl (x := old) rfl (wpAny_bind (wpAny_setField_rec en4 (by simp) fun h5 en5 sb5 => ?_)))))
  replace sb5 : Heap.SameBut q h4 h5 := sb5
  replace en5 : IsEnum h5 q j ((i : Int) + 1) x := en5
  show wpAny _ _ (Builtin.SmallTypes.ownedTupleHandOut (.ref q) (.ref hp.objs.size) >>= _) _ _ ⟨h5, g, d, tk + 1, os⟩
  refine wpAny_bind ?_
  unfold Builtin.SmallTypes.ownedTupleHandOut
  refine wpAny_bind (wpAny_setField_rec en5 (by simp) fun h6 en6 sb6 => ?_)
  replace sb6 : Heap.SameBut q h5 h6 := sb6
  replace en6 : IsEnumOut h6 q j ((i : Int) + 1) x hp.objs.size := en6
  refine wpAny_setField_rec en6 (by simp) fun h7 en7 sb7 => ?_
  replace sb7 : Heap.SameBut q h6 h7 := sb7
  replace en7 : IsEnumOut h7 q j ((i : Int) + 1) x hp.objs.size := en7
  refine wpAny_bind (wpAny_letGo (wpAny_pure ⟨_, rfl, fin h7 en7 ?_ ?_ ?_⟩))
  · exact ((it4.extBut sb5.extBut (Ne.symm ne)).extBut sb6.extBut (Ne.symm ne)).extBut sb7.extBut (Ne.symm ne)
  · exact sb7.extBut _ _ (Nat.ne_of_gt lq) (sb6.extBut _ _ (Nat.ne_of_gt lq) (sb5.extBut _ _ (Nat.ne_of_gt lq) t4))
  · exact fun b o n1 n2 e => sb7.extBut b o n1 (sb6.extBut b o n1 (sb5.extBut b o n1 (k4 b o n1 n2 e)))
theorem next_item {q j a : Addr} {i : Nat} {xs : Array Value} {x old : Value} {Q : Option Value → Shared → Prop} (en : IsEnum s.heap q j i old) (it : s.heap.IsTupleIter j a i) (isT : s.heap.IsTuple a xs) (at_ : xs[i]? = some x) (ne : q ≠ j)
    (fin : ∀ h', IsEnumOut h' q j ((i : Int) + 1) x s.heap.objs.size → h'.IsTupleIter j a (i + 1) → h'.get? s.heap.objs.size = some { cls := .type "tuple", data := .seq #[.int i s.toks, x] } →
      (∀ b o, b ≠ q → b ≠ j → s.heap.get? b = some o → h'.get? b = some o) → Q (some (.ref s.heap.objs.size)) { s with heap := h', toks := s.toks + 1 }) : wpAny (model prog w) A (pyNext (.ref q)) Q E s := by
  have ty : s.TypeIs (.ref q) "enumerate" := ⟨_, en, rfl⟩
  unfold pyNext
  exact wpAny_bind (wpAny_attempt (wpAny_callSpecial?_slot (name := Str.ofString "__next__") ty F.slot_enumerate_next
    (wpAny_call_entry F.slot_enumerate_next ty F.entry_enumerate_next (next_body en it isT at_ ne fun h' a b c k => wpAny_pure (fin h' a b c k)) (F.args_enumerate_next_1 _))))
theorem next_end {q j a : Addr} {i : Nat} {xs : Array Value} {old : Value} {Q : Option Value → Shared → Prop} (hh : A.handled = none) (en : IsEnum s.heap q j i old) (it : s.heap.IsTupleIter j a i) (isT : s.heap.IsTuple a xs) (at_ : xs[i]? = none)
    (fin : ∀ h', Heap.ExtBut j s.heap h' → Q none { s with heap := h' }) : wpAny (model prog w) A (pyNext (.ref q)) Q E s := by
  have ty : s.TypeIs (.ref q) "enumerate" := ⟨_, en, rfl⟩
  unfold pyNext
  refine wpAny_bind (wpAny_attempt (wpAny_callSpecial?_slot (name := Str.ofString "__next__") ty F.slot_enumerate_next (wpAny_call_entry F.slot_enumerate_next ty F.entry_enumerate_next ?_ (F.args_enumerate_next_1 _))))
  refine wpAny_bind (m := field (.ref q) 2) (wpAny_field en rfl (x := .ref j) rfl (wpAny_bind (RZ.nextOf_tuple_end hh it isT at_ fun h' x eb hx => ?_)))
  obtain ⟨o, e, c⟩ := hx
  exact wpAny_bind (wpAny_isInstance (T := "StopIteration") (b := true) ⟨o, e, c⟩ isSubtype_stop (wpAny_pure (fin _ eb)))
end
end MMe
end PySem
namespace MM
open PySem PySem.Spec PyProof.Rows L2
def ItEt (K : PySem.W.Frag) (a : Addr) : It :=
  ⟨fun i H => ∃ (xs : List V) (x : V), SqT K H a xs ∧ xs[i]? = some x, fun i H v H' => ∃ T x, v = .ref T ∧ H T = none ∧ H' = upd H T (.tup [.int (i : Nat), x]) ∧ ∀ xs, SqT K H a xs → xs[i]? = some x, fun i H => ∃ xs : List V, SqT K H a xs ∧ xs.length ≤ i⟩
theorem turn_et {P : Program} {w : World} {K : PySem.W.Frag} [Link K] {elts : List Expr} {kk : Nat} {tpos : Pos} (a q j : Addr) :
    Turn P w K (.Tuple elts kk tpos) (ItEt K a) [q, j] q (fun i h => (∃ old, IsEnum h q j ((i : Nat) : Int) old) ∧ h.IsTupleIter j a i ∧ q ≠ j) where
  mem := by simp
  obj := fun i h st b hb => by
    obtain ⟨⟨old, en⟩, ⟨o, e, hc, hd⟩, _⟩ := st
    rcases (show b = q ∨ b = j by simpa using hb) with rfl | rfl
    · exact ⟨_, en, fun v z => nomatch z⟩
    · exact ⟨o, e, fun v z => by rw [hd] at z; cases z⟩
  keep := fun i h h' st k => by
    obtain ⟨⟨old, en⟩, ⟨o, e, r⟩, ne⟩ := st
    exact ⟨⟨old, k q (by simp) _ en⟩, ⟨o, k j (by simp) o e, r⟩, ne⟩
  item := by
    intro X hP hw hK hc i pins s σ H E I hf st hg
    subst hP hw hK
    obtain ⟨⟨old, en⟩, it, ne⟩ := st
    obtain ⟨xs, x, hq, hx⟩ := hg
    obtain ⟨its, rv, isT, hz⟩ := I.tuple hq
    obtain ⟨u, hu, ru⟩ := rv.get hx
    have lq : q < s.heap.objs.size := Heap.lt_size en
    have lj : j < s.heap.objs.size := by obtain ⟨_, e, _⟩ := it; exact Heap.lt_size e
    refine MMe.next_item en it isT (x := u) (by simpa using hu) ne fun h1 out it1 hT hk => ?_
    refine ⟨_, rfl, wpAny_letOwnedTupleGo_enum (s := { s with heap := h1, toks := s.toks + 1 }) out fun h2 en2 sb => ?_⟩
    have hT2 : h2.get? s.heap.objs.size = some { cls := .type "tuple", data := .seq #[.int i s.toks, u] } := (sb.2 _ (Nat.ne_of_gt lq)).trans hT
    have new : ObjOk X.prog X.w (upd H s.heap.objs.size (.tup [.int (i : Nat), x])) h2 s.heap.objs.size (.tup [.int (i : Nat), x]) := ⟨line_of (by simp), [.int i s.toks, u], .cons ⟨_, rfl⟩ (.cons ru .nil), ⟨_, hT2, rfl, _, rfl⟩⟩
    have I1 : Inv X pins σ (upd H s.heap.objs.size (.tup [.int (i : Nat), x])) { s with heap := h2, toks := s.toks + 1 } :=
      I.turnedNew (ch := [q, j]) (fun b ob hb e => (sb.2 b (fun z => hb (by simp [z]))).trans (hk b ob (fun z => hb (by simp [z])) (fun z => hb (by simp [z])) e)) hf (Nat.le_refl _) new
    have it2 : h2.IsTupleIter j a (i + 1) := by
      obtain ⟨o, e, r⟩ := it1
      exact ⟨o, (sb.2 j (Ne.symm ne)).trans e, r⟩
    refine ⟨.ref s.heap.objs.size, _, I1, rfl, ⟨_, x, rfl, I.hok.fresh (Nat.le_refl _), rfl, fun ys hy => ?_⟩, ⟨⟨u, ?_⟩, it2, ne⟩, fun b hb => ?_⟩
    · rw [I.tuple_inj hy hq]
      exact hx
    · rw [show ((i + 1 : Nat) : Int) = (i : Int) + 1 by omega]
      exact en2
    · have hb' : b < s.heap.objs.size := by
        rcases (show b = q ∨ b = j by simpa using hb) with rfl | rfl
        · exact lq
        · exact lj
      rw [upd_ne (Nat.ne_of_lt hb')]
      exact (hf b hb).1
  done := by
    intro X hP hw hK hc i pins s σ H E I hf st hg
    subst hP hw hK
    obtain ⟨⟨old, en⟩, it, ne⟩ := st
    obtain ⟨xs, hq, hx⟩ := hg
    obtain ⟨its, rv, isT, hz⟩ := I.tuple hq
    obtain ⟨f0, f1, f2, f3, f4, f5⟩ := hf j (by simp)
    have hl := rv.length
    exact MMe.next_end (I.ok.hd hc) en it isT (by simp; omega) fun h' eb => ⟨rfl, I.turned (t' := s.toks) (fun b o hb e => eb b o hb e) f0 f1 f3 f4 f5⟩
  self := fun A i s Q E st h => by
    obtain ⟨⟨_, en⟩, _⟩ := st
    exact wpAny_pyIter_enum en h
theorem walk_et {K : PySem.W.Frag} [Link K] {a : Addr} {xs : List V} : Walk (ItEt K a) xs.length (fun H => SqT K H a xs) (YPair (fun i => some (.int (i : Nat))) (fun i => xs[i]?)) := by
  refine ⟨fun i _ hi q => ⟨xs, xs[i], q, by simp [hi]⟩, fun _ q => ⟨xs, q, Nat.le_refl _⟩, fun i H v H' _ q y => ?_⟩
  obtain ⟨T, x, h1, h2, h3, h4⟩ := y
  exact ⟨T, .int (i : Nat), x, h1, h2, h3, rfl, h4 xs q⟩
def srcEV (ws : List W) : Src := ⟨ws.length, fun i _ => (ws[i]?).map fun w => .tup [.int i, w], fun _ => true⟩
def srcEL (n k : Nat) : Src := ⟨k, fun i st => ((lst? st n).bind fun ws => ws[i]?).map fun w => .tup [.int i, w], fun st => match lst? st n with
  | some ws => ws.length == k
  | none => false⟩
def enumW : List W → S → R Src
  | [.tup ws], s => .ok (srcEV ws) s
  | [.ref n], s => match lst? s n with
    | some ws => .ok (srcEL n ws.length) s
    | none => .bad
  | _, _ => .bad
theorem srcOk_et {K : PySem.W.Frag} [Link K] {ad : List Addr} {H : Hp} {a : Addr} {ws : List W} {vs : List V} (h : SqT K H a vs) (r : RWs K ad H ws vs) : SrcOk K (ItEt K a) ad H (srcEV ws) := by
  refine ⟨fun H' => SqT K H' a vs, _, by rw [show (srcEV ws).n = ws.length from rfl, r.length]; exact walk_et, fun ad' H' st e _ _ => e.tup _ _ h, ?_⟩
  rintro i ad' H' st w x H2 hi e _ _ ha ⟨T, x1, y, rfl, hn, rfl, hx, hy⟩
  refine ⟨up_keep hn, ?_⟩
  cases hx
  have ha : (ws[i]?).map (fun w => W.tup [.int i, w]) = some w := ha
  cases e1 : ws[i]? with
  | none => rw [e1] at ha; cases ha
  | some w1 =>
    rw [e1] at ha
    cases ha
    obtain ⟨v, h1, h2⟩ := (r.mono e).get e1
    have hy : vs[i]? = some y := hy
    rw [h1] at hy
    cases hy
    exact .tup (.of upd_same) (.cons (.int _) (.cons (h2.mono (ext_keep (up_keep hn))) .nil))
theorem srcOk_el {K : PySem.W.Frag} [Link K] {ad : List Addr} {H : Hp} {a : Addr} {n k : Nat} (h : ad[n]? = some a) : SrcOk K (Ite K a) ad H (srcEL n k) := by
  have g : ∀ ad' H' st, Ext K ad H ad' H' → Sim0 K ad' st H' → (srcEL n k).ok st = true → ∃ ws vs, lst? st n = some ws ∧ ws.length = k ∧ H' a = some (.lst vs) ∧ RWs K ad' H' ws vs := fun ad' H' st e s ok => by
    have ok : (match lst? st n with | some ws => ws.length == k | none => false) = true := ok
    cases q : lst? st n with
    | none => rw [q] at ok; cases ok
    | some ws =>
      rw [q] at ok
      obtain ⟨vs, h1, h2⟩ : ∃ vs, H' a = some (.lst vs) ∧ RWs K ad' H' ws vs := s.obj n _ a (lst_some q) (e.pre _ _ h)
      exact ⟨ws, vs, rfl, by simpa using ok, h1, h2⟩
  refine ⟨fun H' => ∃ vs, SqL K H' a vs ∧ vs.length = k, fun i H v H' => ∃ T x, v = .ref T ∧ H T = none ∧ H' = upd H T (.tup [.int (i : Nat), x]) ∧ ∀ xs, SqL K H a xs → xs[i]? = some x, ⟨?_, ?_, ?_⟩, fun ad' H' st e s ok => ?_, ?_⟩
  · rintro i H' hi ⟨vs, hv, hl⟩
    have : i < vs.length := by rw [hl]; exact hi
    exact ⟨vs, vs[i], hv, by simp [this]⟩
  · rintro H' ⟨vs, hv, hl⟩
    exact ⟨vs, hv, by rw [hl]; exact Nat.le_refl _⟩
  · rintro i H' x H2 hi _ y
    exact y
  · obtain ⟨ws, vs, _, hl, h1, h2⟩ := g ad' H' st e s ok
    exact ⟨vs, .of h1, by rw [← h2.length]; exact hl⟩
  · rintro i ad' H' st w x H2 hi e s ok ha ⟨T, y, rfl, hn, rfl, hy⟩
    obtain ⟨ws, vs, el, hl, h1, h2⟩ := g ad' _ st e s ok
    refine ⟨up_keep hn, ?_⟩
    have ha : ((lst? st n).bind fun ws => ws[i]?).map (fun w => W.tup [.int i, w]) = some w := ha
    rw [el] at ha
    cases e1 : ws[i]? with
    | none => rw [Option.bind_some, e1] at ha; cases ha
    | some w1 =>
      rw [Option.bind_some, e1] at ha
      cases ha
      obtain ⟨v, q1, q2⟩ := h2.get e1
      rw [hy vs (.of h1)] at q1
      cases q1
      exact .tup (.of upd_same) (.cons (.int _) (.cons (q2.mono (ext_keep (up_keep hn))) .nil))
section
variable {X : Cx} [Link X.K] {Wx : WX} {pos : Pos} {e : Expr} {n : MA} {p tpos : Pos} {elts : List Expr} {kk : Nat}
theorem si_enum (hg : Gl X "enumerate") (hm : X.mg "enumerate" = none) (ha : PA X [e] (tL X.K Wx n)) (hs : starEach [e] X.env = [(false, eval e X.env)] := by rfl) :
    PI X (.Tuple elts kk tpos) (.Call (.Name "enumerate" p) [e] [] pos) (tI X.K Wx (mSrc enumW n)) := by
  refine ⟨fun pins s σ H Rf I ⟨ad, env, st, sim, q⟩ => ?_⟩
  refine Call_ (ld_blt I hg hm boot_enumerate (PyProof.Rows.callWith_type1 (thn (ha.run pos pins s σ H _ I (tL_thenI (Q := fun vs H1 => ∃ ws st1 ad1, Ext X.K ad H ad1 H1 ∧ Sim X.K ad1 env σ st1 H1 ∧ RWs X.K ad1 H1 ws vs ∧ match enumW ws st1 with
      | .ok src st' => ∀ ad' H' J, Ext X.K ad1 H1 ad' H' → Sim X.K ad' env σ st' H' → SrcOk X.K J ad' H' src → Rf J H'
      | .exc C fs st' => ∀ ad' H' cls d, Ext X.K ad1 H1 ad' H' → Sim X.K ad' env σ st' H' → XR X.K ad' H' C fs cls d → Wx cls d σ H'
      | .bad => False) sim q fun ws st1 vs H1 ad1 e1 s1 r p => ⟨ws, st1, ad1, e1, s1, r, p⟩)) fun us s1 ⟨vs, H1, I1, rv, ws, st1, ad1, e1, s1', r, q1⟩ => ?_) hs rfl))
  cases r with
  | nil => exact q1.elim
  | @cons w ws v vs r rs =>
    cases rs with
    | cons _ _ => cases w <;> exact q1.elim
    | nil =>
      obtain ⟨u, rfl, ru⟩ := vals1 rv
      cases r with
      | @tup ws a vs hq rs =>
        obtain rfl : u = Value.ref a := ru
        obtain ⟨its, rv2, isT, hz⟩ := I1.tuple hq
        refine MMe.call_new isT fun h' en it k => wpAny_pyIter_enum en ?_
        have I2 : Inv X pins σ H1 { s1 with heap := h' } := I1.kept (t' := s1.toks) k
        refine ⟨s1.heap.objs.size + 1, [s1.heap.objs.size + 1, s1.heap.objs.size], _, _, H1, rfl, I2, turn_et a (s1.heap.objs.size + 1) s1.heap.objs.size, ⟨⟨.none, en⟩, it, Nat.succ_ne_self _⟩, fun b hb => ?_, q1 ad1 H1 _ .refl s1' (srcOk_et hq rs)⟩
        have hle : s1.heap.objs.size ≤ b := by
          rcases (show b = s1.heap.objs.size + 1 ∨ b = s1.heap.objs.size by simpa using hb) with z | z
          · rw [z]; exact Nat.le_add_right _ _
          · rw [z]; exact Nat.le_refl _
        exact I1.fpOk hle (I1.hok.fresh hle)
      | @ref m a hp =>
        obtain rfl : u = Value.ref a := ru
        simp only [enumW] at q1
        cases el : lst? st1 m with
        | none => simp only [el] at q1
        | some ws =>
          simp only [el] at q1
          obtain ⟨vs, hv, rs⟩ := lst_ro s1'.st el hp
          obtain ⟨its, rv2, p', hz⟩ := I1.list (.of hv)
          refine call_enumerate_list p'.isList fun h' en it hsz k => wpAny_pyIter_enum en ?_
          have I2 : Inv X pins σ H1 { s1 with heap := h' } := I1.kept (t' := s1.toks) k
          refine ⟨s1.heap.objs.size + 1, [s1.heap.objs.size + 1, s1.heap.objs.size], _, _, H1, rfl, I2, turn_enum a (s1.heap.objs.size + 1) s1.heap.objs.size, ⟨⟨.none, en⟩, it, Nat.succ_ne_self _⟩, fun b hb => ?_, q1 ad1 H1 _ .refl s1' (srcOk_el hp)⟩
          have hle : s1.heap.objs.size ≤ b := by
            rcases (show b = s1.heap.objs.size + 1 ∨ b = s1.heap.objs.size by simpa using hb) with z | z
            · rw [z]; exact Nat.le_add_right _ _
            · rw [z]; exact Nat.le_refl _
          exact I1.fpOk hle (I1.hok.fresh hle)
      | _ => exact q1.elim
end
end MM

namespace PySem.W
open PySem PySem.Calls PyProof.Rows Builtin
section
variable {prog : Program} {w : World} {A : Around} {E : Value → Shared → Prop} {s : Shared} {K : Frag} {x C L f : Addr} {h₀ : Heap} {m : Str → Option Value} {ox : Obj} {od : Option Obj} {nm T : String}
theorem mm_binL {op : Operator} {b : Value} {fo ro rc : Option Value} {Q : Value → Shared → Prop} (F : Fr h₀ L s.heap m) (X₀ : K.In h₀) (I : InstAt s.heap x ox C od) (hb : ∀ M, Looks M s.heap (typeOf b) (.type T)) (hc : selfFirst K C = true)
    (hs : findIn K (.ref C) (PySem.dunder op.info.2) = some (some (.ref f))) (hf : isFn K (.ref f) = true) (hr : findIn K (.ref C) (dunderR op.info.2) = some rc) (hp : rc = none ∨ ∃ g : Addr, rc = some (.ref g))
    (h1 : findIn K (.type T) (PySem.dunder op.info.2) = some fo) (h2 : findIn K (.type T) (dunderR op.info.2) = some ro) (hsub : subIn K (.type T) (.ref C) = some false)
    (h : wpAny (model prog w) A (call (.ref f) [.ref x, b]) (CmpBack Q) E s) : wpAny (model prog w) A (binaryOp op (.ref x) b) Q E s := by
  have hX := X₀.keeps F.keep
  obtain ⟨cd, rest, hcd, hm⟩ := ksp_first hc
  rcases hi : op.info with ⟨sym, nn⟩
  rw [hi] at hs hr h1 h2
  dsimp only at hs hr h1 h2
  have one := ksp_try hX I hs hf h
  have hb' := hb (model prog w)
  obtain ⟨hh, g, d, tt, os⟩ := s
  have t1 : Looks (model prog w) hh (typeOf (.ref x)) (.ref C) := I.type
  have t2 : Looks (model prog w) hh (typeOf b) (.type T) := hb'
  have t3 : Looks (model prog w) hh (fillsNumberSlot (.ref C) nn) true := fills_K hX hcd hm hs
  have t4 : Looks (model prog w) hh (fillsNumberSlot (.type T) nn) ((fo.isSome && !isSeqSlot fo) || (ro.isSome && !isSeqSlot ro)) := ksp_fillsT hX h1 h2
  have t5 : Looks (model prog w) hh (isSubtype (.type T) (.ref C)) false := looks_subIn hX hsub
  have t6 : Looks (model prog w) hh (numberSlotInPython (.ref C) nn) true := ksp_inPy hX hs hr hp
  have t7 : Looks (model prog w) hh (numberSlotInPython (.type T) nn) false := Looks.of_pure rfl
  have t8 : Looks (model prog w) hh (typeLookup (.type T) (dunderR nn)) ro := looks_findIn hX h2
  generalize ((fo.isSome && !isSeqSlot fo) || (ro.isSome && !isSeqSlot ro)) = right at t4
  have dif : (Value.ref C == Value.type T) = false := Bool.eq_false_iff.mpr fun q => by cases beq_iff_eq.mp q
  simp only [binaryOp, hi]
  refine wpAny_holding (wpAny_bind ?_)
  unfold binaryOp1
  refine wpAny_bind (t1.at (wpAny_bind (t2.at (wpAny_bind (t3.at ?_)))))
  simp only [dif, Bool.false_eq_true, if_false]
  cases right with
  | false =>
    ksp_lk
    refine wpAny_mono one (fun r s' hr' => ?_) fun _ _ e => e
    obtain ⟨v, rfl, hq⟩ := hr'
    ksp_lk
    exact hq
  | true =>
    ksp_lk
    refine wpAny_mono one (fun r s' hr' => ?_) fun _ _ e => e
    obtain ⟨v, rfl, hq⟩ := hr'
    ksp_lk
    exact hq
theorem mm_one {b : Value} {Q : Value → Shared → Prop} (hu : A.in1.units < cLine) (X : K.In s.heap) (I : InstAt s.heap x ox C od) (hm : mroIn K C (.type "object") = some true) (he : findIn K (.ref C) "__eq__" = some (some (.ref f))) (hf : isFn K (.ref f) = true)
    (h : wpAny (model prog w) A.in1 (call (.ref f) [.ref x, b]) (fun v s' => ∃ k, v = .bool k ∧ Q (.bool (!k)) s') E s) : wpAny (model prog w) A (call (.builtin "object.__ne__") [.ref x, b]) Q E s := by
  refine wpAny_call (codeAny_call_builtin PySem.F.slot_object_ne.plain PySem.F.entry_object_ne (check_slot (i := "object.__ne__") (owner := "object") (n := "__ne__") (by decide +kernel) (by decide +kernel) (I.type.andThen (looks_mroIn X hm)) (PySem.F.args_object_ne_2 _ _) ?_))
  unfold Builtin.«object.__ne__»
  refine wpAny_bind (m := slotArgs "__ne__" 1 _) (wpAny_pure ?_)
  refine wpAny_bind (m := cRoomFor _ _) (wpAny_cRoomFor hu ?_)
  refine wpAny_bind (m := callSpecialIfBound? (.ref x) (Str.ofString "__eq__") _) (ifBound_K X I he hf (wpAny_mono h (fun r s' hq => ?_) fun _ _ y => y))
  obtain ⟨k, rfl, hq⟩ := hq
  exact wpAny_bind (wpAny_truthy_bool (wpAny_pure hq))
theorem mm_neK {b tb : Value} {Q : Value → Shared → Prop} (hu : A.in1.units < cLine) (F : Fr h₀ L s.heap m) (X₀ : K.In h₀) (I : InstAt s.heap x ox C od) (hb : Looks (model prog w) s.heap (typeOf b) tb) (hn : notFirst K C tb = true)
    (hs : findIn K (.ref C) "__ne__" = some (some (.builtin "object.__ne__"))) (hm : mroIn K C (.type "object") = some true) (he : findIn K (.ref C) "__eq__" = some (some (.ref f))) (hf : isFn K (.ref f) = true)
    (h : wpAny (model prog w) A.in1 (call (.ref f) [.ref x, b]) (fun v s' => ∃ k, v = .bool k ∧ Q (.bool (!k)) s') E s) : wpAny (model prog w) A (richCompare .NotEq (.ref x) b) Q E s := by
  have hX := X₀.keeps F.keep
  have run := mm_one (Q := fun v s' => ∃ k, v = Value.bool k ∧ Q v s') hu hX I hm he hf (wpAny_mono h (fun v s' ⟨k, e, q⟩ => ⟨k, e, _, rfl, q⟩) fun _ _ z => z)
  have one : wpAny (model prog w) A (tryCompare (.ref x) (cmpInfo .NotEq).2.1 b) (fun r s' => ∃ v, r = some v ∧ Q v s') E s := by
    unfold tryCompare
    refine wpAny_bind (m := callSpecialIfBound? (.ref x) (Str.ofString "__ne__") [b]) ?_
    simp only [callSpecialIfBound?, bindSpecialIfBound?]
    refine wpAny_holding (wpAny_bind (wpAny_bind (wpAny_bind (I.type.here ((looks_findIn hX hs).here ?_)))))
    refine wpAny_bind (wpAny_askSetting (wpAny_ite ?_))
    have fin : wpAny (model prog w) A (call (.builtin "object.__ne__") ([.ref x] ++ [b]) >>= fun v => pure (some v)) (fun r s₁ => wpAny (model prog w) A (match r with
        | some .notImplemented => pure none
        | none => pure none
        | some v => pure (some v)) (fun r s' => ∃ v, r = some v ∧ Q v s') E s₁) E s := by
      refine wpAny_bind (wpAny_mono run (fun v s' hq => ?_) fun _ _ z => z)
      obtain ⟨k, rfl, q⟩ := hq
      exact wpAny_pure (wpAny_pure ⟨_, rfl, q⟩)
    split
    · exact wpAny_bind ((Looks.of_pure (PySem.F.slot_object_ne.bind (.ref x))).here (wpAny_pure (by exact fin)))
    · exact wpAny_tryCatch (wpAny_bind ((Looks.of_pure (PySem.F.slot_object_ne.bind (.ref x))).here (wpAny_pure (by exact fin))))
  have hu0 : A.units < cLine := Nat.lt_of_le_of_lt (Nat.le_succ _) hu
  unfold richCompare
  simp only [oneThing_ref]
  refine wpAny_holding (wpAny_bind (wpAny_cRoomFor hu0 ?_))
  refine wpAny_bind (I.type.here (wpAny_bind (hb.here ?_)))
  split
  · rename_i q
    have e : subIn K tb (.ref C) = some false := by
      rcases Bool.or_eq_true_iff.mp hn with e | e
      · rw [beq_iff_eq.mp e] at q
        simp at q
      · exact beq_iff_eq.mp e
    refine wpAny_bind ((looks_subIn hX e).here ?_)
    simp only [Bool.false_eq_true, if_false]
    refine wpAny_bind (wpAny_mono one (fun r s' z => ?_) fun _ _ e => e)
    obtain ⟨v, rfl, hq⟩ := z
    exact wpAny_pure hq
  · refine wpAny_bind (wpAny_pure ?_)
    simp only [Bool.false_eq_true, if_false]
    refine wpAny_bind (wpAny_mono one (fun r s' z => ?_) fun _ _ e => e)
    obtain ⟨v, rfl, hq⟩ := z
    exact wpAny_pure hq
end
end PySem.W
namespace MM
open PySem PySem.Spec PyProof.Rows L2
section
variable {X : Cx} [Link X.K] {Wx : WX} {pins : List (Addr × Obj)} {s : Shared} {σ : L2.St} {H : Hp} {ad : List Addr} {env : Env} {st : S} {pos : Pos}
theorem run_pA {k : Nat} {A' : Around} {f : Addr} {m : List W → S → R W} {us : List Value} {vs : List V} {ws : List W} {Q : VK} (F : FnP X.prog X.w X.K X.mg X.base k f m) (hr : RoomG k A') (hA : A'.frames = X.A.frames) (tk : Takes X Wx) (I : Inv X pins σ H s) (sim : Sim X.K ad env σ st H) (rv : Vals vs us) (r : RWs X.K ad H ws vs)
    (p : PW X.K Wx ad env σ H Q (m ws st)) : wpAny (model X.prog X.w) A' (call (.ref f) us) (EP X pins σ Q) X.xe s := by
  have e0 : Env0 X.prog X.w X.K X.mg X.base A' X.stack s H := by
    have e := I.env0
    exact ⟨by rw [hA]; exact e.frames, e.mod, e.bs, e.bsz, e.funs, e.frf, e.hok, e.bare⟩
  refine wpAny_call (codeAny_mono (F A' X.stack s H us vs ws ad st (fun v H' => Q v H') (fun cls d H' => Wx cls d σ H') hr e0 rv sim.st r ?_) fun res s' hq => ?_)
  · cases e : m ws st with
    | ok w st' => rw [e] at p; exact fun ad' H' v e1 s1 rw' => p ad' H' v e1 (sim.ext s1 e1) rw'
    | exc C fs st' => rw [e] at p; exact fun ad' H' cls d e1 s1 x => p ad' H' cls d e1 (sim.ext s1 e1) x
    | bad => rw [e] at p; exact p
  · cases res with
    | error e => exact tk e s' (XE.of_call I (fun cls d H' h => h) hq)
    | ok fl =>
      cases fl with
      | ret u => exact I.after hq
      | next => exact False.elim hq
      | brk => exact False.elim hq
      | cont => exact False.elim hq
def OwnOk (X : Cx) [Link X.K] (k : Nat) (nm : Str) (T : MT) : Prop := ∀ C g, T C = some g → ∃ f, PySem.W.findIn X.K (.ref C) nm = some (some (.ref f)) ∧ PySem.W.isFn X.K (.ref f) = true ∧ FnP X.prog X.w X.K X.mg X.base k f g
def ownOf (T : MT) : W → S → Option (Addr × (List W → S → R W))
  | .ref n, s => match s.get n with
    | some (.ins C _) => (T C).map fun g => (C, g)
    | _ => none
  | _, _ => none
theorem own_at {T : MT} {w : W} {v : V} {u : Value} {C : Addr} {g : List W → S → R W} (I : Inv X pins σ H s) (sim : Sim0 X.K ad st H) (r : RW X.K ad H w v) (rv : RelV v u) (h : ownOf T w st = some (C, g)) :
    T C = some g ∧ ∃ a ox od, u = .ref a ∧ PySem.W.InstAt s.heap a ox C od := by
  cases r with
  | @ref n a hp =>
    obtain rfl : u = Value.ref a := rv
    unfold ownOf at h
    cases e : st.get n with
    | none => simp only [e] at h; cases h
    | some o =>
      cases o with
      | ins D fs =>
        simp only [e] at h
        cases eT : T D with
        | none => rw [eT] at h; cases h
        | some g' =>
          rw [eT] at h
          cases h
          obtain ⟨dx, fvs, hv, _⟩ := sim.obj n _ a e hp
          obtain ⟨mA, O, _⟩ := ins_get I.hok hv
          obtain ⟨od, J, _⟩ := O.look
          exact ⟨eT, a, _, _, rfl, J⟩
      | _ => simp only [e] at h; cases h
  | _ => cases h
theorem relV_ni {v : V} {u : Value} (r : RelV v u) : u ≠ .notImplemented := by
  intro e
  subst e
  cases v <;> first | (cases r; done) | (obtain ⟨_, z⟩ := r; exact Value.noConfusion z)
def boolR (neg : Bool) (r : R W) : R W := r.bind fun w s => match w with
  | .bl b => .ok (.bl (if neg then !b else b)) s
  | _ => .bad
def firstOk (T : IsP) (C : Addr) (w : W) (s : S) : Bool := decide (Tg.cl C ∈ T.Cs) && match T.has w s with
  | some t => decide (t = .cl C) || !T.f t (.cl C)
  | none => false
theorem first_ok (T : IsT X.K) {C : Addr} {w : W} {v : V} {u : Value} (I : Inv X pins σ H s) (sim : Sim0 X.K ad st H) (r : RW X.K ad H w v) (rv : RelV v u) (h : firstOk T.p C w st = true) :
    ∃ t : Tg, (PySem.W.Looks (model X.prog X.w) s.heap (typeOf u) t.v) ∧ PySem.W.notFirst X.K C t.v = true ∧ (t = .cl C ∨ PySem.W.subIn X.K t.v (.ref C) = some false) ∧ T.p.has w st = some t := by
  unfold firstOk at h
  obtain ⟨h1, h2⟩ := Bool.and_eq_true_iff.mp h
  have hC : Tg.cl C ∈ T.Cs := of_decide_eq_true h1
  cases e : T.p.has w st with
  | none => rw [e] at h2; cases h2
  | some t =>
    rw [e] at h2
    obtain ⟨⟨P, Z, p, _⟩, ht⟩ := has_kit T I sim r rv e
    have L := Z.ty (model X.prog X.w) s.heap I.kIn p
    rcases Bool.or_eq_true_iff.mp h2 with q | q
    · have q := of_decide_eq_true q
      refine ⟨t, L, ?_, .inl q, rfl⟩
      rw [q]
      unfold PySem.W.notFirst Tg.v
      simp
    · have q : T.f t (.cl C) = false := (Bool.not_eq_true' _).mp q
      have k := ht _ hC
      rw [q] at k
      have sub : PySem.W.subIn X.K t.v (.ref C) = some false := by
        unfold PySem.W.kitOne at k
        by_cases z : (t.v == (Tg.cl C).v) = true
        · rw [if_pos z] at k
          cases k
        · rw [if_neg z] at k
          have k : (if ((PySem.W.clsIn X.K C).isSome && PySem.W.typeIn X.K (.ref C) == some (.type "type")) = true then PySem.W.subIn X.K t.v (.ref C) else none) = some false := k
          split at k
          · exact k
          · cases k
      refine ⟨t, L, ?_, .inr sub, rfl⟩
      unfold PySem.W.notFirst
      rw [sub]
      simp
def wEqX (P : IsP) (T : MT) (w w' : W) (s : S) : R W := match ownOf T w s with
  | some (C, g) => if firstOk P C w' s then boolR false (g [w, w'] s) else .bad
  | none => wEq w w' s
def wNeX (P : IsP) (T : MT) (w w' : W) (s : S) : R W := match ownOf T w s with
  | some (C, g) => if firstOk P C w' s then boolR true (g [w, w'] s) else .bad
  | none => wNe w w' s
theorem PW.boolR {neg : Bool} {Q : VK} {r : R W} (p : PW X.K Wx ad env σ H Q (boolR neg r)) : PW X.K Wx ad env σ H (fun v H' => ∃ b, v = .bl b ∧ Q (.bl (if neg then !b else b)) H') r := by
  cases r with
  | bad => exact p
  | exc C fs st' => exact p
  | ok w st' =>
    intro ad' H' v e1 s1 r1
    cases r1 with
    | bl b => exact ⟨b, rfl, p ad' H' _ e1 s1 (.bl _)⟩
    | _ => exact p.elim
theorem lf_eqX {k : Nat} (TI : IsT X.K) {T : MT} (hT : OwnOk X k "__eq__" T) (hr : RoomG k X.A) (tk : Takes X Wx) : Lf2 X Wx (compareOp .Eq) (wEqX TI.p T) := by
  intro pins s σ H ad env st w w' v v' u u' Q I sim r r' q q' p
  unfold wEqX at p
  cases e : ownOf T w st with
  | none =>
    rw [e] at p
    exact lf_eq hr.room.units pins s σ H ad env st w w' v v' u u' Q I sim r r' q q' p
  | some Cg =>
    obtain ⟨C, g⟩ := Cg
    rw [e] at p
    by_cases hf : firstOk TI.p C w' st = true
    · simp only [if_pos hf] at p
      obtain ⟨eT, a, ox, od, rfl, J⟩ := own_at I sim.st r q e
      obtain ⟨f, h1, h2, F⟩ := hT C g eT
      obtain ⟨t, L, nf, _, _⟩ := first_ok TI I sim.st r' q' hf
      obtain ⟨m, hF⟩ := I.fr
      refine PySem.W.cmp_K (op := .Eq) (tb := t.v) hr.room.units0 hF I.ok.mod.kin J L nf h1 h2 ?_
      refine wpAny_mono (run_pA (us := [.ref a, u']) F hr rfl tk I sim (.cons q (.cons q' .nil)) (.cons r (.cons r' .nil)) (PW.boolR p)) (fun z s' ⟨y, H', I', ry, b, ey, q2⟩ => ?_) fun _ _ z => z
      subst ey
      obtain rfl : z = Value.bool b := ry
      exact ⟨.bl b, H', I', rfl, q2⟩
    · simp only [if_neg hf] at p
      exact p.elim
theorem lf_neX {k : Nat} (TI : IsT X.K) {T : MT} (hT : OwnOk X k "__eq__" T) (hn : ∀ C g, T C = some g → PySem.W.findIn X.K (.ref C) "__ne__" = some (some (.builtin "object.__ne__")) ∧ PySem.W.mroIn X.K C (.type "object") = some true) (hr : RoomG (k + 1) X.A) (tk : Takes X Wx) : Lf2 X Wx (compareOp .NotEq) (wNeX TI.p T) := by
  intro pins s σ H ad env st w w' v v' u u' Q I sim r r' q q' p
  unfold wNeX at p
  cases e : ownOf T w st with
  | none =>
    rw [e] at p
    exact lf_ne hr.room.units pins s σ H ad env st w w' v v' u u' Q I sim r r' q q' p
  | some Cg =>
    obtain ⟨C, g⟩ := Cg
    rw [e] at p
    by_cases hf : firstOk TI.p C w' st = true
    · simp only [if_pos hf] at p
      obtain ⟨eT, a, ox, od, rfl, J⟩ := own_at I sim.st r q e
      obtain ⟨f, h1, h2, F⟩ := hT C g eT
      obtain ⟨n1, n2⟩ := hn C g eT
      obtain ⟨t, L, nf, _, _⟩ := first_ok TI I sim.st r' q' hf
      obtain ⟨m, hF⟩ := I.fr
      refine PySem.W.mm_neK (tb := t.v) hr.in1.room.units0 hF I.ok.mod.kin J L nf n1 n2 h1 h2 ?_
      refine wpAny_mono (run_pA (us := [.ref a, u']) F hr.in1 rfl tk I sim (.cons q (.cons q' .nil)) (.cons r (.cons r' .nil)) (PW.boolR p)) (fun z s' ⟨y, H', I', ry, b, ey, q2⟩ => ?_) fun _ _ z => z
      subst ey
      obtain rfl : z = Value.bool b := ry
      exact ⟨b, rfl, .bl _, H', I', rfl, q2⟩
    · simp only [if_neg hf] at p
      exact p.elim
structure BinF (K : PySem.W.Frag) (op : Operator) (C : Addr) (Bs : List String) : Prop where
  sf : PySem.W.selfFirst K C = true
  rc : ∃ rc, PySem.W.findIn K (.ref C) (dunderR op.info.2) = some rc ∧ (rc = none ∨ ∃ g : Addr, rc = some (.ref g))
  bl : ∀ n ∈ Bs, ∃ fo ro, PySem.W.findIn K (.type n) (PySem.dunder op.info.2) = some fo ∧ PySem.W.findIn K (.type n) (dunderR op.info.2) = some ro
def wBinX (P : IsP) (T : MT) (w w' : W) (s : S) : R W := match ownOf T w s with
  | some (C, g) => if firstOk P C w' s && (match P.has w' s with | some (.ty _) => true | some (.cl D) => decide (D = C) | none => false) then g [w, w'] s else .bad
  | none => .bad
theorem lf_binX {k : Nat} {op : Operator} (TI : IsT X.K) {T : MT} (hT : OwnOk X k (PySem.dunder op.info.2) T) (hB : ∀ C g, T C = some g → BinF X.K op C TI.Bs) (hr : RoomG k X.A) (tk : Takes X Wx) : Lf2 X Wx (binaryOp op) (wBinX TI.p T) := by
  intro pins s σ H ad env st w w' v v' u u' Q I sim r r' q q' p
  unfold wBinX at p
  cases e : ownOf T w st with
  | none => rw [e] at p; exact p.elim
  | some Cg =>
    obtain ⟨C, g⟩ := Cg
    rw [e] at p
    by_cases hf : (firstOk TI.p C w' st && (match TI.p.has w' st with | some (.ty _) => true | some (.cl D) => decide (D = C) | none => false)) = true
    · simp only [if_pos hf] at p
      obtain ⟨hf, hk⟩ := Bool.and_eq_true_iff.mp hf
      obtain ⟨eT, a, ox, od, rfl, J⟩ := own_at I sim.st r q e
      obtain ⟨f, h1, h2, F⟩ := hT C g eT
      have BF := hB C g eT
      obtain ⟨t, L, nf, ho, eh⟩ := first_ok TI I sim.st r' q' hf
      obtain ⟨m, hF⟩ := I.fr
      have run := wpAny_mono (run_pA (us := [.ref a, u']) F hr rfl tk I sim (.cons q (.cons q' .nil)) (.cons r (.cons r' .nil)) p) (Q' := PySem.W.CmpBack (EP X pins σ Q)) (fun z s' ⟨y, H', I', ry, q2⟩ => by
        have ni := relV_ni ry
        cases z <;> first | exact absurd rfl ni | exact ⟨y, H', I', ry, q2⟩) fun _ _ z => z
      rw [eh] at hk
      cases t with
      | cl D =>
        have hk : D = C := of_decide_eq_true hk
        subst hk
        exact PySem.W.binop_K hF I.ok.mod.kin J L BF.sf h1 h2 run
      | ty n =>
        have hn : n ∈ TI.Bs := by
          have hb : ∀ {z : Option Tg}, (match z with
              | some (.ty n) => if n ∈ TI.p.Bs then some (Tg.ty n) else none
              | _ => none) = some (.ty n) → n ∈ TI.Bs := fun {z} z' => by
            split at z'
            · split at z'
              · rename_i hh
                cases z'
                exact hh
              · cases z'
            · cases z'
          unfold IsP.has at eh
          split at eh
          · split at eh
            · split at eh <;> cases eh
            · split at eh <;> cases eh
            · split at eh
              · rename_i hh
                cases eh
                exact hh
              · cases eh
            · split at eh
              · rename_i hh
                cases eh
                exact hh
              · cases eh
            · cases eh
          · exact hb eh
        obtain ⟨rc, r1, r2⟩ := BF.rc
        obtain ⟨fo, ro, b1, b2⟩ := BF.bl n hn
        have sub : PySem.W.subIn X.K (.type n) (.ref C) = some false := by
          rcases ho with z | z
          · cases z
          · exact z
        obtain ⟨⟨P, Z, pp, _⟩, _⟩ := has_kit TI I sim.st r' q' eh
        exact PySem.W.mm_binL hF I.ok.mod.kin J (fun M => Z.ty M s.heap I.kIn pp) BF.sf h1 h2 r1 r2 b1 b2 sub run
    · simp only [if_neg hf] at p
      exact p.elim
end
end MM

namespace PySem.W
open PySem PySem.Calls PyProof.Rows
section
variable {M : Model} {A : Around} {E : Value → Shared → Prop} {s : Shared} {K : Frag}
theorem mm_args2 {f : Value} {x : Sem Value} {q : Bool × Sem Value} {rest : List (Bool × Sem Value)} {Q : Args → Shared → Prop} (h : wpAny M A (spliced ((true, x) :: q :: rest)) (fun vs s₁ => Q ⟨vs, []⟩ s₁) E s) : wpAny M A (evalArgs f true ((true, x) :: q :: rest) []) Q E s := by
  unfold evalArgs
  show wpAny M A (spliced ((true, x) :: q :: rest) >>= _) Q E s
  refine wpAny_bind (wpAny_mono h (fun vs s₁ q => ?_) fun _ _ z => z)
  exact wpAny_holding (wpAny_bind (wpAny_pure (wpAny_bind (wpAny_pure (wpAny_pure q)))))
theorem mm_callS {h₀ : Heap} {env : Env} {pos : Pos} {f : Value} {first : List Value} {e : Expr} {es : List Expr} {p : Pos} {q : Bool × Sem Value} {rest : List (Bool × Sem Value)} {Q : Value → Shared → Prop} (_X : K.In h₀) (hk : keepIn K f = true)
    (h : wpAny M A (spliced (backTo pos (starEach (.Starred e p :: es) env))) (fun vs s₁ => K.In s₁.heap ∧ wpAny M A (call f (first ++ vs)) Q E s₁) E s)
    (he : starEach (.Starred e p :: es) env = (true, eval e env) :: q :: rest := by rfl) : wpAny M A (callWith pos f first (backTo pos (starEach (.Starred e p :: es) env)) []) Q E s := by
  rw [he] at h ⊢
  exact ks_call rfl (keeps_K hk) (mm_args2 h)
end
end PySem.W
namespace MM
open PySem PySem.Spec PyProof.Rows L2
section
variable {X : Cx} [Link X.K] {Wx : WX} {pins : List (Addr × Obj)} {s : Shared} {σ : L2.St} {H : Hp} {ad : List Addr} {env : Env} {st : S} {pos : Pos} {a b c o e : Expr} {ma mb mc mo me : ME} {es : List Expr} {n : MA} {p : Pos} {x : Str} {g : List W → S → R W}
def gI (mo mi : ME) : MG := fun w env st => match mo env st with
  | .ok (.ref n) s1 => match mi env s1 with
    | .ok (.int k) s2 => match lst? s2 n with
      | some ws => match ixN ws.length k with
        | some j => some (env, s2.put n (.lst (ws.set j w)))
        | none => none
      | none => none
    | _ => none
  | _ => none
theorem sg_item {mi : ME} (ho : PE X o (tE X.K W0 mo)) (hi : PE X a (tE X.K W0 mi))
    (ha : ∀ v, assign (.Subscript o a pos) X.env v = (do
      let ov ← holding [v] (eval o X.env)
      let iv ← holding [v, ov] (eval a X.env)
      standAt pos
      holding [v, ov, iv] (setItem ov iv v)
      release [v, ov, iv] []) := by intro _; rfl) : PG X (.Subscript o a pos) (tG X.K (gI mo mi)) := by
  refine L2.PG.imp (pg_sub ho hi set_list ha) fun v σ H Q ⟨ad, env, st, w, sim, r, q⟩ => ?_
  refine ⟨ad, env, st, sim, ?_⟩
  unfold gI at q
  cases e1 : mo env st with
  | bad => rw [e1] at q; exact q
  | exc C fs st' => rw [e1] at q; exact q.elim
  | ok ow s1 =>
    rw [e1] at q
    intro ad1 H1 ov x1 sim1 ro
    refine ⟨ad1, env, s1, sim1, ?_⟩
    cases ro with
    | @ref n0 a0 hp =>
      simp only at q
      cases e2 : mi env s1 with
      | bad => rw [e2] at q; exact q
      | exc C fs st' => rw [e2] at q; exact q.elim
      | ok iw s2 =>
        rw [e2] at q
        intro ad2 H2 iv x2 sim2 ri
        cases ri with
        | int k =>
          simp only at q
          cases el : lst? s2 n0 with
          | none => simp only [el] at q
          | some ws =>
            simp only [el] at q
            cases ej : ixN ws.length k with
            | none => simp only [ej] at q
            | some j =>
              simp only [ej] at q
              have hp2 := x2.pre _ _ hp
              obtain ⟨vs, hv, rs⟩ := lst_ro sim2.st el hp2
              have rw2 := (r.mono x1).mono x2
              obtain ⟨x3, sim3⟩ := sim_putLst (ws := ws) sim2 hp2 hv (rs.set rw2 j)
              exact ⟨a0, vs, k, j, rfl, rfl, hv, by rw [← rs.length]; exact ej, q ad2 _ σ ((x1.trans x2).trans x3) sim3⟩
        | _ => exact q.elim
    | _ => exact q.elim
def gA (n : Nat) (h : List W → Env → S → Option (Env × S)) : MG := fun w env st => match itemsW w st with
  | some ws => if ws.length = n then h ws env st else none
  | none => none
theorem sgv_any {vs : List Nat} {k m : Nat} {h : List W → Env → S → Option (Env × S)} (hc : X.calm = true) (h1 : PGs X es (tGvs X.K vs h)) (hn : (assignEach es X.env).length = m := by rfl) (hst : (assignEach es X.env).findIdx? (·.1) = none := by rfl) :
    PG X (.Tuple es k pos) (tGv X.K vs (gA m h)) := by
  refine ⟨fun pins s σ H v u Q I rv ⟨ad, env, st, w, sim, r, q⟩ => ?_⟩
  unfold gA at q
  cases e : itemsW w st with
  | none => rw [e] at q; exact q.elim
  | some ws =>
    rw [e] at q
    by_cases hl : ws.length = m
    · simp only [if_pos hl] at q
      obtain ⟨a0, xs, rfl, hq, rs⟩ := itemsW_ok sim.st r e
      have rd : tGvs X.K vs h xs σ H Q := ⟨ad, env, st, ws, sim, rs, q⟩
      rcases hq with hq | hq
      · exact (pg_tup hc h1 hn hst).run pins s σ H _ u Q I rv ⟨a0, xs, rfl, hq, by rw [← rs.length]; exact hl, rd⟩
      · exact (pg_lst hc h1 hn hst).run pins s σ H _ u Q I rv ⟨a0, xs, rfl, hq, by rw [← rs.length]; exact hl, rd⟩
    · simp only [if_neg hl] at q

def wMulS : W → W → S → R W
  | .str x, .int k, s => if 0 ≤ k ∧ k ≤ 1000000 ∧ x.length * k.toNat ≤ 1000000 then .ok (.str (Txt.mul x k)) s else .bad
  | w, w', s => wMul w w' s
theorem mulOk_of {x : Str} {k : Int} (h : 0 ≤ k ∧ k ≤ 1000000 ∧ x.length * k.toNat ≤ 1000000) : MulOk x k := by
  obtain ⟨h0, h1, h2⟩ := h
  refine ⟨?_, fun hk _ => ?_, fun _ _ => ?_⟩
  · have a1 : ¬ k < -(2 ^ 63 : Int) := by omega
    have a2 : ¬ k ≥ 2 ^ 63 := by omega
    exact Bool.or_eq_false_iff.mpr ⟨decide_eq_false a1, decide_eq_false a2⟩
  · have hk : 1 ≤ k := by omega
    have hx : (x.length : Int) ≤ 1000000 := by
      have : x.length * 1 ≤ x.length * k.toNat := Nat.mul_le_mul_left _ (by omega)
      omega
    have : (1000000 : Int) ≤ (2 ^ 63 - 1) / k := by
      rw [Int.le_ediv_iff_mul_le (by omega)]
      have : (1000000 : Int) * k ≤ 1000000 * 1000000 := Int.mul_le_mul_of_nonneg_left h1 (by decide)
      omega
    omega
  · unfold Builtin.Str.tooLong
    have := sizeLine_eq
    simp
    omega
theorem lf_mulS : Lf2 X Wx (binaryOp .Mult) wMulS := by
  intro pins s σ H ad env st w w' v v' u u' Q I sim r r' q q' p
  have r0 := r
  cases r with
  | str y =>
    cases r' with
    | int k =>
      by_cases hl : 0 ≤ k ∧ k ≤ 1000000 ∧ y.length * k.toNat ≤ 1000000
      · simp only [wMulS, if_pos hl] at p
        obtain ⟨t, rfl⟩ := q
        obtain ⟨t', rfl⟩ := q'
        exact SB.mul (mulOk_of hl) fun t2 k2 => ⟨.str _, H, I.tok k2, ⟨t2, rfl⟩, p ad H _ .refl sim (.str _)⟩
      · simp only [wMulS, if_neg hl] at p
        exact p.elim
    | _ => exact p.elim
  | _ => exact lf_mul pins s σ H ad env st _ _ _ _ u u' Q I sim r0 r' q q' p

theorem rng3_is (ws : List W) (s : S) : (∃ i j c, ws = [.int i, .int j, .int c] ∧ RgC i j c (turns i j c) ∧ rng3 ws s = .ok (srcR i c (turns i j c)) s) ∨ rng3 ws s = .bad := by
  unfold rng3
  split
  · rename_i i j c
    by_cases h : (inW i && inW j && decide (c ≠ 0) && decide (c.natAbs < 1073741824) && Builtin.Range.small i j c && decide (Builtin.Range.rangeSize i j c = (turns i j c : Int))) = true
    · refine .inl ⟨i, j, c, rfl, ?_, if_pos h⟩
      simp only [Bool.and_eq_true, decide_eq_true_eq] at h
      exact ⟨h.1.1.1.2, h.1.1.2, h.1.2, h.2⟩
    · exact .inr (if_neg h)
  · exact .inr rfl
theorem si_range3 {tg : Expr} (hg : Gl X "range") (hm : X.mg "range" = none) (ha : PA X [a, b, c] (tL X.K Wx n)) (hs : starEach [a, b, c] X.env = (false, eval a X.env) :: starEach [b, c] X.env := by rfl) (hpl : (backTo pos (starEach [b, c] X.env)).any (·.1) = false := by rfl) :
    PI X tg (.Call (.Name "range" p) [a, b, c] [] pos) (tI X.K Wx (mSrc rng3 n)) := by
  refine ⟨fun pins s σ H Rf I ⟨ad, env, st, sim, q⟩ => (pi_range3 hg hm ha hs hpl).run pins s σ H Rf I (tL_thenI sim q fun ws st1 vs H1 ad1 e1 s1 r p => ?_)⟩
  rcases rng3_is ws st1 with ⟨i, j, c, rfl, hc, e⟩ | e
  · rw [e] at p
    cases r with
    | cons r rr =>
      cases r
      cases rr with
      | cons r rr =>
        cases r
        cases rr with
        | cons r rr =>
          cases r
          cases rr
          exact ⟨i, j, c, _, rfl, hc, p ad1 H1 _ .refl s1 srcOk_r⟩
  · rw [e] at p
    exact p.elim
theorem rng_has (r : Addr) (a b c i : Int) (t u v k : Tok) : Meets (Builtin.«range.__contains__» ⟨[.ref r, .int i k], []⟩) (fun _ R s => s.heap.get? r = some { cls := .type "range", dict := none, data := .fields #[.int a t, .int b u, .int c v], slots := #[] } ∧ R (.ok (.ret (.bool (Builtin.Range.rangePlace? a b c i).isSome))) s) :=
  .of_wp fun prog w A R s h => by
    obtain ⟨hp, g, d, tk, os⟩ := s
    obtain ⟨hl, h⟩ := h
    wp_walk
    exact ⟨_, rfl, h⟩
def mInR (me : ME) (m : MA) : MB := fun env st => (me env st).bind fun w s1 => (m env s1).bind fun ws s2 => match w, ws with
  | .int i, [.int a, .int b, .int c] => if c ≠ 0 ∧ c.natAbs < 1073741824 then .ok (Builtin.Range.rangePlace? a b c i).isSome s2 else .bad
  | _, _ => .bad
theorem st_inR3 {cpos : Pos} (hg : Gl X "range") (hm : X.mg "range" = none) (he : PE X e (tE X.K Wx me)) (ha : PA X [a, b, c] (tL X.K Wx n)) (hs : starEach [a, b, c] X.env = (false, eval a X.env) :: starEach [b, c] X.env := by rfl) (hpl : (backTo cpos (starEach [b, c] X.env)).any (·.1) = false := by rfl)
    (hb : behindInMarks .In (.Call (.Name "range" p) [a, b, c] [] cpos) = false := by rfl) : PT X (.Compare e [.In] [.Call (.Name "range" p) [a, b, c] [] cpos] pos) (tB X.K Wx (mInR me n)) := by
  refine ⟨fun pins s σ H Q I ⟨ad, env, st, sim, h⟩ => ?_⟩
  refine wpAny_isTrue_Compare1 (Q := TP X pins σ Q) ?_ hb
  refine run_bind he PB.excOk I sim h fun w st1 v u H1 ad1 s1 _ x1 sim1 r1 q1 I1 p1 => ?_
  refine Call_ (ld_blt I1 hg hm boot_range (PyProof.Rows.callWith_type1 (run_bindL ha PB.excOk I1 sim1 (PB.ext p1 x1) fun ws st2 vs us H2 ad2 s2 _ x2 sim2 r2 q2 I2 p2 => ?_) hs hpl))
  have p2 := PB.ext p2 x2
  have bad : ∀ {P : Prop}, PB X.K Wx ad2 env σ H2 Q .bad → P := fun z => z.elim
  cases r1 with
  | int i =>
    obtain ⟨tk, rfl⟩ := q1
    cases r2 with
    | nil => exact bad p2
    | cons ra r2 =>
      cases r2 with
      | nil => cases ra <;> exact bad p2
      | cons rb r2 =>
        cases r2 with
        | nil => cases ra <;> first | exact bad p2 | (cases rb <;> exact bad p2)
        | cons rc r2 =>
          cases r2 with
          | cons _ _ => cases ra <;> first | exact bad p2 | (cases rb <;> first | exact bad p2 | (cases rc <;> exact bad p2))
          | nil =>
            cases ra with
            | int a0 =>
              cases rb with
              | int b0 =>
                cases rc with
                | int c0 =>
                  simp only at p2
                  by_cases hc : c0 ≠ 0 ∧ c0.natAbs < 1073741824
                  · rw [if_pos hc] at p2
                    cases q2 with
                    | cons q3 q2 =>
                      cases q2 with
                      | cons q4 q2 =>
                        cases q2 with
                        | cons q5 q2 =>
                          cases q2
                          obtain ⟨t1, rfl⟩ := q3
                          obtain ⟨t2, rfl⟩ := q4
                          obtain ⟨t3, rfl⟩ := q5
                          refine call_range_3 hc.1 ?_ (.inl (PyProof.noPylong_small hc.2))
                          have I3 : Inv X pins σ H2 { s2 with heap := s2.heap.push { cls := .type "range", data := .fields #[.int a0 t1, .int b0 t2, .int c0 t3] } } := I2.kept (t' := s2.toks) fun b o e => Heap.get?_push_of_some _ e
                          have ho : (s2.heap.push { cls := .type "range", data := .fields #[.int a0 t1, .int b0 t2, .int c0 t3] } : Heap).get? s2.heap.objs.size = some { cls := .type "range", data := .fields #[.int a0 t1, .int b0 t2, .int c0 t3] } := Heap.get?_push_size _ rfl
                          show wpAny _ _ (do return Value.bool (← contains (Value.ref s2.heap.objs.size) (Value.int i tk))) _ _ _
                          refine wpAny_bind (wpAny_contains_slot (T := "range") ⟨_, ho, rfl⟩ F.slot_range_contains (call_meets F.slot_range_contains ⟨_, ho, rfl⟩ F.entry_range_contains (F.args_range_contains_2 _ _) (rng_has s2.heap.objs.size a0 b0 c0 i t1 t2 t3 tk) ⟨ho, wpAny_truthy_bool (wpAny_pure ?_)⟩))
                          exact wpAny_truthy_bool ⟨H2, I3, p2 ad2 H2 .refl sim2⟩
                  · rw [if_neg hc] at p2
                    exact bad p2
                | _ => exact bad p2
              | _ => exact bad p2
            | _ => exact bad p2
  | _ => exact bad p2

theorem se_callSS {f : Addr} {q : Bool × Sem Value} {rest : List (Bool × Sem Value)} (L : LfN X Wx (.ref f) g) (hg : Gl X x) (hm : X.mg x = some (.ref f)) (hk : PySem.W.keepIn X.K (.ref f) = true) {sp_ : Pos} (ha : PA X (.Starred e sp_ :: es) (tL X.K Wx n))
    (hdb : (x == ("__debug__" : Str)) = false := by decide) (he : starEach (.Starred e sp_ :: es) X.env = (true, eval e X.env) :: q :: rest := by rfl) : PE X (.Call (.Name x p) (.Starred e sp_ :: es) [] pos) (tE X.K Wx (mN g n)) := by
  refine ⟨fun pins s σ H Q I ⟨ad, env, st, sim, q⟩ => ?_⟩
  refine wpAny_Call_Name_kw (ld_glob I hg hm ?_ hdb)
  refine PySem.W.mm_callS (h₀ := X.base) I.ok.mod.kin hk (run_bindL ha PW.excOk I sim q fun ws st1 vs us H1 ad1 s1 _ e1 s1' r rv I1 p1 => ⟨I1.kIn, ?_⟩) he
  exact L pins s1 σ H1 ad1 env st1 ws vs us Q I1 s1' r rv (PW.ext p1 e1)
def mVS1 (i : Nat) (T : MT) (m : ME) : ME := fun env st => match env[i]? with
  | some (some (.glo f)) => match T f with
    | some g => (m env st).bind fun w s => match itemsW w s with
      | some xs => g xs s
      | none => .bad
    | none => .bad
  | _ => .bad
theorem se_callVS1 {i : Nat} {T : MT} {sp_ : Pos} (hN : X.N[i]? = some x) (hv : Vis X.env.scope x) (hT : ∀ f g, T f = some g → PySem.W.keepIn X.K (.ref f) = true ∧ LfN X Wx (.ref f) g) (he : PE X e (tE X.K Wx me))
    (hdb : (x == ("__debug__" : Str)) = false := by decide) (hcd : (x == ("__classdict__" : Str)) = false := by decide) (hst : starEach [.Starred e sp_] X.env = [(true, eval e X.env)] := by rfl) : PE X (.Call (.Name x p) [.Starred e sp_] [] pos) (tE X.K Wx (mVS1 i T me)) := by
  refine ⟨fun pins s σ H Q I ⟨ad, env, st, sim, q⟩ => ?_⟩
  unfold mVS1 at q
  cases e1 : env[i]? with
  | none => rw [e1] at q; exact q.elim
  | some ow =>
    cases ow with
    | none => rw [e1] at q; exact q.elim
    | some w =>
      obtain ⟨v, hσ, r⟩ := sim.en.val i w e1
      rw [e1] at q
      cases r with
      | glo f =>
        simp only at q
        cases eT : T f with
        | none => simp only [eT] at q; exact q.elim
        | some g =>
          simp only [eT] at q
          obtain ⟨hk, L⟩ := hT f g eT
          refine wpAny_Call_Name_kw (thn ((pe_var (pos := p) hN hv hdb hcd).run pins s σ H (fun v H1 => v = .ref f ∧ H1 = H) I ⟨_, hσ, rfl, rfl⟩) fun u s1 ⟨v1, H1, I1, rv1, ev, eH⟩ => ?_)
          subst ev
          rw [eH] at I1
          obtain rfl : u = Value.ref f := rv1
          refine PySem.W.callWith_S (h₀ := X.base) I1.ok.mod.kin hk (run_bind he PW.excOk I1 sim q fun w st1 v u H2 ad1 s2 _ e1 s1' r rv I2 p1 => ?_) hst
          cases ei : itemsW w st1 with
          | none => rw [ei] at p1; exact p1.elim
          | some xs =>
            rw [ei] at p1
            obtain ⟨a, vs, rfl, hq, rs⟩ := itemsW_ok s1'.st r ei
            obtain rfl : u = Value.ref a := rv
            exact StX.star_any I2 hq fun us s3 I3 rv' => ⟨I3.kIn, L pins s3 σ H2 ad1 env st1 xs vs us Q I3 s1' rs rv' (PW.ext p1 e1)⟩
      | _ => exact q.elim

theorem mc_run {k : Nat} {C gA : Addr} {m : List W → S → R W} {q : Addr} {us : List Value} {vs : List V} {ws : List W} {Q : VK} (F : FnP X.prog X.w X.K X.mg X.base k gA m) (hr : RoomG k X.A) (tk : Takes X Wx) (I : Inv X ((q, PySem.W.methodObj (.ref gA) (.ref C)) :: pins) σ H s) (sim : Sim X.K ad env σ st H) (rv : Vals vs us) (r : RWs X.K ad H ws vs)
    (p : PW X.K Wx ad env σ H Q (m (.glo C :: ws) st)) : wpAny (model X.prog X.w) X.A (call (.ref q) us) (EP X pins σ Q) X.xe s := by
  have z : wpAny (model X.prog X.w) X.A (call (.ref q) us) (EP X ((q, PySem.W.methodObj (.ref gA) (.ref C)) :: pins) σ Q) X.xe s := by
    refine wpAny_call (PySem.W.method_call (ClX.pin_at I) (codeAny_mono (F X.A X.stack s H (.ref C :: us) (.ref C :: vs) (.glo C :: ws) ad st (fun v H' => Q v H') (fun cls d H' => Wx cls d σ H') hr I.env0 (.cons rfl rv) sim.st (.cons (.glo C) r) ?_) fun res s' hq => ?_))
    · cases e : m (.glo C :: ws) st with
      | ok w st' => rw [e] at p; exact fun ad' H' v e1 s1 rw' => p ad' H' v e1 (sim.ext s1 e1) rw'
      | exc C fs st' => rw [e] at p; exact fun ad' H' cls d e1 s1 x => p ad' H' cls d e1 (sim.ext s1 e1) x
      | bad => rw [e] at p; exact p
    · cases res with
      | error e => exact tk e s' (XE.of_call I (fun cls d H' h => h) hq)
      | ok fl =>
        cases fl with
        | ret u => exact I.after hq
        | next => exact False.elim hq
        | brk => exact False.elim hq
        | cont => exact False.elim hq
  exact thn z fun _ _ y => ClX.unpinE y
def mCM (C : Addr) (m : List W → S → R W) (n : MA) : ME := fun env st => (n env st).bind fun ws s => m (.glo C :: ws) s
theorem se_cmeth {k : Nat} {C pA gA : Addr} {mc : Value} {mn : Str} {m : List W → S → R W} {apos : Pos} {pl : Sem Bool} (r : ClX.CRead X.K C mc) (cm : ClX.CMet X.K C mc mn pA gA) (F : FnP X.prog X.w X.K X.mg X.base k gA m) (hr : RoomG k X.A) (tk : Takes X Wx) (hg : Gl X x) (hm : X.mg x = some (.ref C)) (ha : PA X (e :: es) (tL X.K Wx n))
    (hdb : (x == ("__debug__" : Str)) = false := by decide) (hst : starEach (e :: es) X.env = (false, eval e X.env) :: starEach es X.env := by rfl) (hpl : (backTo pos (starEach es X.env)).any (·.1) = false := by rfl)
    (ht : eval (.Call (.Attribute (.Name x p) mn apos) (e :: es) [] pos) X.env = (do
      let ov ← eval (.Name x p) X.env
      standAt apos.atName
      let (f, first) ← holding [ov] (getMethod ov mn pl)
      callWith pos f first (backTo pos (starEach (e :: es) X.env)) (backToKw pos (keywordEach [] X.env))) := by rfl) :
    PE X (.Call (.Attribute (.Name x p) mn apos) (e :: es) [] pos) (tE X.K Wx (mCM C m n)) := by
  refine ⟨fun pins s σ H Q I ⟨ad, env, st, sim, q⟩ => ?_⟩
  refine PySem.W.methodCall_KW (pl := pl) (ld_glob I hg hm ?_ hdb) ht
  have I0 : Inv X pins σ H s := I
  refine ClX.getmethcm_ok I0 r cm fun s2 I2 => ?_
  refine ClX.callwith_cm I2 (ClX.base_none I0 (Nat.le_refl _)) cm.fi (run_bindL ha PW.excOk I2 sim q fun ws st1 vs us H1 ad1 s3 _ e1 s1' r rv I3 p1 => ⟨⟨ClX.pin_at I3, I3.kIn⟩, ?_⟩) hst hpl
  exact mc_run F hr tk I3 s1' rv r (PW.ext p1 e1)
end
end MM

namespace MM
open PySem PySem.Spec PyProof.Rows L2

def mAct (i : Nat) (f : Addr) (mc : S → R W) : ME := fun env st => match env[i]? with
  | some (some (.glo g)) => if g = f then mc st else .bad
  | _ => .bad
def FnL (P : Program) (w : World) (K : PySem.W.Frag) [Link K] (mg : Str → Option Value) (base : Heap) (k : Nat) (g : Addr) (Ng : List Str) (qg : Str) (sg : Scope) (cdg : Value) (a : Str) (M : Addr → (S → R W) → S → R W) : Prop :=
  ∀ (A : Around) (outer : List PySem.Env) (s : Shared) (H : Hp) (f : Addr) (mc : S → R W) (ad : List Addr) (st : S) (Q : VK) (E : XK), RoomG k A → Env0 P w K mg base A outer s H →
    (∀ (E : XK) (W : WX) (pn : List (Addr × Obj)) (xe : Value → Shared → Prop) (p1 p2 : Pos), (∃ k', k = k' + 1 ∧ RoomG k' (A.deeper (envOfC qg sg s.heap.objs.size g cdg))) → Takes ((cxOf (L2.CX P w) P w K mg base Ng qg sg g cdg A outer s H E).tr pn xe) W → PE ((cxOf (L2.CX P w) P w K mg base Ng qg sg g cdg A outer s H E).tr pn xe) (.Call (.Name a p1) [] [] p2) (tE K W (mAct 0 f mc))) →
    Sim0 K ad st H → PC K ad H Q E (M f mc st) → codeAny (model P w) A (.call (.ref g) ⟨[.ref f], []⟩) (CR (L2.CX P w) outer P w H s Q E) s
section
variable {P : Program} {w : World} {K : PySem.W.Frag} [Link K] {mg : Str → Option Value} {base : Heap} {k : Nat} {g : Addr} {name qual : Str} {params : Arguments} {body : List Stmt} {scope : Scope} {dV kV doc pm cdv ct oc : Value} {an od : Option Addr}
  {osl : Array (Option Value)} {N : List Str} {a : Str}
theorem fnL_of {m : Addr → (S → R W) → MS} (lk : K.lookup g = some ⟨oc, od, .func (PySem.W.fnOf name qual params body scope dV kV doc pm an cdv ct), osl⟩) (hcd : PySem.W.codeIn K cdv qual = true) (Sc : FnScope N [a] scope)
    (hb : ∀ (s : Shared) (u : Value), BindsTo s (PySem.W.fnOf name qual params body scope dV kV doc pm an cdv ct) ⟨[u], []⟩ [(a, u)])
    (hbody : ∀ (A : Around) (outer : List PySem.Env) (s : Shared) (H : Hp) (E : XK) (f : Addr) (mc : S → R W), RoomG k (A.deeper (envOfC qual scope s.heap.objs.size g cdv)) →
      (∀ (W : WX) (pn : List (Addr × Obj)) (xe : Value → Shared → Prop) (p1 p2 : Pos), Takes ((cxOf (L2.CX P w) P w K mg base N qual scope g cdv A outer s H E).tr pn xe) W → PE ((cxOf (L2.CX P w) P w K mg base N qual scope g cdv A outer s H E).tr pn xe) (.Call (.Name a p1) [] [] p2) (tE K W (mAct 0 f mc))) →
      PSs (cxOf (L2.CX P w) P w K mg base N qual scope g cdv A outer s H E) body (tS K (fun cls d _ H' => E cls d H') (m f mc))) :
    FnL P w K mg base (k + 1) g N qual scope cdv a (fun f mc => mDef N.length (m f mc) [.glo f]) := by
  intro A outer s H f mc ad st Q E hr e0 act sim p
  have KX : K.In s.heap := e0.mod.kin.keeps fun b o e => (e0.bs b o e).1
  have lim : s.heap.NoLimit := e0.mod.nolimit.keeps fun b o e => (e0.bs b o e).1
  refine codeAny_call_function hr.room.depth (KX _ _ lk) rfl Sc.co Sc.gen rfl (PySem.W.codeRec_of KX hcd)
    (hb _ _ _ _ _ _ (wpAny_newFunctionEnv_cells Sc.kind (fun y hy => ?_) fun env he s1 x => ?_))
  · have ey : y = (a, Value.ref f) := by simpa using hy
    rcases Sc.par y.1 (by rw [ey]; exact List.mem_singleton.mpr rfl) with q | q
    · exact .inl q
    · exact .inr ⟨q, PySem.W.cellsFrom_some _ _ _ (.inl q)⟩
  · subst he
    refine ⟨lim.keeps x.toInCall.keep, codeAny_func ?_⟩
    have I := inv_start (CX := L2.CX P w) (cd := cdv) (E := E) (vs := [.ref f]) (us := [.ref f]) Sc hr.room.hd e0 rfl (.cons rfl .nil) x
    refine wpAny_mono (body_call (ws := [.glo f]) (vs := [.ref f]) (hbody A outer s H E f mc (hr.deeper _) fun W pn xe p1 p2 tk => act E W pn xe p1 p2 ⟨k, rfl, hr.deeper _⟩ tk) I sim (.cons (.glo f) .nil) p) (fun fl s' hs => ?_) fun _ _ z => z
    cases fl with
    | ret u => exact hs
    | next => exact hs
    | brk => exact hs.elim
    | cont => exact hs.elim
end
@[reducible] def linkEnv {K : PySem.W.Frag} (L : Link K) (env : Env) (σ : L2.St) (c : Addr) (q : Str) : Link K where
  lk := fun ad H => L.lk ad H ∧ REnv K ad H env σ ∧ H c = some (LamX.CodeO c q)
  tabs := L.tabs
  cl := fun ad H ad' H' e ⟨h1, h2, h3⟩ => ⟨L.cl ad H ad' H' e h1, h2.mono e, e.cod _ _ h3⟩
theorem sim_out {K : PySem.W.Frag} (L : Link K) {env : Env} {σ : L2.St} {c : Addr} {q : Str} {ad : List Addr} {st : S} {H : Hp} (h : @Sim0 K (linkEnv L env σ c q) ad st H) : @Sim0 K L ad st H := by
  obtain ⟨h1, h2, h3, h4, h5, h6, h7⟩ := h
  exact @Sim0.mk K L ad st H h1 h2 h3 h4 h5 h6.1 h7
theorem sim_lk {K : PySem.W.Frag} (L : Link K) {env : Env} {σ : L2.St} {c : Addr} {q : Str} {ad : List Addr} {st : S} {H : Hp} (h : @Sim0 K (linkEnv L env σ c q) ad st H) : REnv K ad H env σ ∧ H c = some (LamX.CodeO c q) := by
  obtain ⟨h1, h2, h3, h4, h5, h6, h7⟩ := h
  exact h6.2
theorem sim_in {K : PySem.W.Frag} (L : Link K) {env : Env} {σ : L2.St} {c : Addr} {q : Str} {ad : List Addr} {st : S} {H : Hp} (h : @Sim0 K L ad st H) (r : REnv K ad H env σ) (hc : H c = some (LamX.CodeO c q)) : @Sim0 K (linkEnv L env σ c q) ad st H := by
  obtain ⟨h1, h2, h3, h4, h5, h6, h7⟩ := h
  exact @Sim0.mk K (linkEnv L env σ c q) ad st H h1 h2 h3 h4 h5 ⟨h6, r, hc⟩ h7
theorem ext_N {K : PySem.W.Frag} {ad : List Addr} {H H' : Hp} (e : LamX.ExtN H H') : Ext K ad H ad H' := by
  refine ⟨fun n b h => h, fun b vs h => ?_, fun b vs h => ?_, fun c q h => e _ _ h LamX.codeO_ne⟩
  · rcases h with (h | ⟨o, h⟩) | h
    · exact .inl (.inl (e _ _ h (fun _ z => nomatch z)))
    · exact .inl (.inr ⟨o, e _ _ h (fun _ z => nomatch z)⟩)
    · exact .inr h
  · rcases h with ⟨o, h⟩ | h
    · exact .inl ⟨o, e _ _ h (fun _ z => nomatch z)⟩
    · exact .inr h
theorem ro_N {K : PySem.W.Frag} {ad : List Addr} {H H' : Hp} {o : O} {a : Addr} (r : RO K ad H o a) (e : LamX.ExtN H H') : RO K ad H' o a := by
  have x : Ext K ad H ad H' := ext_N e
  cases o with
  | lst ws => obtain ⟨vs, h, q⟩ := r; exact ⟨vs, e _ _ h (fun _ z => nomatch z), q.mono x⟩
  | dic kvs => obtain ⟨vs, h, q⟩ := r; exact ⟨vs, e _ _ h (fun _ z => nomatch z), q.mono x⟩
  | ins C fs => obtain ⟨dx, fvs, h, q⟩ := r; exact ⟨dx, fvs, e _ _ h (fun _ z => nomatch z), q.mono x⟩
  | exc C fs =>
    rcases r with ⟨z, h⟩ | ⟨d, fvs, h, hd, q⟩
    · exact .inl ⟨z, e _ _ h (fun _ z => by unfold ExV at z; cases z)⟩
    · exact .inr ⟨d, fvs, e _ _ h (fun _ z => by unfold ExV at z; cases z), e _ _ hd (fun _ z => nomatch z), q.mono x⟩
theorem sim_N {K : PySem.W.Frag} [L : Link K] {ad : List Addr} {st : S} {H H' : Hp} (h : Sim0 K ad st H) (e : LamX.ExtN H H') (t : LamX.Tabs L.tabs H') : Sim0 K ad st H' :=
  ⟨h.len, h.all, h.lt, h.nd, fun n o a h1 h2 => ro_N (h.obj n o a h1 h2) e, L.cl _ _ _ _ (ext_N e) h.lk, t⟩
section
variable {X : Cx} [L : Link X.K] {Wx : WX} {pins : List (Addr × Obj)} {σ : L2.St} {H : Hp} {s : Shared} {env : Env}
theorem act_of {g f c' : Addr} {Ng : List Str} {qg : Str} {sg : Scope} {cdg pm ctv : Value} {params : Arguments} {body : Expr} {scope : Scope} {k : Nat} {a : Str} {mb : ME} (I : Inv X pins σ H s) (LS : LamX.LamS X.env.scope scope)
    (hf : s.heap.get? f = some (PySem.W.kla_obj "<lambda>" (X.env.qual ++ "<lambda>") params body scope (cloFrom X.env.cells scope.names []) pm c' ctv)) (hfn : H f = none) (hfr : f ∉ frs X.stack)
    (hbind : bindArgs (PySem.W.kla_fn "<lambda>" (X.env.qual ++ "<lambda>") params body scope (cloFrom X.env.cells scope.names []) pm (.ref c') ctv) ⟨[], []⟩ = pure [])
    (hbody : ∀ (A : Around) (outer : List PySem.Env) (s : Shared) (H : Hp) (E : XK), RoomG k (A.deeper (LamX.lamEnv X scope s.heap.objs.size f c')) → PE (LamX.lamCx X A outer s H E scope f c') body (@tE X.K (linkEnv L env σ c' (X.env.qual ++ "<lambda>")) (fun cls d _ H' => E cls d H') mb))
    (hN : Ng[0]? = some a) (hv : Vis sg a) (hd : (a == ("__debug__" : Str)) = false) (hcd : (a == ("__classdict__" : Str)) = false) (Eg : XK) (W : WX) (pn : List (Addr × Obj)) (xe : Value → Shared → Prop) (p1 p2 : Pos) (hr : RoomG (k + 1) (X.A.deeper (envOfC qg sg s.heap.objs.size g cdg)))
    (tk : Takes ((cxOf (L2.CX X.prog X.w) X.prog X.w X.K X.mg X.base Ng qg sg g cdg X.A X.stack s H Eg).tr pn xe) W) :
    PE ((cxOf (L2.CX X.prog X.w) X.prog X.w X.K X.mg X.base Ng qg sg g cdg X.A X.stack s H Eg).tr pn xe) (.Call (.Name a p1) [] [] p2) (@tE X.K (linkEnv L env σ c' (X.env.qual ++ "<lambda>")) W (mAct 0 f (mb env))) := by
  letI L2i : Link X.K := linkEnv L env σ c' (X.env.qual ++ "<lambda>")
  refine ⟨fun pZ sZ σZ HZ Q IZ ⟨ad, envZ, stZ, sim, q⟩ => ?_⟩
  unfold mAct at q
  cases e0 : envZ[0]? with
  | none => rw [e0] at q; exact q.elim
  | some ow =>
    cases ow with
    | none => rw [e0] at q; exact q.elim
    | some w0 =>
      obtain ⟨v0, hσ, r0⟩ := sim.en.val 0 w0 e0
      rw [e0] at q
      cases r0 with
      | glo f2 =>
        simp only at q
        by_cases hf2 : f2 = f
        · rw [if_pos hf2] at q
          subst hf2
          obtain ⟨hen, hco⟩ := sim_lk L sim.st
          refine wpAny_Call_Name_kw (thn ((pe_var (pos := p1) (i := 0) hN hv hd hcd).run pZ sZ σZ HZ (fun v H1 => v = .ref f2 ∧ H1 = HZ) IZ ⟨_, hσ, rfl, rfl⟩) fun u s1 ⟨v, H1, I1, r1, ev, eH⟩ => ?_)
          subst ev
          rw [eH] at I1
          obtain rfl : u = Value.ref f2 := r1
          have at1 := I1.base.keep f2 _ hf hfn hfr (fun z => nomatch (show f2 ∈ ([] : List Addr) from z))
          refine PySem.W.callWith_F0 ⟨_, _, _, _, at1⟩ ?_
          have un : Un (frs X.stack) [] H HZ s.heap s1.heap := I1.base
          obtain ⟨⟨oc, vs, t, hoc, hdc, hvc⟩, _, _⟩ := I1.hok c' _ hco
          have rc : codeAny (model X.prog X.w) (X.A.deeper (envOfC qg sg s.heap.objs.size g cdg)) (.call (.ref f2) ⟨[], []⟩) (CR (L2.CX X.prog X.w) (envOfC qg sg s.heap.objs.size g cdg :: X.stack) X.prog X.w HZ s1 Q (fun cls d H' => W cls d σZ H')) s1 := by
            refine PySem.W.kla_callFunE hr.room.depth at1 rfl LS.co LS.gen rfl ⟨c', oc, vs, t, rfl, hoc, hdc, hvc⟩ ?_
            rw [hbind]
            refine wpAny_pure (wpAny_newFunctionEnv (fun y hy => (LS.own y hy).2) (fun y hy => absurd hy (by simp)) (fun h₁ hns hsb => ⟨I1.nolimit.fresh _ hsb, ?_⟩) LS.kind)
            show codeAny _ _ (.expr body (LamX.lamEnv X scope s1.heap.objs.size f2 c')) _ _
            have kp : ∀ b o, s1.heap.get? b = some o → h₁.get? b = some o := fun b o e => hsb.extBut b o (Nat.ne_of_lt (Heap.lt_size e)) (Heap.get?_push_of_some _ e)
            have J := LamX.lam_start2 (tk := s1.toks + ([] : List (Str × Value)).length) (A := X.A.deeper (envOfC qg sg s.heap.objs.size g cdg)) (outer := envOfC qg sg s.heap.objs.size g cdg :: X.stack) (E := fun cls d H' => W cls d σZ H') (f := f2) (c' := c') I LS I1.env0 hr.room.hd un hns kp
            have rd : @tE X.K (linkEnv L env σ c' (X.env.qual ++ "<lambda>")) (fun cls d _ H' => W cls d σZ H') mb σ HZ (fun v H' => Q v H') := by
              refine ⟨ad, env, stZ, ⟨sim.st, hen⟩, ?_⟩
              cases em : mb env stZ with
              | bad => rw [em] at q; exact q
              | exc C fs st' =>
                rw [em] at q
                exact fun ad' H' cls d e1 s1 xr => q ad' H' cls d e1 ⟨s1.st, sim.en.mono e1⟩ xr
              | ok w st' =>
                rw [em] at q
                exact fun ad' H' v e1 s1 r1 => q ad' H' v e1 ⟨s1.st, sim.en.mono e1⟩ r1
            refine PySem.W.kla_codeExpr (wpAny_mono ((hbody _ _ s1 HZ _ (hr.deeper _)).run [] _ _ HZ _ J rd) (fun v s' hq => ?_) fun e s' hq => hq)
            obtain ⟨w', H', J', rv, q⟩ := hq
            exact ⟨w', H', J'.os, J'.bare, J'.base, J'.hok, rv, q⟩
          refine wpAny_call (codeAny_mono rc fun r s' hq => ?_)
          cases r with
          | error e => exact tk e s' (XE.of_call I1 (fun cls d H' h => h) hq)
          | ok fl =>
            cases fl with
            | ret u => exact I1.after hq
            | next => exact False.elim hq
            | brk => exact False.elim hq
            | cont => exact False.elim hq
        · rw [if_neg hf2] at q
          exact q.elim
      | _ => exact q.elim
theorem room_down {k : Nat} {A : Around} (h : ∃ k', k + 2 = k' + 1 ∧ RoomG k' A) : RoomG (k + 1) A := by
  obtain ⟨k', e, r⟩ := h
  obtain rfl : k' = k + 1 := by omega
  exact r
def mLam (M : Addr → (S → R W) → S → R W) (mb : ME) : ME := fun env st => M 0 (mb env) st
theorem se_lam {x a : Str} {g c P : Addr} {k : Nat} {sg : Scope} {cdg : Value} {Ng : List Str} {qg : Str} {params : Arguments} {body : Expr} {scope : Scope} {p lpos pos : Pos} {M : Addr → (S → R W) → S → R W} {mb : ME} (hg : Gl X x) (hm : X.mg x = some (.ref g)) (hk : PySem.W.keepIn X.K (.ref g) = true)
    (hNg : Ng[0]? = some a) (hva : Vis sg a) (F : ∀ L' : Link X.K, L'.tabs = L.tabs → @FnL X.prog X.w X.K L' X.mg X.base (k + 2) g Ng qg sg cdg a M) (hM : ∀ f mc st, M f mc st = M 0 mc st)
    (TB : LamX.TabB X.base X.mg c P) (hcode : X.env.code = .ref c) (hmT : (P, X.env.qual ++ "<lambda>") ∈ L.tabs) (hu : ∀ p ∈ L.tabs, p.1 = P → p.2 = X.env.qual ++ "<lambda>") (hr : RoomG (k + 2) X.A) (tk : Takes X Wx) (LS : LamX.LamS X.env.scope scope) (hdef : defaultsOf params X.env = ([], []))
    (hbind : ∀ (q : Str) (cl : List (Str × Addr)) (pm cv ctv : Value), bindArgs (PySem.W.kla_fn "<lambda>" q params body scope cl pm cv ctv) ⟨[], []⟩ = pure [])
    (hbody : ∀ L' : Link X.K, L'.tabs = L.tabs → ∀ (A : Around) (outer : List PySem.Env) (s : Shared) (H : Hp) (E : XK) (f c' : Addr), RoomG k (A.deeper (LamX.lamEnv X scope s.heap.objs.size f c')) → PE (LamX.lamCx X A outer s H E scope f c') body (@tE X.K L' (fun cls d _ H' => E cls d H') mb))
    (hdb : (x == ("__debug__" : Str)) = false := by decide) (hd : (a == ("__debug__" : Str)) = false := by decide) (hcd : (a == ("__classdict__" : Str)) = false := by decide) :
    PE X (.Call (.Name x p) [.Lambda params body scope lpos] [] pos) (tE X.K Wx (mLam M mb)) := by
  refine ⟨fun pins s σ H Q I ⟨ad, env, st, sim, h⟩ => ?_⟩
  refine wpAny_Call_Name_kw (ld_glob I hg hm ?_ hdb)
  refine PySem.W.callWith_K (h₀ := X.base) I.ok.mod.kin hk ?_ (by rfl) (by rfl)
  show wpAny _ _ (spliced ((false, eval (.Lambda params body scope lpos) X.env) :: backTo pos (starEach [] X.env))) _ _ s
  refine Calls.spliced_cons (LamX.lam_make2 I TB hcode hmT hu sim.st.tab hdef (LS.has I.ok) fun f c' pm' ctv H1 s' I1 eN T1 hf hfn hfr hco => ?_)
  have simN : Sim0 X.K ad st H1 := sim_N sim.st eN T1
  have enN : REnv X.K ad H1 env σ := sim.en.mono (ext_N eN)
  refine Calls.spliced_nil ⟨I1.kIn, ?_⟩
  have rc := F (linkEnv L env σ c' (X.env.qual ++ "<lambda>")) rfl X.A X.stack s' H1 f (mb env) ad st (fun v H' => Q v H') (fun cls d H' => Wx cls d σ H') hr I1.env0
    (fun E W pn xe p1 p2 hk' tk' => act_of I1 LS hf hfn hfr (hbind _ _ _ _ _) (fun A outer s H E hr2 => hbody (linkEnv L env σ c' (X.env.qual ++ "<lambda>")) rfl A outer s H E f c' hr2) hNg hva hd hcd E W pn xe p1 p2 (room_down hk') tk')
    (sim_in L simN enN hco) (by
      rw [hM]
      have h : PW X.K Wx ad env σ H Q (M 0 (mb env) st) := h
      cases e : M 0 (mb env) st with
      | bad => rw [e] at h; exact h
      | exc C fs st' =>
        rw [e] at h
        exact fun ad' H' cls d e1 s1 xr => h ad' H' cls d ((ext_N eN).trans e1) ⟨sim_out L s1, enN.mono e1⟩ xr
      | ok w st' =>
        rw [e] at h
        exact fun ad' H' v e1 s1 r1 => h ad' H' v ((ext_N eN).trans e1) ⟨sim_out L s1, enN.mono e1⟩ r1)
  refine wpAny_call (codeAny_mono rc fun r s2 hq => ?_)
  cases r with
  | error e => exact tk e s2 (XE.of_call I1 (fun cls d H' h => h) hq)
  | ok fl =>
    cases fl with
    | ret u => exact I1.after hq
    | next => exact False.elim hq
    | brk => exact False.elim hq
    | cont => exact False.elim hq
end
end MM

namespace MM
open PySem PySem.Spec PyProof.Rows L2
section
variable {X : Cx} [Link X.K] {Wx : WX} {pins : List (Addr × Obj)} {s : Shared} {σ : L2.St} {H : Hp} {ad : List Addr} {env : Env} {st : S} {pos : Pos}
def formR (ok : W → Bool) (r : R W) : R W := r.bind fun w s => if ok w then .ok w s else .bad
theorem PW.formR {ok : W → Bool} {Q : VK} {r : R W} (p : PW X.K Wx ad env σ H Q (formR ok r)) : PW X.K Wx ad env σ H (fun v H' => ∃ w, ok w = true ∧ (∃ ad', RW X.K ad' H' w v) ∧ Q v H') r := by
  cases r with
  | bad => exact p
  | exc C fs st' => exact p
  | ok w st' =>
    have p : PW X.K Wx ad env σ H Q (if ok w then .ok w st' else .bad) := p
    intro ad' H' v e1 s1 r1
    by_cases h : ok w = true
    · rw [if_pos h] at p
      exact ⟨w, h, ⟨_, r1⟩, p ad' H' v e1 s1 r1⟩
    · rw [if_neg h] at p
      exact p.elim
def isLen : W → Bool
  | .int n => decide (0 ≤ n) && decide (n < 2 ^ 63)
  | _ => false
def isStrW : W → Bool
  | .str _ => true
  | _ => false
def isBlW : W → Bool
  | .bl _ => true
  | _ => false
def wLenX (T : MT) : List W → S → R W := fun ws s => match ws with
  | [w] => match ownOf T w s with
    | some (_, g) => formR isLen (g [w] s)
    | none => wLen [w] s
  | _ => .bad
theorem lfn_lenX {k : Nat} {T : MT} (hT : OwnOk X k "__len__" T) (hr : RoomG (k + 1) X.A) (tk : Takes X Wx) : LfN X Wx (.builtin "len") (wLenX T) := by
  intro pins s σ H ad env st ws vs us Q I sim r rv q
  cases r with
  | nil => exact q.elim
  | @cons w ws v vs r rs =>
    cases rs with
    | cons _ _ => exact q.elim
    | nil =>
      unfold wLenX at q
      simp only at q
      cases e : ownOf T w st with
      | none =>
        rw [e] at q
        exact lfn_len pins s σ H ad env st [w] [v] us Q I sim (.cons r .nil) rv q
      | some Cg =>
        obtain ⟨C, g⟩ := Cg
        rw [e] at q
        obtain ⟨u, rfl, ru⟩ := vals1 rv
        obtain ⟨eT, a, ox, od, rfl, J⟩ := own_at I sim.st r ru e
        obtain ⟨f, h1, h2, F⟩ := hT C g eT
        obtain ⟨m, hF⟩ := I.fr
        refine PySem.W.len_K hF I.ok.mod.kin J h1 h2 ?_
        refine wpAny_mono (run_pA (us := [.ref a]) F hr.in1 rfl tk I sim (.cons ru .nil) (.cons r .nil) (PW.formR q)) (fun z s' ⟨y, H', I', ry, w', hw, ⟨ad', rw'⟩, q2⟩ => ?_) fun _ _ z => z
        cases rw' with
        | int i =>
          obtain ⟨t, rfl⟩ := ry
          obtain ⟨b1, b2⟩ := Bool.and_eq_true_iff.mp hw
          exact ⟨⟨of_decide_eq_true b1, of_decide_eq_true b2⟩, .int i, H', I'.tok _, ⟨_, rfl⟩, q2⟩
        | _ => cases hw
def wStrX (T : MT) : List W → S → R W := fun ws s => match ws with
  | [.str x] => .ok (.str x) s
  | [.int i] => if i.natAbs.log2 < 1920 then .ok (.str (toString i)) s else .bad
  | [w] => match ownOf T w s with
    | some (_, g) => formR isStrW (g [w] s)
    | none => .bad
  | _ => .bad
theorem lfn_strX {k : Nat} {T : MT} (hT : OwnOk X k "__str__" T) (hr : RoomG (k + 2) X.A) (tk : Takes X Wx) : LfN X Wx (.type "str") (wStrX T) := by
  intro pins s σ H ad env st ws vs us Q I sim r rv q
  cases r with
  | nil => exact q.elim
  | @cons w ws v vs r rs =>
    cases rs with
    | cons _ _ => cases w <;> exact q.elim
    | nil =>
      have r0 := r
      cases r with
      | str x => exact SkE.call_str_str pins s σ H _ us Q I rv ⟨x, rfl, q ad H _ .refl sim (.str _)⟩
      | int i =>
        by_cases hl : i.natAbs.log2 < 1920
        · simp only [wStrX, if_pos hl] at q
          exact call_str_int pins s σ H _ us Q I rv ⟨i, rfl, hl, q ad H _ .refl sim (.str _)⟩
        · simp only [wStrX, if_neg hl] at q
          exact q.elim
      | @ref n a0 hp =>
        simp only [wStrX] at q
        cases e : ownOf T (.ref n) st with
        | none => simp only [e] at q; exact q.elim
        | some Cg =>
          obtain ⟨C, g⟩ := Cg
          simp only [e] at q
          obtain ⟨u, rfl, ru⟩ := vals1 rv
          obtain ⟨eT, a, ox, od, rfl, J⟩ := own_at I sim.st r0 ru e
          obtain ⟨f, h1, h2, F⟩ := hT C g eT
          have hr2 : RoomG k X.A.in1.in1 := hr.in1.in1
          refine PySem.W.kso_call hr2.room.units0 I.kIn J h1 h2 ?_
          refine wpAny_mono (run_pA (us := [.ref a]) F hr2 rfl tk I sim (.cons ru .nil) (.cons r0 .nil) (PW.formR q)) (fun z s' ⟨y, H', I', ry, w', hw, ⟨ad', rw'⟩, q2⟩ => ?_) fun _ _ z => z
          cases rw' with
          | str x =>
            obtain ⟨t, rfl⟩ := ry
            exact ⟨.str x, H', I', ⟨t, rfl⟩, q2⟩
          | _ => cases hw
      | _ => exact q.elim
theorem bool_run {x : Value} {Q : Value → Shared → Prop} {prog : Program} {w : World} {A : Around} {E : Value → Shared → Prop} {s : Shared} (h : wpAny (model prog w) A.in1.in1 (truthy x) (fun b s' => Q (.bool b) s') E s) : wpAny (model prog w) A (call (.type "bool") [x]) Q E s := by
  refine callType_codes (T := "bool") (Bi := Builtin.«object.__init__») (Q₁ := fun r s₁ => ∃ b, r = .bool b ∧ Q r s₁) PySem.F.called_bool (PySem.F.typeCall_bool_1 _) PySem.F.entry_object_init ?_ ?_
  · refine codeAny_of_tree ?_
    show wpAny _ A.in1.in1 (do checkBuiltinCall "bool.__new__" ⟨[.type "bool", x], []⟩; again (.builtin "bool.__new__" ⟨[.type "bool", x], []⟩)) _ _ s
    refine wpAny_bind (wpAny_of_eq (PySem.F.newCall_bool_1 _) (wpAny_pure ⟨plainId_quiet (by decide +kernel) _, codeAny_builtin PySem.F.entry_bool_new ?_⟩))
    rw [Around.under_plainId (by decide +kernel) _]
    unfold Builtin.«bool.__new__»
    have f1 := F.conv_sub_bool
    obtain ⟨hp, g, d, tk, os⟩ := s
    repeat (any_goals (first | assumption | (with_reducible show wpAny _ _ (truthy x) _ _ _; refine wpAny_mono h (fun b s' q => ?_) fun _ _ z => z) | wp_step))
    all_goals exact ⟨_, rfl, q⟩
  · rintro obj s₁ ⟨b, rfl, hq⟩
    exact ⟨rfl, PySem.F.args_object_init_2 _ _, object_init_meets PySem.F.called_bool.init.lookup PySem.F.called_bool.made (by decide) prog w A.in1 _ s₁ ⟨rfl, rfl, hq⟩⟩
def wBoolX (T : MT) : List W → S → R W := fun ws s => match ws with
  | [w] => match ownOf T w s with
    | some (_, g) => formR isBlW (g [w] s)
    | none => .bad
  | _ => .bad
theorem lfn_boolX {k : Nat} {T : MT} (hT : OwnOk X k "__bool__" T) (hr : RoomG (k + 2) X.A) (tk : Takes X Wx) : LfN X Wx (.type "bool") (wBoolX T) := by
  intro pins s σ H ad env st ws vs us Q I sim r rv q
  cases r with
  | nil => exact q.elim
  | @cons w ws v vs r rs =>
    cases rs with
    | cons _ _ => exact q.elim
    | nil =>
      unfold wBoolX at q
      simp only at q
      cases e : ownOf T w st with
      | none => rw [e] at q; exact q.elim
      | some Cg =>
        obtain ⟨C, g⟩ := Cg
        rw [e] at q
        obtain ⟨u, rfl, ru⟩ := vals1 rv
        obtain ⟨eT, a, ox, od, rfl, J⟩ := own_at I sim.st r ru e
        obtain ⟨f, h1, h2, F⟩ := hT C g eT
        obtain ⟨m, hF⟩ := I.fr
        refine bool_run (PySem.W.truthy_K hF I.ok.mod.kin J h1 h2 ?_)
        refine wpAny_mono (run_pA (us := [.ref a]) F hr.in1.in1 rfl tk I sim (.cons ru .nil) (.cons r .nil) (PW.formR q)) (fun z s' ⟨y, H', I', ry, w', hw, ⟨ad', rw'⟩, q2⟩ => ?_) fun _ _ z => z
        cases rw' with
        | bl b =>
          obtain rfl : z = Value.bool b := ry
          exact ⟨.bl b, H', I', rfl, q2⟩
        | _ => cases hw

variable {x : Str} {p apos : Pos} {kws : List Keyword} {nk : MA} {ks : List Str}
def mCMK (C : Addr) (j : Nat) (pm : List Nat) (m : List W → S → R W) (nk : MA) : ME := fun env st => (nk env st).bind fun zs s => if zs.length = j then m (permL pm (.glo C :: zs)) s else .bad
theorem se_cmethK {k : Nat} {C pA gA : Addr} {mc : Value} {mn : Str} {fd : FuncData} {ps : List Str} {pm : List Nat} {m : List W → S → R W} {pl : Sem Bool} (r : ClX.CRead X.K C mc) (cm : ClX.CMet X.K C mc mn pA gA) (F : FnG X.prog X.w X.K X.mg X.base k gA fd ps m) (hb : KB X.K fd ps 1 ks pm) (hr : RoomG k X.A) (tk : Takes X Wx) (hg : Gl X x) (hm : X.mg x = some (.ref C)) (hkw : PK X kws (tL X.K Wx nk))
    (hall : (backToKw pos (keywordEach kws X.env)).all (·.1.isSome) = true := by rfl) (hks : (backToKw pos (keywordEach kws X.env)).filterMap (·.1) = ks := by rfl)
    (hdb : (x == ("__debug__" : Str)) = false := by decide) (hpl : ((backTo pos (starEach [] X.env)).any (·.1) || (backToKw pos (keywordEach kws X.env)).any (·.1.isNone)) = false := by rfl)
    (ht : eval (.Call (.Attribute (.Name x p) mn apos) [] kws pos) X.env = (do
      let ov ← eval (.Name x p) X.env
      standAt apos.atName
      let (f, first) ← holding [ov] (getMethod ov mn pl)
      callWith pos f first (backTo pos (starEach [] X.env)) (backToKw pos (keywordEach kws X.env))) := by rfl) :
    PE X (.Call (.Attribute (.Name x p) mn apos) [] kws pos) (tE X.K Wx (mCMK C ks.length pm m nk)) := by
  refine ⟨fun pins s σ H Q I ⟨ad, env, st, sim, q⟩ => ?_⟩
  refine PySem.W.methodCall_KW (pl := pl) (ld_glob I hg hm ?_ hdb) ht
  have I0 : Inv X pins σ H s := I
  refine ClX.getmethcm_ok I0 r cm fun s2 I2 => ?_
  refine PySem.W.callWith_of (P := PySem.W.MethP X.K s.heap.objs.size gA (.ref C)) hpl (PySem.W.keeps_M cm.fi) (evalArgs_kw2_nil hall (run_bindK hkw PW.excOk I2 sim q fun zs st2 ys ts H2 ad2 s3 _ e2 s2' rz rt I3 p2 => ⟨⟨ClX.pin_at I3, I3.kIn⟩, ?_⟩))
  rw [hks]
  by_cases hl : zs.length = ks.length
  · rw [if_pos hl] at p2
    have lt : ts.length = ks.length := by rw [← rt.length, ← rz.length]; exact hl
    have l3 : (permL pm ([Value.ref C] ++ ts)).length = ps.length := by rw [permL_len (fun i hi => by rw [List.length_append, lt]; exact hb.2.1 i hi), hb.1]
    have p2 := PW.ext p2 e2
    have z : wpAny (model X.prog X.w) X.A (call (.ref s.heap.objs.size) [] (ks.zip ts)) (EP X ((s.heap.objs.size, PySem.W.methodObj (.ref gA) (.ref C)) :: pins) σ Q) X.xe s3 := by
      refine wpAny_call (PySem.W.method_call (ClX.pin_at I3) (codeAny_mono (F X.A X.stack s3 H2 ⟨[.ref C], ks.zip ts⟩ _ (permL pm ([V.ref C] ++ ys)) (permL pm ([W.glo C] ++ zs)) ad2 st2 (fun v H' => Q v H') (fun cls d H' => Wx cls d σ H') hr I3.env0 (hb.2.2 s3 [.ref C] ts I3.kIn rfl lt) l3
        (vals_perm (Vals.append (show Vals [V.ref C] [Value.ref C] from .cons rfl .nil) rt) pm) s2'.st ((RWs.append (RWs.cons (.glo C) .nil) rz).perm pm) ?_) fun res s' hq => ?_))
      · have p3 : PW X.K Wx ad2 env σ H2 Q (m (permL pm (.glo C :: zs)) st2) := p2
        show PC X.K ad2 H2 _ _ (m (permL pm (.glo C :: zs)) st2)
        cases e : m (permL pm (.glo C :: zs)) st2 with
        | ok w st' => rw [e] at p3; exact fun ad' H' v e1 s1 rw' => p3 ad' H' v e1 (s2'.ext s1 e1) rw'
        | exc C fs st' => rw [e] at p3; exact fun ad' H' cls d e1 s1 x => p3 ad' H' cls d e1 (s2'.ext s1 e1) x
        | bad => rw [e] at p3; exact p3
      · cases res with
        | error e => exact tk e s' (XE.of_call I3 (fun cls d H' h => h) hq)
        | ok fl =>
          cases fl with
          | ret u => exact I3.after hq
          | next => exact False.elim hq
          | brk => exact False.elim hq
          | cont => exact False.elim hq
    exact thn z fun _ _ y => ClX.unpinE y
  · rw [if_neg hl] at p2
    exact p2.elim
end

def mStar (n : Nat) (m : List W → S → R W) : List W → S → R W := fun ws st => if n ≤ ws.length ∧ ws.length ≤ 1000000 then m (ws.take n ++ [.tup (ws.drop n)]) st else .bad
section
variable {P : Program} {w : World} {K : PySem.W.Frag} [Link K] {mg : Str → Option Value} {base : Heap} {k : Nat} {f : Addr} {name qual : Str} {params : Arguments} {body : List Stmt} {scope : Scope} {dV kV doc pm cdv ct oc : Value} {an od : Option Addr}
  {osl : Array (Option Value)} {N ps : List Str} {pv : Str}
theorem fnP_star {m : MS} (lk : K.lookup f = some ⟨oc, od, .func (PySem.W.fnOf name qual params body scope dV kV doc pm an cdv ct), osl⟩) (hcd : PySem.W.codeIn K cdv qual = true) (Sc : FnScope N (ps ++ [pv]) scope)
    (hb : ∀ us rest : List Value, us.length = ps.length → bindArgs (PySem.W.fnOf name qual params body scope dV kV doc pm an cdv ct) ⟨us ++ rest, []⟩ = (newTuple rest >>= fun t => pure (ps.zip us ++ [(pv, t)])))
    (hbody : ∀ (A : Around) (outer : List PySem.Env) (s : Shared) (H : Hp) (E : XK), RoomG k (A.deeper (envOfC qual scope s.heap.objs.size f cdv)) →
      PSs (cxOf (L2.CX P w) P w K mg base N qual scope f cdv A outer s H E) body (tS K (fun cls d _ H' => E cls d H') m)) :
    FnP P w K mg base (k + 1) f (mStar ps.length (mDef N.length m)) := by
  intro A outer s H us vs ws ad st Q E hr e0 rv sim r p
  unfold mStar at p
  by_cases hl : ps.length ≤ ws.length ∧ ws.length ≤ 1000000
  · rw [if_pos hl] at p
    have lv : vs.length = ws.length := r.length.symm
    have lu : us.length = ws.length := by rw [← rv.length, lv]
    have hn : H s.heap.objs.size = Option.none := e0.hok.fresh (Nat.le_refl _)
    have l1 : (us.take ps.length).length = ps.length := by rw [List.length_take]; omega
    have l2 : (us.drop ps.length).length ≤ sizeLine := line_of (by rw [List.length_drop]; omega)
    have KX : K.In s.heap := e0.mod.kin.keeps fun b o e => (e0.bs b o e).1
    have hbe := hb (us.take ps.length) (us.drop ps.length) l1
    rw [List.take_append_drop] at hbe
    have r1 : RWs K ad H (ws.take ps.length) (vs.take ps.length) := r.take _
    have r2 : RWs K ad H (ws.drop ps.length) (vs.drop ps.length) := r.drop _
    have new : ObjOk P w (upd H s.heap.objs.size (.tup (vs.drop ps.length))) (s.heap.push ({ cls := .type "tuple", data := .seq (us.drop ps.length).toArray } : Obj)) s.heap.objs.size (.tup (vs.drop ps.length)) :=
      ⟨line_of (by rw [List.length_drop]; omega), us.drop ps.length, rv.drop _, ⟨_, Heap.get?_push_size _ rfl, rfl, _, rfl⟩⟩
    have e2 := StX.env0_laid e0 new
    have un := StX.un_laid (fs := frs outer) (s := s) (o := ({ cls := .type "tuple", data := .seq (us.drop ps.length).toArray } : Obj)) (u := .tup (vs.drop ps.length)) hn
    have x1 : Ext K ad H ad (upd H s.heap.objs.size (.tup (vs.drop ps.length))) := ext_keep (up_keep hn)
    have sim2 := sim.keep (up_keep (u := .tup (vs.drop ps.length)) hn)
    have rr : RWs K ad (upd H s.heap.objs.size (.tup (vs.drop ps.length))) (ws.take ps.length ++ [.tup (ws.drop ps.length)]) (vs.take ps.length ++ [V.ref s.heap.objs.size]) := (r1.mono x1).append (.cons (.tup (.of upd_same) (r2.mono x1)) .nil)
    have vv : Vals (vs.take ps.length ++ [V.ref s.heap.objs.size]) (us.take ps.length ++ [Value.ref s.heap.objs.size]) := Vals.append (rv.take _) (.cons rfl .nil)
    have lenp : (vs.take ps.length ++ [V.ref s.heap.objs.size]).length = (ps ++ [pv]).length := by
      rw [List.length_append, List.length_append, List.length_take, List.length_singleton, List.length_singleton]
      omega
    have lim : (s.heap.push ({ cls := .type "tuple", data := .seq (us.drop ps.length).toArray } : Obj)).NoLimit := e0.mod.nolimit.keeps fun b o e => (e2.bs b o e).1
    refine codeAny_call_function hr.room.depth (KX _ _ lk) rfl Sc.co Sc.gen rfl (PySem.W.codeRec_of KX hcd) ?_
    rw [hbe]
    refine wpAny_bind (wpAny_newTuple (wpAny_pure ?_) l2)
    have ez : ps.zip (us.take ps.length) ++ [(pv, Value.ref s.heap.objs.size)] = (ps ++ [pv]).zip (us.take ps.length ++ [Value.ref s.heap.objs.size]) := by
      rw [List.zip_append l1.symm]
      rfl
    rw [ez]
    refine wpAny_newFunctionEnv_cells (s := { s with heap := s.heap.push ({ cls := .type "tuple", data := .seq (us.drop ps.length).toArray } : Obj) }) Sc.kind (fun y hy => ?_) fun env he s1 x => ?_
    · rcases Sc.par y.1 (List.of_mem_zip hy).1 with q | q
      · exact .inl q
      · exact .inr ⟨q, PySem.W.cellsFrom_some _ _ _ (.inl q)⟩
    subst he
    refine ⟨lim.keeps x.toInCall.keep, codeAny_func ?_⟩
    have I := inv_start (CX := L2.CX P w) (cd := cdv) (E := E) (f := f) Sc hr.room.hd e2 lenp vv x
    have kk : ∀ b o, s.heap.get? b = some o → (s.heap.push ({ cls := .type "tuple", data := .seq (us.drop ps.length).toArray } : Obj)).get? b = some o := fun b o q => Heap.get?_push_of_some _ q
    have up1 : ∀ e s'', L2.CX P w outer (upd H s.heap.objs.size (.tup (vs.drop ps.length))) { s with heap := s.heap.push ({ cls := .type "tuple", data := .seq (us.drop ps.length).toArray } : Obj) } E e s'' → L2.CX P w outer H s E e s'' := fun e s'' y => StX.cxUp outer s H { s with heap := s.heap.push ({ cls := .type "tuple", data := .seq (us.drop ps.length).toArray } : Obj) } (upd H s.heap.objs.size (.tup (vs.drop ps.length))) E e s'' un kk rfl y
    refine wpAny_mono (body_call (hbody A outer _ _ E (hr.deeper _)) I sim2 rr (PC.ext p x1)) (fun fl s' hs => ?_) fun e s' z => wpAny_mono z (fun _ s'' y => up1 e s'' y) fun e2 s'' y => up1 e2 s'' y
    have fin : ∀ {u : Value}, CE outer P w (upd H s.heap.objs.size (.tup (vs.drop ps.length))) { s with heap := s.heap.push ({ cls := .type "tuple", data := .seq (us.drop ps.length).toArray } : Obj) } Q u s' → CE outer P w H s Q u s' :=
      fun {u} ⟨v, H', h1, h2, h3, h4, h5, h6⟩ => ⟨v, H', h1, h2, un.trans h3, h4, h5, h6⟩
    cases fl with
    | ret u => exact fin hs
    | next => exact fin hs
    | brk => exact hs.elim
    | cont => exact hs.elim
  · rw [if_neg hl] at p
    exact p.elim
end
end MM

namespace MM
open PySem PySem.Spec PyProof.Rows L2
def S0 : S := ⟨0, fun _ => none⟩
@[reducible] def link0 (K : PySem.W.Frag) (T : List (Addr × Str)) : Link K := ⟨fun _ _ => True, T, fun _ _ _ _ _ h => h⟩
theorem sim_zero {K : PySem.W.Frag} {T : List (Addr × Str)} {H : Hp} (h : ∀ p ∈ T, H p.1 = some (.tbl #[])) : @Sim0 K (link0 K T) [] S0 H :=
  @Sim0.mk K (link0 K T) [] S0 H rfl (fun n h => absurd h (Nat.not_lt_zero n)) (fun _ _ h => nomatch h) List.nodup_nil (fun _ _ _ h _ => nomatch h) trivial fun p hp => LamX.TabS.nil (h p hp)
theorem rws_ints {K : PySem.W.Frag} {ad : List Addr} {H : Hp} : ∀ ns : List Int, RWs K ad H (ns.map W.int) (ns.map V.int)
  | [] => .nil
  | n :: ns => .cons (.int n) (rws_ints ns)
section
variable {P : Program} {w : World} {K : PySem.W.Frag} {mg mb : Str → Option Value} {k : Nat} {fa a : Addr} {cs : List (Addr × Addr)} {fd : FuncData} {x : Str} {s₁ : Shared} {vs : List Value} {ns : List Int} {m : List W → S → R W} {T : List (Addr × Str)}
structure EndG (K : PySem.W.Frag) (mg mb : Str → Option Value) (cs : List (Addr × Addr)) (a : Addr) (vs : List Value) (s₁ : Shared) : Prop where
  kin : K.In s₁.heap
  glob : s₁.heap.Ns mainGlobals mg
  blt : s₁.heap.Ns builtinsNs mb
  boot : ∀ x : Str, x ≠ "__name__" → mb x = bootBuiltins x
  lim : s₁.heap.NoLimit
  gens : s₁.gens = #[]
  tab : ∀ p ∈ cs, s₁.heap.get? p.2 = some { cls := .none, data := .fields #[] }
  free : ∀ p ∈ cs, K.lookup p.2 = none
  code : ∀ p ∈ cs, PySem.W.CodeHd s₁.heap p.1 p.2
  main : ∃ (bm : Addr) (ob : Obj), mg "__builtins__" = some (.ref bm) ∧ bm ≠ builtinsNs ∧ s₁.heap.get? bm = some ob ∧ ob.cls = .type "module" ∧ ob.dict = some builtinsNs ∧ ob.data = .plain
  arg : s₁.heap.get? a = some { cls := .type "list", data := .seq vs.toArray }
theorem EndG.isT (G : EndG K mg mb cs a vs s₁) {b : Addr} (h : b ∈ cs.map (·.2)) : s₁.heap.get? b = some { cls := .none, data := .fields #[] } := by
  obtain ⟨p, hp, e⟩ := List.mem_map.mp h
  rw [← e]
  exact G.tab p hp
theorem EndG.notT (G : EndG K mg mb cs a vs s₁) : a ∉ cs.map (·.2) := fun z => by
  have q := (G.isT z).symm.trans G.arg
  have q2 : Data.fields #[] = Data.seq vs.toArray _ := congrArg Obj.data (Option.some.inj q)
  cases q2
structure EndH (K : PySem.W.Frag) (cs : List (Addr × Addr)) (a : Addr) (ns : List Int) (H : Hp) : Prop where
  tab : ∀ p ∈ cs, H p.2 = some (.tbl #[])
  form : ∀ b, H b = none ∨ b ∈ cs.map (·.2) ∨ ∃ o xs, H b = some (.frz o (.lst xs))
  arg : FrzL K H a (ns.map V.int)
  few : ∀ b, H b ≠ none → b = a ∨ b ∈ cs.map (·.2)
  free : H a ≠ none → K.lookup a = none
theorem end_core {H : Hp} (G : EndG K mg mb cs a vs s₁) (h : EndH K cs a ns H) (hok : HOk P w H s₁.heap) (hT : ∀ p ∈ T, ∃ c, (c, p.1) ∈ cs) (hr : RoomG k callerA)
    (F : ∀ base : Heap, K.In base → base.Ns mainGlobals mg → (∀ p ∈ cs, LamX.TabB base mg p.1 p.2) → @FnG P w K (link0 K T) mg base k fa fd [x] m) (hbind : ∀ (s : Shared) (u : Value), BindsTo s fd ⟨[u], []⟩ [(x, u)])
    (hm : ∃ st', m [.frz (ns.map W.int)] S0 = .ok (.bl true) st') :
    codeAny (model P w) callerA (.call (.ref fa) ⟨[.ref a], []⟩) (fun r s' => r = .ok (.ret (.bool true)) ∧ OldK s₁.heap s'.heap ∧ s'.os = s₁.os ∧ AllBare s'.gens) s₁ := by
  have inBase : ∀ {b : Addr} {o : Obj}, s₁.heap.get? b = some o → H b = none → (hidT s₁.heap H).get? b = some o := fun e n => hidT_get e n
  have bare : ∀ {b : Addr} {o : Obj}, s₁.heap.get? b = some o → (∀ us n, o.data ≠ .seq us n) → o.data ≠ .fields #[] → H b = none := fun {b o} e n1 n2 => by
    cases q : H b with
    | none => rfl
    | some u =>
      rcases h.few b (by rw [q]; simp) with z | z
      · rw [z, G.arg] at e
        cases e
        exact (n1 _ _ rfl).elim
      · rw [G.isT z] at e
        cases e
        exact (n2 rfl).elim
  have dicts : ∀ {b : Addr} {o : Obj} {es : Array DictEntry} {ep : Nat}, s₁.heap.get? b = some o → o.data = .dict es ep → H b = none := fun {b o es ep} e d => bare e (fun us n z => by rw [d] at z; cases z) fun z => by rw [d] at z; cases z
  have names : ∀ {b : Addr} {mm : Str → Option Value}, s₁.heap.Ns b mm → (hidT s₁.heap H).Ns b mm := fun {b mm} ⟨o, es, ep, e, d, r⟩ => ⟨o, es, ep, inBase e (dicts e d), d, r⟩
  have kb : K.In (hidT s₁.heap H) := fun b o e => inBase (G.kin b o e) (by
    cases q : H b with
    | none => rfl
    | some u =>
      rcases h.few b (by rw [q]; simp) with z | z
      · rw [z] at e q
        rw [h.free (by rw [q]; simp)] at e
        cases e
      · obtain ⟨p, hp, ep⟩ := List.mem_map.mp z
        rw [← ep, G.free p hp] at e
        cases e)
  have hM : L2.Mod K mg (hidT s₁.heap H) := ⟨kb, names G.glob, ⟨mb, names G.blt, G.boot⟩, by obtain ⟨mc, l1, l2⟩ := G.lim; exact ⟨mc, names l1, l2⟩⟩
  have TB : ∀ p ∈ cs, LamX.TabB (hidT s₁.heap H) mg p.1 p.2 := fun p hp => by
    have tp := G.tab p hp
    refine ⟨?_, ?_, fun z => ?_⟩
    · obtain ⟨o, us, file, tf, flags, tg, inF, text, tt, e1, r1, r2, r3, r4⟩ := G.code p hp
      refine ⟨o, us, file, tf, flags, tg, inF, text, tt, inBase e1 (bare e1 (fun us n z => by rw [r2] at z; cases z) fun z => ?_), r1, r2, r3, r4⟩
      rw [r2] at z
      cases z
      simp at r3
    · obtain ⟨bm, ob, b1, b2, b3, b4, b5, b6⟩ := G.main
      have n1 : bm ≠ mainGlobals := fun q => by
        obtain ⟨o, es, ep, e, hd, _⟩ := G.glob
        rw [q, e] at b3
        cases b3
        rw [hd] at b6
        cases b6
      have n2 : bm ≠ p.2 := fun q => by
        rw [q, tp] at b3
        cases b3
        cases b6
      exact ⟨bm, ob, b1, b2, n1, n2, inBase b3 (bare b3 (fun us n z => by rw [b6] at z; cases z) fun z => by rw [b6] at z; cases z), b4, b5, b6⟩
    · obtain ⟨o, es, ep, e, hd, _⟩ := G.glob
      rw [z, tp] at e
      cases e
      cases hd
  have e0 : Env0 P w K mg (hidT s₁.heap H) callerA [] s₁ H := ⟨rfl, hM, fun b o e => of_hidT e, Nat.le_of_eq (hidT_size _ _), trivial, fun b hb => absurd (show b ∈ ([] : List Addr) from hb) (by simp), hok, .of_eq G.gens⟩
  have st0 : @Sim0 K (link0 K T) [] S0 H := sim_zero fun p hp => by
    obtain ⟨c, hc⟩ := hT p hp
    exact h.tab _ hc
  obtain ⟨st', em⟩ := hm
  refine codeAny_mono (F _ kb (names G.glob) TB callerA [] s₁ H ⟨[.ref a], []⟩ [.ref a] [.ref a] [.frz (ns.map W.int)] [] S0 (fun v _ => v = .bl true) (fun _ _ _ => False) hr e0 (hbind s₁ (.ref a)) rfl (.cons rfl .nil) st0 (.cons (.frz h.arg (rws_ints ns)) .nil) ?_) fun r s' hq => ?_
  · rw [em]
    intro ad' H' v _ _ rw'
    cases rw'
    rfl
  · cases r with
    | error e =>
      obtain ⟨_, _, _, _, _, _, _, _, _, _, _, _, z⟩ := hq
      exact z.elim
    | ok fl =>
      cases fl with
      | next => exact False.elim hq
      | brk => exact False.elim hq
      | cont => exact False.elim hq
      | ret u =>
        obtain ⟨v, H', os, bareG, un, hok', r', q⟩ := hq
        obtain rfl : v = .bl true := q
        obtain rfl : u = Value.bool true := r'
        have same : ∀ b o, b ∉ cs.map (·.2) → s₁.heap.get? b = some o → s'.heap.get? b = some o := fun b o nb e => by
          cases q : H b with
          | none => exact un.keep b o e q (fun z => nomatch (show b ∈ ([] : List Addr) from z)) (by simp)
          | some u =>
            rcases h.form b with z | z | ⟨ob, xs, z⟩
            · rw [q] at z
              cases z
            · exact absurd z nb
            · obtain ⟨y1, _⟩ := hok b _ z
              obtain ⟨y2, _⟩ := hok' b _ (un.frzs b ob _ z)
              rw [e] at y1
              cases y1
              exact y2
        have more : ∀ p ∈ cs, ∃ us : Array Value, s'.heap.get? p.2 = some { cls := .none, data := .fields us } := fun p hp => by
          obtain ⟨us, z⟩ := un.tbls p.2 #[] (h.tab p hp)
          exact ⟨_, hok' p.2 _ z⟩
        refine ⟨rfl, ⟨fun b o e => ?_, fun b o e => ?_⟩, os, bareG⟩
        · by_cases hb : b ∈ cs.map (·.2)
          · obtain ⟨p, hp, ep⟩ := List.mem_map.mp hb
            obtain ⟨us, hu⟩ := more p hp
            rw [← ep] at e ⊢
            rw [G.tab p hp] at e
            cases e
            exact .inr (.inl ⟨((G.code p hp).tab (G.tab p hp)).isCodeTable, rfl, #[], us, rfl, by rw [Array.empty_append]; exact hu⟩)
          · exact .inl (same b o hb e)
        · by_cases hb : b ∈ cs.map (·.2)
          · obtain ⟨p, hp, ep⟩ := List.mem_map.mp hb
            obtain ⟨us, hu⟩ := more p hp
            rw [← ep]
            exact ⟨_, hu⟩
          · exact ⟨o, same b o hb e⟩
theorem end_call (G : EndG K mg mb cs a vs s₁) (hi : IntsAre vs ns) (hl : ns.length ≤ sizeLine) (hT : ∀ p ∈ T, ∃ c, (c, p.1) ∈ cs) (hr : RoomG k callerA)
    (F : ∀ base : Heap, K.In base → base.Ns mainGlobals mg → (∀ p ∈ cs, LamX.TabB base mg p.1 p.2) → @FnG P w K (link0 K T) mg base k fa fd [x] m) (hbind : ∀ (s : Shared) (u : Value), BindsTo s fd ⟨[u], []⟩ [(x, u)])
    (hm : ∃ st', m [.frz (ns.map W.int)] S0 = .ok (.bl true) st') :
    codeAny (model P w) callerA (.call (.ref fa) ⟨[.ref a], []⟩) (fun r s' => r = .ok (.ret (.bool true)) ∧ OldK s₁.heap s'.heap ∧ s'.os = s₁.os ∧ AllBare s'.gens) s₁ := by
  have rv := vals_of_ints hi
  have lv := hi.length
  have notA := G.notT
  have memT : ∀ p ∈ cs, p.2 ∈ cs.map (·.2) := fun p hp => List.mem_map.mpr ⟨p, hp, rfl⟩
  cases hk : K.lookup a with
  | some o =>
    have e := G.kin a o hk
    rw [G.arg] at e
    cases e
    refine end_core (H := fun b => if b ∈ cs.map (·.2) then some (.tbl #[]) else none) G ⟨fun p hp => if_pos (memT p hp), fun b => ?_, .inr ⟨_, vs.toArray, _, hk, rfl, rfl, rfl, by rw [List.size_toArray, lv]; exact hl, by simpa using rv⟩, fun b z => ?_, fun z => absurd (if_neg notA) z⟩ (fun b u z => ?_) hT hr F hbind hm
    · by_cases hb : b ∈ cs.map (·.2)
      · exact .inr (.inl hb)
      · exact .inl (if_neg hb)
    · by_cases hb : b ∈ cs.map (·.2)
      · exact .inr hb
      · exact absurd (if_neg hb) z
    · by_cases hb : b ∈ cs.map (·.2)
      · cases (if_pos hb).symm.trans z
        exact G.isT hb
      · cases (if_neg hb).symm.trans z
  | none =>
    refine end_core (H := fun b => if b = a then some (.frz { cls := .type "list", data := .seq vs.toArray } (.lst (ns.map V.int))) else if b ∈ cs.map (·.2) then some (.tbl #[]) else none) G
      ⟨fun p hp => (if_neg (fun z => notA (by rw [← z]; exact memT p hp))).trans (if_pos (memT p hp)), fun b => ?_, .inl ⟨_, if_pos rfl⟩, fun b z => ?_, fun _ => hk⟩ (fun b u z => ?_) hT hr F hbind hm
    · by_cases hb : b = a
      · exact .inr (.inr ⟨_, _, if_pos hb⟩)
      · by_cases hb2 : b ∈ cs.map (·.2)
        · exact .inr (.inl hb2)
        · exact .inl ((if_neg hb).trans (if_neg hb2))
    · by_cases hb : b = a
      · exact .inl hb
      · by_cases hb2 : b ∈ cs.map (·.2)
        · exact .inr hb2
        · exact absurd ((if_neg hb).trans (if_neg hb2)) z
    · by_cases hb : b = a
      · cases (if_pos hb).symm.trans z
        rw [hb]
        exact ⟨G.arg, by rw [List.length_map]; exact hl, vs, _, rv, G.arg⟩
      · have z1 := (if_neg hb).symm.trans z
        by_cases hb2 : b ∈ cs.map (·.2)
        · cases (if_pos hb2).symm.trans z1
          exact G.isT hb2
        · cases (if_neg hb2).symm.trans z1
end
def LawM (l : PySem.W.OpenLaw) (w : World) (K : PySem.W.Frag) (k : Nat) (x : Str) (mg : Str → Option Value) (fa : Addr) (h : Heap) (m : List W → S → R W) : Prop :=
  ∃ (fd : FuncData) (cs : List (Addr × Addr)) (T : List (Addr × Str)), (∀ p ∈ cs, h.get? p.2 = some { cls := .none, data := .fields #[] }) ∧ (∀ p ∈ cs, K.lookup p.2 = none) ∧ (∀ p ∈ cs, PySem.W.CodeHd h p.1 p.2) ∧ (∀ p ∈ T, ∃ c, (c, p.1) ∈ cs) ∧ (∀ (s : Shared) (u : Value), BindsTo s fd ⟨[u], []⟩ [(x, u)]) ∧
    ∀ base : Heap, K.In base → base.Ns mainGlobals mg → (∀ p ∈ cs, LamX.TabB base mg p.1 p.2) → @FnG l.prog w K (link0 K T) mg base k fa fd [x] m
theorem walk_M {l : PySem.W.OpenLaw} {n k : Nat} {q : Program} {loose : List Str} {XP : (Str → Option Value) → Heap → Prop} {YP : World → Heap → Prop} {d : DefRec} {K : Params → PySem.W.Frag} {x : Str} {m : List W → S → R W}
    (hn : l.most = some n) (hn2 : n ≤ sizeLine) (hdf : d.params.defaults = []) (hr : RoomG k callerA) (hY : ∀ (w : World) (h : Heap), YP w h → (K w.params).In h)
    (F : ∀ (w : World) (mg : Str → Option Value) (fa : Addr) (h : Heap), YP w h → (K w.params).In h → h.Ns mainGlobals mg → mg d.name = some (.ref fa) → LawM l w (K w.params) k x mg fa h m)
    (hm : ∀ ns : List Int, ns.length ≤ n → (∀ z ∈ ns, Builtin.Int.intBits z ≤ 1048576) → ∃ st', m [.frz (ns.map W.int)] S0 = .ok (.bl true) st') :
    PySem.W.WalkO q loose XP YP l.row.toRowW d [] (fun f vs => PySem.call f vs) := by
  refine Att.attach_callB hn hdf fun w s₀ s₁ mg mb fa o pm cd doc a vs ns G Y ho hd hcd hmg hobj hints hlen hbits hg => ?_
  have KX := hY w _ Y
  obtain ⟨fd, cs, T, hT, nT, C, hTc, hb, hF⟩ := F w mg fa _ Y KX G.T.g hmg
  exact end_call ⟨KX, G.T.g, G.T.b, G.T.builtins, G.T.nolimit, hg, hT, nT, C, G.T.bmain, hobj⟩ hints (Nat.le_trans hlen hn2) hTc hr hF hb (hm ns hlen hbits)
theorem roomG_caller {k : Nat} (h : Room k callerA) : RoomG k callerA := ⟨h, rfl⟩
end MM

namespace MM
open PySem PySem.Spec PyProof.Rows L2
abbrev Frag := PySem.W.Frag
theorem walk_ME {l : PySem.W.OpenLaw} {n k : Nat} {q : Program} {loose : List Str} {XP : (Str → Option Value) → Heap → Prop} {YP : World → Heap → Prop} {d : DefRec} {x : Str}
    (hn : l.most = some n) (hn2 : n ≤ sizeLine) (hdf : d.params.defaults = []) (hr : RoomG k callerA)
    (F : ∀ (w : World) (mg : Str → Option Value) (fa : Addr) (h : Heap), YP w h → h.Ns mainGlobals mg → mg d.name = some (.ref fa) → ∃ (K : Frag) (m : List W → S → R W), K.In h ∧ LawM l w K k x mg fa h m ∧
      ∀ ns : List Int, ns.length ≤ n → (∀ z ∈ ns, Builtin.Int.intBits z ≤ 1048576) → ∃ st', m [.frz (ns.map W.int)] S0 = .ok (.bl true) st') :
    PySem.W.WalkO q loose XP YP l.row.toRowW d [] (fun f vs => PySem.call f vs) := by
  refine Att.attach_callB hn hdf fun w s₀ s₁ mg mb fa o pm cd doc a vs ns G Y ho hd hcd hmg hobj hints hlen hbits hg => ?_
  obtain ⟨K, m, KX, ⟨fd, cs, T, hT, nT, C, hTc, hb, hF⟩, hm⟩ := F w mg fa _ Y G.T.g hmg
  exact end_call ⟨KX, G.T.g, G.T.b, G.T.builtins, G.T.nolimit, hg, hT, nT, C, G.T.bmain, hobj⟩ hints (Nat.le_trans hlen hn2) hTc hr hF hb (hm ns hlen hbits)
structure DefA where
  at_ : Frag → Addr
  name : Str
  qual : Str
  params : Arguments
  body : List Stmt
  scope : Scope
  dfl : List He.Dv := []
  kwd : List (Str × He.Dv) := []
def fnA (K : Frag) (a : Addr) : He.FnW := match K.lookup a with
  | some ⟨_, _, .func fd, _⟩ => some (fd.name, fd.qualname, fd.params, fd.body, fd.scope, fd.globals, fd.closure, fd.builtins)
  | _ => none
def DefA.val (d : DefA) : He.FnW := some (d.name, d.qual, d.params, .stmts d.body, d.scope, mainGlobals, [], builtinsNs)
def DefA.dvs (K : Frag) (d : DefA) : List V := d.dfl.map (He.Dv.v K)
def DefA.kws (K : Frag) (d : DefA) : List (Str × V) := d.kwd.map fun q => (q.1, q.2.v K)
def DefA.ok (K : Frag) (d : DefA) : Bool := PySem.W.keepIn K (.ref (d.at_ K)) && (match K.lookup (d.at_ K) with
  | some ⟨_, _, .func fd, _⟩ => PySem.W.codeIn K fd.code d.qual && (He.dflB K fd.defaults (d.dvs K) && He.kwdB K fd.kwdefaults (d.kws K))
  | _ => false)
theorem DefA.funD {K : Frag} {d : DefA} (e : fnA K (d.at_ K) = d.val) (c : d.ok K = true) : ∃ fd, FunD K d.name d.qual d.params d.body d.scope (d.dvs K) (d.kws K) (d.at_ K) fd := by
  obtain ⟨kp, c2⟩ := He.ba c
  unfold fnA at e
  cases q : K.lookup (d.at_ K) with
  | none =>
    rw [q] at c2
    cases c2
  | some o =>
    obtain ⟨oc, od, dt, osl⟩ := o
    rw [q] at c2 e
    cases dt with
    | func fd =>
      obtain ⟨n1, n2, n3, n4, n5, n6, n7, n8, n9, n10, n11, n12, n13, n14, n15⟩ := fd
      have e2 : (some (n1, n2, n3, n4, n5, n6, n7, n15) : He.FnW) = some (d.name, d.qual, d.params, .stmts d.body, d.scope, mainGlobals, [], builtinsNs) := e
      simp only [Option.some.injEq, Prod.mk.injEq] at e2
      obtain ⟨h1, h2, h3, h4, h5, h6, h7, h8⟩ := e2
      subst h1 h2 h3 h4 h5 h6 h7 h8
      have c3 : (PySem.W.codeIn K n13 d.qual && (He.dflB K n8 (d.dvs K) && He.kwdB K n9 (d.kws K))) = true := c2
      obtain ⟨k1, k2⟩ := He.ba c3
      obtain ⟨k3, k4⟩ := He.ba k2
      exact ⟨_, ⟨oc, od, n8, n9, n10, n11, n12, n13, n14, osl, rfl, q, k1, He.dflB_ok k3, He.kwdB_ok k4⟩, kp⟩
    | _ => cases c2
def codeA (K : Frag) (f : Addr) : Addr := match K.lookup f with
  | some ⟨_, _, .func fd, _⟩ => (match fd.code with
    | .ref c => c
    | _ => 0)
  | _ => 0
def tabA (K : Frag) (f : Addr) : Addr := He.tabOf K (codeA K f)
def cTA (K : Frag) (f : Addr) : Addr × Addr := (codeA K f, tabA K f)
def tabsM (g : Addr → Option Obj) (tf : List (Frag → Addr)) (K : Frag) : Bool := tf.all fun p => PySem.W.codeHdIn K (cTA K (p K)).1 (cTA K (p K)).2 && (match g (cTA K (p K)).2 with
  | some o => He.emptyTab o
  | none => false)
abbrev AlM : Type := Bool × List He.FnW
def obsM (n : Nat) (fa : List He.Fa) (fn : List DefA) (tf : List (Frag → Addr)) (ex : List (Frag → Bool)) (g : Addr → Option Obj) : AlM :=
  ((fun K : Frag => ((fa.all fun f => f.ok K) && ((ex.all fun p => p K) && (fn.all fun d => d.ok K)) && tabsM g tf K, fn.map fun d => fnA K (d.at_ K))) (He.frT g (PySem.cStatics :: He.asD g n)))
def valM (fn : List DefA) : AlM := (true, fn.map DefA.val)
structure SaysM (fa : List He.Fa) (fn : List DefA) (tf : List (Frag → Addr)) (ex : List (Frag → Bool)) (h : Heap) (K : Frag) : Prop where
  fact : ∀ f ∈ fa, f.ok K = true
  more : ∀ p ∈ ex, p K = true
  defs : ∀ d ∈ fn, ∃ fd, FunD K d.name d.qual d.params d.body d.scope (d.dvs K) (d.kws K) (d.at_ K) fd
  hd : ∀ p ∈ tf, PySem.W.codeHdIn K (cTA K (p K)).1 (cTA K (p K)).2 = true
  out : ∀ p ∈ tf, K.lookup (cTA K (p K)).2 = none
  empty : ∀ p ∈ tf, h.get? (cTA K (p K)).2 = some { cls := .none, data := .fields #[] }
theorem saysM_of {n : Nat} {fa : List He.Fa} {fn : List DefA} {tf : List (Frag → Addr)} {ex : List (Frag → Bool)} {h : Heap} (e : obsM n fa fn tf ex h.get? = valM fn) : SaysM fa fn tf ex h (He.frT h.get? (PySem.cStatics :: He.asD h.get? n)) := by
  generalize hK : He.frT h.get? (PySem.cStatics :: He.asD h.get? n) = K
  have e1 : ((fa.all fun f => f.ok K) && ((ex.all fun p => p K) && (fn.all fun d => d.ok K)) && tabsM h.get? tf K) = true := by
    rw [← hK]
    exact congrArg (fun z : AlM => z.1) e
  have e2 : (fn.map fun d => fnA K (d.at_ K)) = fn.map DefA.val := by
    rw [← hK]
    exact congrArg (fun z : AlM => z.2) e
  obtain ⟨h0, h3⟩ := He.ba e1
  obtain ⟨h1, h2⟩ := He.ba h0
  obtain ⟨h4, h5⟩ := He.ba h2
  have key : ∀ p ∈ tf, PySem.W.codeHdIn K (cTA K (p K)).1 (cTA K (p K)).2 = true ∧ ∃ o, h.get? (cTA K (p K)).2 = some o ∧ He.emptyTab o = true := fun p hp => by
    obtain ⟨h6, h7⟩ := He.ba (List.all_eq_true.mp h3 p hp)
    refine ⟨h6, ?_⟩
    cases q : h.get? (cTA K (p K)).2 with
    | none =>
      rw [q] at h7
      cases h7
    | some o =>
      rw [q] at h7
      exact ⟨o, rfl, h7⟩
  refine ⟨fun f hf => List.all_eq_true.mp h1 f hf, fun p hp => List.all_eq_true.mp h4 p hp, fun d hd => ?_, fun p hp => (key p hp).1, fun p hp => ?_, fun p hp => ?_⟩
  · obtain ⟨i, hi, ed⟩ := List.mem_iff_getElem.mp hd
    have e3 : (fn.map fun d => fnA K (d.at_ K))[i]? = (fn.map DefA.val)[i]? := by rw [e2]
    rw [List.getElem?_map, List.getElem?_map, List.getElem?_eq_getElem hi, ed] at e3
    exact DefA.funD (Option.some.inj e3) (List.all_eq_true.mp h5 d hd)
  · obtain ⟨_, o, q, z⟩ := key p hp
    rw [← hK] at q ⊢
    exact He.frT_none q z
  · obtain ⟨_, o, q, z⟩ := key p hp
    rw [q, He.emptyTab_eq z]
def hookM (n : Nat) (fa : List He.Fa) (fn : List DefA) (tf : List (Frag → Addr)) (ex : List (Frag → Bool)) : PySem.W.Hook where
  α := AlM
  obs := fun s => obsM n fa fn tf ex s.heap.get?
  val := fun _ => valM fn
  says := fun _ h => ∃ K : Frag, K.In h ∧ SaysM fa fn tf ex h K
  of := fun _ _ e => ⟨_, He.frT_in, saysM_of e⟩
  keeps := fun _ _ _ ⟨K, hK, c⟩ k => ⟨K, PySem.W.Frag.In.keeps hK k, ⟨c.fact, c.more, c.defs, c.hd, c.out, fun p hp => k _ _ (c.empty p hp)⟩⟩
theorem obsM_eq {n : Nat} {fa : List He.Fa} {fn : List DefA} {tf : List (Frag → Addr)} {ex : List (Frag → Bool)} {g : Addr → Option Obj} {s : Shared} (h : ∀ a, g a = s.heap.get? a) : obsM n fa fn tf ex g = (hookM n fa fn tf ex).obs s := by
  have e : g = s.heap.get? := funext h
  rw [e] <;> rfl
def eqV (a : Option Value) (b : Value) : Bool := decide (a = some b)
theorem eqV_ok {a : Option Value} {b : Value} (h : eqV a b = true) : a = some b := of_decide_eq_true h
def eqB (a : Option Bool) (b : Bool) : Bool := decide (a = some b)
theorem eqB_ok {a : Option Bool} {b : Bool} (h : eqB a b = true) : a = some b := of_decide_eq_true h
def findB (K : Frag) (C : Addr) (m : Str) (r : Option Value) : Bool := He.eqO (PySem.W.findIn K (.ref C) m) (some r)
theorem findB_ok {K : Frag} {C : Addr} {m : Str} {r : Option Value} (h : findB K C m r = true) : PySem.W.findIn K (.ref C) m = some r := He.eqO_ok h
def clsB (K : Frag) (C : Addr) : Bool := PySem.W.plainGet K C Str.empty && (PySem.W.hasDictIn K C && (PySem.W.plainOver K C && findB K C "__setattr__" (some (.builtin "object.__setattr__"))))
theorem clsB_ok {K : Frag} {C : Addr} (c : clsB K C = true) : Cls K C := by
  obtain ⟨c1, c⟩ := He.ba c
  obtain ⟨c2, c⟩ := He.ba c
  obtain ⟨c3, c4⟩ := He.ba c
  exact ⟨c1, c2, c3, findB_ok c4⟩
def clB (K : Frag) (C : Addr) : Bool := findB K C "__class__" (some (.builtin "object.__class__")) && (He.eqO (PySem.W.specialIn K (.builtin "object.__class__") "__get__") (some (some (.builtin "getset_descriptor.__get__"))) && (eqB (PySem.W.takesIn K (.builtin "object.__class__")) true && eqB (PySem.W.mroIn K C (.type "object")) true))
def insB (K : Frag) (C : Addr) : Bool := clsB K C && clB K C
theorem insB_ok {K : Frag} {C : Addr} (c : insB K C = true) : InsF K C := by
  obtain ⟨c0, c⟩ := He.ba c
  obtain ⟨c1, c⟩ := He.ba c
  obtain ⟨c2, c⟩ := He.ba c
  obtain ⟨c3, c4⟩ := He.ba c
  exact ⟨clsB_ok c0, findB_ok c1, He.eqO_ok c2, eqB_ok c3, eqB_ok c4⟩
def xfB (K : Frag) (C : Addr) : Bool := findB K C "__getattribute__" (some (.builtin "BaseException.__getattribute__")) && (findB K C "__getattr__" none && (eqB (PySem.W.subIn K (.ref C) (.type "BaseException")) true && PySem.W.hasDictIn K C))
theorem xfB_ok {K : Frag} {C : Addr} (c : xfB K C = true) : XfC K C := by
  obtain ⟨c1, c⟩ := He.ba c
  obtain ⟨c2, c⟩ := He.ba c
  obtain ⟨c3, c4⟩ := He.ba c
  exact ⟨findB_ok c1, findB_ok c2, eqB_ok c3, c4⟩
def excB (K : Frag) (C : Addr) : Bool := xfB K C && clB K C
theorem excB_ok {K : Frag} {C : Addr} (c : excB K C = true) : ExcC K C := by
  obtain ⟨c0, c⟩ := He.ba c
  obtain ⟨c1, c⟩ := He.ba c
  obtain ⟨c2, c⟩ := He.ba c
  obtain ⟨c3, c4⟩ := He.ba c
  have x := xfB_ok c0
  exact ⟨x.ga, x.gg, x.exC, x.hdC, findB_ok c1, He.eqO_ok c2, eqB_ok c3, eqB_ok c4⟩
def oexO (K : Frag) (C : Addr) : Bool := match K.lookup C with
  | some ⟨.type t, _, .cls cd, sl⟩ => decide (t = "type") && (cd.hasDict && (!cd.hasDel && (match cd.mro, sl with
    | .ref C' :: bm, ⟨[k0, k1, k2, k3, some (.builtin n), k5]⟩ => decide (C' = C) && (decide (n = "ValueError.__new__") && PySem.HandSPX.refsVE bm)
    | _, _ => false)))
  | _ => false
theorem oexO_ok {K : Frag} {C : Addr} (c : oexO K C = true) : ∃ nm q N bs bm sn sub ab col dd k0 k1 k2 k3 k5, K.lookup C = some (excClassObj nm q C N bs bm true sn sub ab col dd k0 k1 k2 k3 k5 "ValueError.__new__") ∧ PySem.HandSPX.refsVE bm = true := by
  unfold oexO at c
  split at c
  · rename_i t od cd sl q
    obtain ⟨c1, c⟩ := He.ba c
    obtain ⟨c2, c⟩ := He.ba c
    obtain ⟨c3, c⟩ := He.ba c
    obtain ⟨nm, bs, mro, N, qn, hdct, sn, sub, ab, col, hdl⟩ := cd
    obtain rfl : t = "type" := of_decide_eq_true c1
    obtain rfl : hdct = true := c2
    obtain rfl : hdl = false := by
      have c3 : (!hdl) = true := c3
      cases hdl with
      | false => rfl
      | true => cases c3
    split at c
    · rename_i C' bm k0 k1 k2 k3 n k5 e _ _ _
      obtain ⟨_, c⟩ := He.ba c
      obtain ⟨_, c⟩ := He.ba c
      obtain ⟨_, c⟩ := He.ba c
      obtain ⟨c4, c⟩ := He.ba c
      obtain ⟨c5, c6⟩ := He.ba c
      obtain rfl : C' = C := of_decide_eq_true c4
      obtain rfl : n = "ValueError.__new__" := of_decide_eq_true c5
      have e : mro = .ref C' :: bm := e
      subst e
      exact ⟨nm, qn, N, bs, bm, sn, sub, ab, col, od, k0, k1, k2, k3, k5, q, c6⟩
    · cases c
  · cases c
def oexB (K : Frag) (C : Addr) : Bool := oexO K C && (findB K C "__setattr__" (some (.builtin "object.__setattr__")) && (eqB (PySem.W.subIn K (.ref C) (.type "BaseException")) true && (eqV (PySem.W.typeIn K (.ref C)) (.type "type") && PySem.W.keepIn K (.ref C))))
theorem oexB_ok {K : Frag} {C : Addr} (c : oexB K C = true) : OexC K C := by
  obtain ⟨c0, c⟩ := He.ba c
  obtain ⟨c1, c⟩ := He.ba c
  obtain ⟨c2, c⟩ := He.ba c
  obtain ⟨c3, c4⟩ := He.ba c
  exact ⟨oexO_ok c0, findB_ok c1, eqB_ok c2, eqV_ok c3, c4⟩
def mkB (K : Frag) (C f : Addr) : Bool := PySem.W.makesIn K C && (findB K C "__init__" (some (.ref f)) && (PySem.W.isFn K (.ref f) && PySem.W.keepIn K (.ref C)))
theorem mkB_ok {K : Frag} {C f : Addr} (c : mkB K C f = true) : Mk K C f := by
  obtain ⟨c1, c⟩ := He.ba c
  obtain ⟨c2, c⟩ := He.ba c
  obtain ⟨c3, c4⟩ := He.ba c
  exact ⟨c1, findB_ok c2, c3, c4⟩
def ownB (K : Frag) (C : Addr) (m : Str) (f : Addr) : Bool := findB K C m (some (.ref f)) && PySem.W.isFn K (.ref f)
theorem ownB_ok {K : Frag} {C : Addr} {m : Str} {f : Addr} (c : ownB K C m f = true) : PySem.W.findIn K (.ref C) m = some (some (.ref f)) ∧ PySem.W.isFn K (.ref f) = true := by
  obtain ⟨c1, c2⟩ := He.ba c
  exact ⟨findB_ok c1, c2⟩
def cmP (K : Frag) (C : Addr) (m : Str) : Addr := match PySem.W.findCls K (.ref C) (.type "type") m with
  | some (.get _ (.ref p) _ _) => p
  | _ => 0
def cmG (K : Frag) (p : Addr) : Addr := match PySem.W.recIn K p "classmethod" with
  | some (.ref g :: _) => g
  | _ => 0
def creadB (K : Frag) (C : Addr) : Bool := PySem.W.readsIn K C (.type "type") && He.eqO (PySem.W.specialIn K (.ref C) "__getattribute__") (some (some (.builtin "type.__getattribute__")))
theorem creadB_ok {K : Frag} {C : Addr} (c : creadB K C = true) : ClX.CRead K C (.type "type") := by
  obtain ⟨c1, c2⟩ := He.ba c
  exact ⟨c1, He.eqO_ok c2⟩
def cmB (K : Frag) (C : Addr) (m : Str) (p g : Addr) : Bool := (match PySem.W.findCls K (.ref C) (.type "type") m with
  | some (.get (.builtin b) (.ref p') .none (.ref C')) => decide (b = "classmethod.__get__") && (decide (p' = p) && decide (C' = C))
  | _ => false) && ((match PySem.W.recIn K p "classmethod" with
  | some (.ref g' :: _) => decide (g' = g)
  | _ => false) && PySem.W.fnIn K g)
theorem cmB_ok {K : Frag} {C : Addr} {m : Str} {p g : Addr} (c : cmB K C m p g = true) : ClX.CMet K C (.type "type") m p g := by
  unfold cmB at c
  obtain ⟨c1, c⟩ := He.ba c
  obtain ⟨c2, c3⟩ := He.ba c
  refine ⟨?_, ?_, c3⟩
  · split at c1
    · rename_i b p' C' q
      obtain ⟨d1, d⟩ := He.ba c1
      obtain ⟨d2, d3⟩ := He.ba d
      rw [q, of_decide_eq_true d1, of_decide_eq_true d2, of_decide_eq_true d3]
    · cases c1
  · split at c2
    · rename_i g' r q
      exact ⟨r, by rw [q, of_decide_eq_true c2]⟩
    · cases c2
def Tg.beq : Tg → Tg → Bool
  | .ty a, .ty b => decide (a = b)
  | .cl a, .cl b => decide (a = b)
  | _, _ => false
def kitB (K : Frag) (TI TX : List Addr) (Bs : List String) (Cs : List Tg) (f : Tg → Tg → Bool) : Bool := (TI.all fun C => insB K C) && ((TX.all fun C => excB K C) && ((Bs.all fun n => Cs.all fun c => eqB (PySem.W.kitOne K (.type n) c.v) (f (.ty n) c)) && (TI ++ TX).all fun C => Cs.all fun c => eqB (PySem.W.kitOne K (.ref C) c.v) (f (.cl C) c)))
def kitT {K : Frag} {TI TX : List Addr} {Bs : List String} {Cs : List Tg} {f : Tg → Tg → Bool} (c : kitB K TI TX Bs Cs f = true) : IsT K where
  TI := TI
  TX := TX
  Bs := Bs
  Cs := Cs
  f := f
  hI := fun C h => insB_ok (List.all_eq_true.mp (He.ba c).1 C h)
  hX := fun C h => excB_ok (List.all_eq_true.mp (He.ba (He.ba c).2).1 C h)
  hB := fun n hn d hd => eqB_ok (List.all_eq_true.mp (List.all_eq_true.mp (He.ba (He.ba (He.ba c).2).2).1 n hn) d hd)
  hC := fun C hC d hd => eqB_ok (List.all_eq_true.mp (List.all_eq_true.mp (He.ba (He.ba (He.ba c).2).2).2 C hC) d hd)
def fdB (K : Frag) (TI TX : List Addr) (f : Str) : Bool := (TI.all fun C => clsB K C && findB K C f none) && (TX.all fun C => xfB K C && findB K C f none)
theorem fdB_ok {K : Frag} {TI TX : List Addr} {f : Str} (c : fdB K TI TX f = true) : FdT K TI TX f := by
  obtain ⟨c1, c2⟩ := He.ba c
  refine ⟨fun C h => ?_, fun C h => ?_⟩
  · obtain ⟨d1, d2⟩ := He.ba (List.all_eq_true.mp c1 C h)
    exact ⟨clsB_ok d1, findB_ok d2⟩
  · obtain ⟨d1, d2⟩ := He.ba (List.all_eq_true.mp c2 C h)
    exact ⟨xfB_ok d1, findB_ok d2⟩
theorem fdB_fld {K : Frag} {TI : List Addr} {f : Str} (c : fdB K TI [] f = true) : FldT K TI f := fun C h => (fdB_ok c).hI C h
def catB (K : Frag) (on : List Addr) (c : Value) (f : Addr → Bool) : Bool := on.all fun C => eqB (PySem.W.exmOne K (.ref C) c) (f C)
def catT {K : Frag} {on : List Addr} {c : Value} {f : Addr → Bool} (h : catB K on c f = true) : Cat K c := ⟨on, f, fun C hC => eqB_ok (List.all_eq_true.mp h C hC)⟩
def neA (a b : Addr) : Bool := decide (a ≠ b)
theorem neA_ok {a b : Addr} (h : neA a b = true) : a ≠ b := of_decide_eq_true h
section
variable {P : Program} {w : World} {K : Frag} {mg : Str → Option Value} {base : Heap} {k : Nat} {f : Addr} {fd : FuncData} {x qual : Str} {params : Arguments} {body : List Stmt} {scope : Scope} {dvs : List V} {kws : List (Str × V)} {N ps : List Str}
theorem codeA_eq {oc : Value} {od : Option Addr} {osl : Array (Option Value)} {fd : FuncData} {q : Str} (lk : K.lookup f = some ⟨oc, od, .func fd, osl⟩) (h : PySem.W.codeIn K fd.code q = true) : fd.code = .ref (codeA K f) := by
  obtain ⟨c, e⟩ := He.codeIn_ref h
  unfold codeA
  rw [lk]
  show fd.code = .ref (match fd.code with | .ref c => c | _ => 0)
  rw [e]
theorem fnG_D [L : Link K] {m : MS} (F : FunD K x qual params body scope dvs kws f fd) (Sc : FnScope N ps scope)
    (hbody : ∀ (A : Around) (outer : List PySem.Env) (s : Shared) (H : Hp) (E : XK) (L' : Link (cxOf (L2.CX P w) P w K mg base N qual scope f (.ref (codeA K f)) A outer s H E).K), L'.tabs = L.tabs → RoomG k (cxOf (L2.CX P w) P w K mg base N qual scope f (.ref (codeA K f)) A outer s H E).A →
      Takes (cxOf (L2.CX P w) P w K mg base N qual scope f (.ref (codeA K f)) A outer s H E) (fun cls d _ H' => E cls d H') → PSs (cxOf (L2.CX P w) P w K mg base N qual scope f (.ref (codeA K f)) A outer s H E) body (@tS (cxOf (L2.CX P w) P w K mg base N qual scope f (.ref (codeA K f)) A outer s H E).K L' (fun cls d _ H' => E cls d H') m)) :
    FnG P w K mg base (k + 1) f fd ps (mDef N.length m) := by
  obtain ⟨oc, od, dV, kV, doc, pm, an, cdv, ct, osl, rfl, lk, hcd, _, _⟩ := F.ex
  obtain rfl : cdv = .ref (codeA K f) := codeA_eq lk hcd
  exact fnG_of lk hcd Sc fun A outer s H E hr => hbody A outer s H E L rfl hr (takes_of rfl rfl rfl rfl)
theorem fnP_D [L : Link K] {m : MS} (F : FunD K x qual params body scope [] kws f fd) (Sc : FnScope N ps scope)
    (hbind : ∀ (kV doc pm : Value) (an : Option Addr) (cdv ct : Value) (us : List Value), us.length = ps.length → bindArgs (PySem.W.fnOf x qual params body scope .none kV doc pm an cdv ct) ⟨us, []⟩ = pure (ps.zip us))
    (hbody : ∀ (A : Around) (outer : List PySem.Env) (s : Shared) (H : Hp) (E : XK) (L' : Link (cxOf (L2.CX P w) P w K mg base N qual scope f (.ref (codeA K f)) A outer s H E).K), L'.tabs = L.tabs → RoomG k (cxOf (L2.CX P w) P w K mg base N qual scope f (.ref (codeA K f)) A outer s H E).A →
      Takes (cxOf (L2.CX P w) P w K mg base N qual scope f (.ref (codeA K f)) A outer s H E) (fun cls d _ H' => E cls d H') → PSs (cxOf (L2.CX P w) P w K mg base N qual scope f (.ref (codeA K f)) A outer s H E) body (@tS (cxOf (L2.CX P w) P w K mg base N qual scope f (.ref (codeA K f)) A outer s H E).K L' (fun cls d _ H' => E cls d H') m)) :
    FnP P w K mg base (k + 1) f (mFill ps.length [] (mDef N.length m)) :=
  FnG.pos (fnG_D F Sc hbody) (F.bindsN hbind) .nil (fun _ _ => .nil) rfl
theorem kb_D (F : FunD K x qual params body scope [] kws f fd) {n : Nat} {ks : List Str} {p : List Nat} (h1 : p.length = ps.length) (h2 : ∀ i ∈ p, i < n + ks.length)
    (h : ∀ (kV doc pm : Value) (an : Option Addr) (cdv ct : Value) (us ws : List Value), us.length = n → ws.length = ks.length → bindArgs (PySem.W.fnOf x qual params body scope .none kV doc pm an cdv ct) ⟨us, ks.zip ws⟩ = pure (ps.zip (permL p (us ++ ws)))) : KB K fd ps n ks p := by
  obtain ⟨oc, od, dV, kV, doc, pm, an, cdv, ct, osl, rfl, lk, hcd, hD, hK⟩ := F.ex
  refine ⟨h1, h2, fun s us ws _ l1 l2 => ?_⟩
  rcases hD with ⟨_, rfl⟩ | ⟨e, _⟩
  · exact .of_eq (h kV doc pm an cdv ct us ws l1 l2)
  · exact absurd rfl e
theorem fnP_starD [L : Link K] {m : MS} {pv : Str} (F : FunD K x qual params body scope [] kws f fd) (Sc : FnScope N (ps ++ [pv]) scope)
    (hb : ∀ (kV doc pm : Value) (an : Option Addr) (cdv ct : Value) (us rest : List Value), us.length = ps.length → bindArgs (PySem.W.fnOf x qual params body scope .none kV doc pm an cdv ct) ⟨us ++ rest, []⟩ = (newTuple rest >>= fun t => pure (ps.zip us ++ [(pv, t)])))
    (hbody : ∀ (A : Around) (outer : List PySem.Env) (s : Shared) (H : Hp) (E : XK) (L' : Link (cxOf (L2.CX P w) P w K mg base N qual scope f (.ref (codeA K f)) A outer s H E).K), L'.tabs = L.tabs → RoomG k (cxOf (L2.CX P w) P w K mg base N qual scope f (.ref (codeA K f)) A outer s H E).A →
      Takes (cxOf (L2.CX P w) P w K mg base N qual scope f (.ref (codeA K f)) A outer s H E) (fun cls d _ H' => E cls d H') → PSs (cxOf (L2.CX P w) P w K mg base N qual scope f (.ref (codeA K f)) A outer s H E) body (@tS (cxOf (L2.CX P w) P w K mg base N qual scope f (.ref (codeA K f)) A outer s H E).K L' (fun cls d _ H' => E cls d H') m)) :
    FnP P w K mg base (k + 1) f (mStar ps.length (mDef N.length m)) := by
  obtain ⟨oc, od, dV, kV, doc, pm, an, cdv, ct, osl, rfl, lk, hcd, hD, _⟩ := F.ex
  obtain rfl : cdv = .ref (codeA K f) := codeA_eq lk hcd
  rcases hD with ⟨_, rfl⟩ | ⟨e, _⟩
  · exact fnP_star lk hcd Sc (hb kV doc pm an _ ct) fun A outer s H E hr => hbody A outer s H E L rfl hr (takes_of rfl rfl rfl rfl)
  · exact absurd rfl e
theorem fnL_D [L : Link K] {a : Str} {m : Addr → (S → R W) → MS} (F : FunD K x qual params body scope [] kws f fd) (Sc : FnScope N [a] scope)
    (hbind : ∀ (kV doc pm : Value) (an : Option Addr) (cdv ct : Value) (us : List Value), us.length = 1 → bindArgs (PySem.W.fnOf x qual params body scope .none kV doc pm an cdv ct) ⟨us, []⟩ = pure ([a].zip us))
    (hbody : ∀ (A : Around) (outer : List PySem.Env) (s : Shared) (H : Hp) (E : XK) (g : Addr) (mc : S → R W) (L' : Link (cxOf (L2.CX P w) P w K mg base N qual scope f (.ref (codeA K f)) A outer s H E).K), L'.tabs = L.tabs → RoomG k (cxOf (L2.CX P w) P w K mg base N qual scope f (.ref (codeA K f)) A outer s H E).A →
      Takes (cxOf (L2.CX P w) P w K mg base N qual scope f (.ref (codeA K f)) A outer s H E) (fun cls d _ H' => E cls d H') →
      (∀ (W : WX) (pn : List (Addr × Obj)) (xe : Value → Shared → Prop) (p1 p2 : Pos), Takes ((cxOf (L2.CX P w) P w K mg base N qual scope f (.ref (codeA K f)) A outer s H E).tr pn xe) W → PE ((cxOf (L2.CX P w) P w K mg base N qual scope f (.ref (codeA K f)) A outer s H E).tr pn xe) (.Call (.Name a p1) [] [] p2) (@tE (cxOf (L2.CX P w) P w K mg base N qual scope f (.ref (codeA K f)) A outer s H E).K L' W (mAct 0 g mc))) →
      PSs (cxOf (L2.CX P w) P w K mg base N qual scope f (.ref (codeA K f)) A outer s H E) body (@tS (cxOf (L2.CX P w) P w K mg base N qual scope f (.ref (codeA K f)) A outer s H E).K L' (fun cls d _ H' => E cls d H') (m g mc))) :
    FnL P w K mg base (k + 1) f N qual scope (.ref (codeA K f)) a (fun g mc => mDef N.length (m g mc) [.glo g]) := by
  obtain ⟨oc, od, dV, kV, doc, pm, an, cdv, ct, osl, rfl, lk, hcd, hD, _⟩ := F.ex
  obtain rfl : cdv = .ref (codeA K f) := codeA_eq lk hcd
  rcases hD with ⟨_, rfl⟩ | ⟨e, _⟩
  · exact fnL_of lk hcd Sc (fun s u => .of_eq (hbind kV doc pm an _ ct [u] rfl)) fun A outer s H E g mc hr act => hbody A outer s H E g mc L rfl hr (takes_of rfl rfl rfl rfl) act
  · exact absurd rfl e
end
section
variable {X : Cx} [Link X.K] {Wx : WX} {pos : Pos} {x : Str}
theorem se_gint {i : Int} (hg : Gl X x) (hm : ∃ t, X.mg x = some (.int i t)) (hd : (x == ("__debug__" : Str)) = false := by decide) : PE X (.Name x pos) (tE X.K Wx (mC (.int i))) := by
  obtain ⟨t, h⟩ := hm
  exact se_glob hg h (v := .int i) ⟨_, rfl⟩ (fun _ _ => .int i) hd
theorem se_gstr {z : Str} (hg : Gl X x) (hm : ∃ t, X.mg x = some (.str z t)) (hd : (x == ("__debug__" : Str)) = false := by decide) : PE X (.Name x pos) (tE X.K Wx (mC (.str z))) := by
  obtain ⟨t, h⟩ := hm
  exact se_glob hg h (v := .str z) ⟨_, rfl⟩ (fun _ _ => .str z) hd
theorem se_gref {a : Addr} (hg : Gl X x) (hm : X.mg x = some (.ref a)) (hd : (x == ("__debug__" : Str)) = false := by decide) : PE X (.Name x pos) (tE X.K Wx (mC (.glo a))) :=
  se_glob hg hm (v := .ref a) rfl (fun _ _ => .glo a) hd
theorem se_bty {n : String} (hg : Gl X x) (hm : X.mg x = none) (hv : bootBuiltins x = some (.type n)) (hn : x ≠ "__name__" := by decide) (hd : (x == ("__debug__" : Str)) = false := by decide) : PE X (.Name x pos) (tE X.K Wx (mC (.ty n))) :=
  se_bltn hg hm hv (v := .ty n) rfl (fun _ _ => .ty n) hn hd
end
theorem slW {X : Cx} : SlR X (rSlW X.K) := fun pins s σ H x v vl vu lo hi sl Q I rx hs pl pu ⟨a, xs, e, hx, hc, hq⟩ => sl_tupA pins s σ H x v vl vu lo hi sl Q I rx hs pl pu ⟨a, xs, e, hx, fun _ => hq, fun n => absurd hc n⟩
theorem RoomG.hu {k : Nat} {A : Around} (r : RoomG k A) : A.units + 64 < cLine := by
  have := r.room.un
  omega
theorem RoomG.hu1 {k : Nat} {A : Around} (r : RoomG k A) : A.units + 65 < cLine := by
  have := r.room.un
  omega
end MM

namespace MM
open PySem PySem.Spec PyProof.Rows L2
def mt1 (C0 : Addr) (g0 : List W → S → R W) : MT := fun C => if C = C0 then some g0 else none
theorem mt1_at {C0 : Addr} {g0 : List W → S → R W} : mt1 C0 g0 C0 = some g0 := if_pos rfl
theorem mt1_some {C0 C : Addr} {g0 g : List W → S → R W} (h : mt1 C0 g0 C = some g) : C = C0 ∧ g = g0 := by
  unfold mt1 at h
  by_cases e : C = C0
  · rw [if_pos e] at h
    exact ⟨e, (Option.some.inj h).symm⟩
  · rw [if_neg e] at h
    cases h
def binB (K : Frag) (op : Operator) (C : Addr) (Bs : List String) : Bool := PySem.W.selfFirst K C && ((match PySem.W.findIn K (.ref C) (dunderR op.info.2) with
  | some none => true
  | some (some (.ref _)) => true
  | _ => false) && Bs.all fun n => (PySem.W.findIn K (.type n) (PySem.dunder op.info.2)).isSome && (PySem.W.findIn K (.type n) (dunderR op.info.2)).isSome)
theorem binB_ok {K : Frag} {op : Operator} {C : Addr} {Bs : List String} (c : binB K op C Bs = true) : BinF K op C Bs := by
  obtain ⟨c1, c⟩ := He.ba c
  obtain ⟨c2, c3⟩ := He.ba c
  refine ⟨c1, ?_, fun n hn => ?_⟩
  · split at c2
    · rename_i q
      exact ⟨_, q, .inl rfl⟩
    · rename_i g q
      exact ⟨_, q, .inr ⟨g, rfl⟩⟩
    · cases c2
  · obtain ⟨d1, d2⟩ := He.ba (List.all_eq_true.mp c3 n hn)
    obtain ⟨fo, e1⟩ := Option.isSome_iff_exists.mp d1
    obtain ⟨ro, e2⟩ := Option.isSome_iff_exists.mp d2
    exact ⟨fo, ro, e1, e2⟩
section
variable {X : Cx} [Link X.K] {Wx : WX} {k : Nat} {C0 f : Addr} {nm : Str} {g0 : List W → S → R W}
theorem ownOk_one (h : ownB X.K C0 nm f = true) (F : FnP X.prog X.w X.K X.mg X.base k f g0) : OwnOk X k nm (mt1 C0 g0) := fun C g e => by
  obtain ⟨rfl, rfl⟩ := mt1_some e
  exact ⟨f, (ownB_ok h).1, (ownB_ok h).2, F⟩
theorem vs_one {g1 : List W → S → R W} (h : PySem.W.keepIn X.K (.ref C0) = true) (L : LfN X Wx (.ref C0) g1) : ∀ f g, mt1 C0 g1 f = some g → PySem.W.keepIn X.K (.ref f) = true ∧ LfN X Wx (.ref f) g := fun f g e => by
  obtain ⟨rfl, rfl⟩ := mt1_some e
  exact ⟨h, L⟩
theorem ne_one (h : (findB X.K C0 "__ne__" (some (.builtin "object.__ne__")) && eqB (PySem.W.mroIn X.K C0 (.type "object")) true) = true) : ∀ C g, mt1 C0 g0 C = some g → PySem.W.findIn X.K (.ref C) "__ne__" = some (some (.builtin "object.__ne__")) ∧ PySem.W.mroIn X.K C (.type "object") = some true := fun C g e => by
  obtain ⟨rfl, rfl⟩ := mt1_some e
  exact ⟨findB_ok (He.ba h).1, eqB_ok (He.ba h).2⟩
theorem bin_one {op : Operator} {Bs : List String} (h : binB X.K op C0 Bs = true) : ∀ C g, mt1 C0 g0 C = some g → BinF X.K op C Bs := fun C g e => by
  obtain ⟨rfl, rfl⟩ := mt1_some e
  exact binB_ok h
theorem mtok_one {m : Str} (hc : clsB X.K C0 = true) (ho : ownB X.K C0 m f = true) (hk : PySem.W.keepIn X.K (.ref f) = true) (L : LfN X Wx (.ref f) g0) : MTok X Wx m (mt1 C0 g0) := fun C g e => by
  obtain ⟨rfl, rfl⟩ := mt1_some e
  exact ⟨clsB_ok hc, f, ⟨(ownB_ok ho).1, (ownB_ok ho).2, hk⟩, L⟩
theorem tk0 : Takes X W0 := LamX.takes0
end
structure En (fa : List He.Fa) (fn : List DefA) (tf : List (Frag → Addr)) (ex : List (Frag → Bool)) (K : Frag) (mg : Str → Option Value) (base : Heap) : Prop where
  X : K.In base
  G : base.Ns mainGlobals mg
  T : ∀ p ∈ tf, LamX.TabB base mg (codeA K (p K)) (tabA K (p K))
  c : ∃ h, SaysM fa fn tf ex h K
section
variable {fa : List He.Fa} {fn : List DefA} {tf : List (Frag → Addr)} {ex : List (Frag → Bool)} {K : Frag} {mg : Str → Option Value} {base : Heap}
theorem En.fact (e : En fa fn tf ex K mg base) (i : Nat) {f : He.Fa} (h : fa[i]? = some f := by rfl) : f.ok K = true := by
  obtain ⟨_, c⟩ := e.c
  exact c.fact f (List.mem_of_getElem? h)
theorem En.xb (e : En fa fn tf ex K mg base) (i : Nat) {p : Frag → Bool} (h : ex[i]? = some p := by rfl) : p K = true := by
  obtain ⟨_, c⟩ := e.c
  exact c.more p (List.mem_of_getElem? h)
theorem En.fd (e : En fa fn tf ex K mg base) (i : Nat) {d : DefA} (h : fn[i]? = some d := by rfl) : ∃ fd, FunD K d.name d.qual d.params d.body d.scope (d.dvs K) (d.kws K) (d.at_ K) fd := by
  obtain ⟨_, c⟩ := e.c
  exact c.defs d (List.mem_of_getElem? h)
theorem En.glo (e : En fa fn tf ex K mg base) (i : Nat) {x : Str} (h : fa[i]? = some (.glo x) := by rfl) : mg x = some (.ref (He.ga K x)) := He.glo_ok e.X e.G (e.fact i h)
theorem En.free (e : En fa fn tf ex K mg base) (i : Nat) {x : Str} (h : fa[i]? = some (.free x) := by rfl) : mg x = none := He.free_ok e.X e.G (e.fact i h)
theorem En.int (e : En fa fn tf ex K mg base) (i : Nat) {x : Str} {z : Int} (h : fa[i]? = some (.int x z) := by rfl) : ∃ t, mg x = some (.int z t) := He.int_ok e.X e.G (e.fact i h)
theorem En.str (e : En fa fn tf ex K mg base) (i : Nat) {x z : Str} (h : fa[i]? = some (.str x z) := by rfl) : ∃ t, mg x = some (.str z t) := He.str_ok e.X e.G (e.fact i h)
theorem En.keep (e : En fa fn tf ex K mg base) (i : Nat) {x : Str} (h : fa[i]? = some (.keep x) := by rfl) : PySem.W.keepIn K (.ref (He.ga K x)) = true := He.keep_ok (e.fact i h)
end
def newDic : ME := fun _ st => .ok (.ref st.sz) (st.add (.dic []))
theorem se_dnew {X : Cx} [Link X.K] {Wx : WX} {pos : Pos} : PE X (.Dict [] [] pos) (tE X.K Wx newDic) := by
  refine pe_dnewK.imp fun σ H Q ⟨ad, env, st, sim, q⟩ a ha => ?_
  have e2 : Ext X.K ad H (ad ++ [a]) (upd H a (.dK [])) := ext_new (up_keep ha)
  have ro : RO X.K (ad ++ [a]) (upd H a (.dK [])) (.dic []) a := ⟨[], upd_same, .nil⟩
  refine q _ _ _ e2 (sim.ext (sim.st.new ha (up_keep ha) ro e2) e2) (.ref ?_)
  rw [← sim.st.len, List.getElem?_append_right (Nat.le_refl _), Nat.sub_self]
  rfl
theorem lamS_by {sc scope : Scope} (h : ((match scope.kind with | .function => true | _ => false) && !scope.isCoroutine && !scope.isGenerator && (scope.names.all fun y => match y.2 with
    | .local => false
    | .cell => false
    | .free => (match sc.names.lookup y.1 with | some .cell => true | some .free => true | _ => false)
    | _ => true)) = true) : LamX.LamS sc scope := by
  simp only [Bool.and_eq_true, List.all_eq_true] at h
  obtain ⟨⟨⟨h1, h2⟩, h3⟩, h4⟩ := h
  refine ⟨?_, by simpa using h2, by simpa using h3, fun y hy => ?_, fun y hy e => ?_⟩
  · split at h1
    · assumption
    · cases h1
  · have := h4 y hy
    constructor <;> intro e <;> rw [e] at this <;> cases this
  · have := h4 y hy
    rw [e] at this
    have z : (match sc.names.lookup y.1 with | some .cell => true | some .free => true | _ => false) = true := this
    split at z
    · exact .inl (by assumption)
    · exact .inr (by assumption)
    · cases z
theorem withL {X : Cx} (L : Link X.K) {T : List (Addr × Str)} (hT : L.tabs = T) {e : Expr} {Wx : WX} {m : ME} (h : ∀ L' : Link X.K, L'.tabs = T → PE X e (@tE X.K L' Wx m)) : PE X e (@tE X.K L Wx m) := h L hT
end MM

namespace MM
open PySem PySem.Spec PyProof.Rows L2
section
variable {X : Cx} [Link X.K] {Wx : WX} {pos : Pos} {a b c o e : Expr} {ma mb mc mo me : ME} {es : List Expr} {n : MA} {p sp_ : Pos} {x : Str} {g : List W → S → R W}
theorem se_callSSf {f : Addr} {q : Bool × Sem Value} {rest : List (Bool × Sem Value)} (L : LfN X Wx (.ref f) g) (hg : Gl X x) (hm : X.mg x = some (.ref f)) (hk : PySem.W.keepIn X.K (.ref f) = true) (ha : PA X (.Starred e sp_ :: es) (tL X.K Wx n))
    (hdb : (x == ("__debug__" : Str)) = false := by decide) (he : starEach (.Starred e sp_ :: es) X.env = (true, eval e X.env) :: q :: rest := by rfl) : PE X (.Call (.Name x p) (.Starred e sp_ :: es) [] pos) (tE X.K Wx (mN g n)) := se_callSS L hg hm hk ha hdb he
variable {elt tg iter c : Expr} {scope : Scope} {own : List (Str × Nat)} {mi : MI} {gg : MG} {mt : MB}
theorem se_lc0 (own : List (Str × Nat)) (hc : X.calm = true) (hN : X.N.Nodup) (hi : PI X tg iter (tI X.K Wx mi)) (ok : BlkOk X.N X.env.scope scope own)
    (hg : ∀ (s : Shared) (H : Hp) (C : Addr) (cl : List (Str × Addr)) (fp : List Addr), PG (X.blk s H scope (compEnvC scope cl C X.env) fp) tg (tGv X.K (own.map (·.2)) gg))
    (he : ∀ (s : Shared) (H : Hp) (C : Addr) (cl : List (Str × Addr)) (fp : List Addr), PE (X.blk s H scope (compEnvC scope cl C X.env) fp) elt (tE X.K W0 me)) (hs : ∀ x, foldedSetIterable iter X.env x = pure x := by intro _; rfl) :
    PE X (.ListComp elt [⟨tg, iter, [], 0⟩] scope pos) (tE X.K Wx (mLc mi gg mYes me (own.map (·.2)))) := se_lc hc hN hi ok hg (fun _ _ _ _ _ => pts_nil) yes_ok he hs
theorem se_lc1 (own : List (Str × Nat)) (hc : X.calm = true) (hN : X.N.Nodup) (hi : PI X tg iter (tI X.K Wx mi)) (ok : BlkOk X.N X.env.scope scope own)
    (hg : ∀ (s : Shared) (H : Hp) (C : Addr) (cl : List (Str × Addr)) (fp : List Addr), PG (X.blk s H scope (compEnvC scope cl C X.env) fp) tg (tGv X.K (own.map (·.2)) gg))
    (ht : ∀ (s : Shared) (H : Hp) (C : Addr) (cl : List (Str × Addr)) (fp : List Addr), PT (X.blk s H scope (compEnvC scope cl C X.env) fp) c (tB X.K W0 mt))
    (he : ∀ (s : Shared) (H : Hp) (C : Addr) (cl : List (Str × Addr)) (fp : List Addr), PE (X.blk s H scope (compEnvC scope cl C X.env) fp) elt (tE X.K W0 me)) (hs : ∀ x, foldedSetIterable iter X.env x = pure x := by intro _; rfl) :
    PE X (.ListComp elt [⟨tg, iter, [c], 0⟩] scope pos) (tE X.K Wx (mLc mi gg mt me (own.map (·.2)))) := se_lc hc hN hi ok hg (fun s H C cl fp => pts_one (ht s H C cl fp)) same_ok he hs
variable {i : Nat} {y : Str} {py spos : Pos}
theorem sp_setLc0 (own : List (Str × Nat)) (hc : X.calm = true) (hN : X.N.Nodup) (hy : X.N[i]? = some y) (hyl : X.env.scope.names.lookup y = some .local)
    (hsw : swapsWith (.ListComp elt [⟨tg, iter, [], 0⟩] scope pos) (some (.Name y py)) spos.line X.env = pure true) (hi : PI X tg iter (tI X.K Wx mi)) (ok : BlkOk X.N X.env.scope scope own)
    (hg : ∀ (s : Shared) (H : Hp) (C : Addr) (cl : List (Str × Addr)) (fp : List Addr), PG (X.blk s H scope (compEnvC scope cl C X.env) fp) tg (tGv X.K (own.map (·.2)) gg))
    (he : ∀ (s : Shared) (H : Hp) (C : Addr) (cl : List (Str × Addr)) (fp : List Addr), PE (X.blk s H scope (compEnvC scope cl C X.env) fp) elt (tE X.K W0 me)) (hs : ∀ x, foldedSetIterable iter X.env x = pure x := by intro _; rfl) :
    PS X (.Assign [.Name y py] (.ListComp elt [⟨tg, iter, [], 0⟩] scope pos) spos) (tS X.K Wx (mAsg (mLc mi gg mYes me (own.map (·.2))) (gN i))) := sp_setLc hc hN hy hyl hsw hi ok hg (fun _ _ _ _ _ => pts_nil) yes_ok he hs
theorem sp_setLc1 (own : List (Str × Nat)) (hc : X.calm = true) (hN : X.N.Nodup) (hy : X.N[i]? = some y) (hyl : X.env.scope.names.lookup y = some .local)
    (hsw : swapsWith (.ListComp elt [⟨tg, iter, [c], 0⟩] scope pos) (some (.Name y py)) spos.line X.env = pure true) (hi : PI X tg iter (tI X.K Wx mi)) (ok : BlkOk X.N X.env.scope scope own)
    (hg : ∀ (s : Shared) (H : Hp) (C : Addr) (cl : List (Str × Addr)) (fp : List Addr), PG (X.blk s H scope (compEnvC scope cl C X.env) fp) tg (tGv X.K (own.map (·.2)) gg))
    (ht : ∀ (s : Shared) (H : Hp) (C : Addr) (cl : List (Str × Addr)) (fp : List Addr), PT (X.blk s H scope (compEnvC scope cl C X.env) fp) c (tB X.K W0 mt))
    (he : ∀ (s : Shared) (H : Hp) (C : Addr) (cl : List (Str × Addr)) (fp : List Addr), PE (X.blk s H scope (compEnvC scope cl C X.env) fp) elt (tE X.K W0 me)) (hs : ∀ x, foldedSetIterable iter X.env x = pure x := by intro _; rfl) :
    PS X (.Assign [.Name y py] (.ListComp elt [⟨tg, iter, [c], 0⟩] scope pos) spos) (tS X.K Wx (mAsg (mLc mi gg mt me (own.map (·.2))) (gN i))) := sp_setLc hc hN hy hyl hsw hi ok hg (fun s H C cl fp => pts_one (ht s H C cl fp)) same_ok he hs
end
theorem withLi {X : Cx} {L : Link X.K} {T : List (Addr × Str)} {e : Expr} {Wx : WX} {m : ME} (hT : L.tabs = T) (h : ∀ L' : Link X.K, L'.tabs = T → PE X e (@tE X.K L' Wx m)) : PE X e (@tE X.K L Wx m) := h L hT
end MM

namespace MM
open PySem PySem.Spec PyProof.Rows L2
def LeX (X : List Nat) (s t : S) : Prop := s.sz ≤ t.sz ∧ ∀ n, n < s.sz → n ∉ X → t.get n = s.get n
def Has (s : S) (n : Nat) (o : O) : Prop := n < s.sz ∧ s.get n = some o
section
variable {X Y : List Nat} {s t u : S} {n m : Nat} {o o' : O}
theorem LeX.refl : LeX X s s := ⟨Nat.le_refl _, fun _ _ _ => rfl⟩
theorem LeX.trans (a : LeX X s t) (b : LeX X t u) : LeX X s u := ⟨Nat.le_trans a.1 b.1, fun n h k => (b.2 n (Nat.lt_of_lt_of_le h a.1) k).trans (a.2 n h k)⟩
theorem LeX.mono (a : LeX X s t) (h : ∀ n, n ∈ X → n < s.sz → n ∈ Y) : LeX Y s t := ⟨a.1, fun n hn k => a.2 n hn fun z => k (h n z hn)⟩
theorem LeX.of0 (a : LeX [] s t) : LeX X s t := a.mono fun _ h => nomatch h
theorem LeX.has (a : LeX X s t) (h : Has s n o) (k : n ∉ X) : Has t n o := ⟨Nat.lt_of_lt_of_le h.1 a.1, (a.2 n h.1 k).trans h.2⟩
theorem LeX.has0 (a : LeX [] s t) (h : Has s n o) : Has t n o := a.has h (by simp)
theorem le_add : LeX X s (s.add o) := ⟨Nat.le_succ _, fun n h _ => if_neg (Nat.ne_of_lt h)⟩
theorem has_add : Has (s.add o) s.sz o := ⟨Nat.lt_succ_self _, if_pos rfl⟩
theorem Has.add (h : Has s n o) : Has (s.add o') n o := (le_add (X := [])).has0 h
theorem le_put (h : n ∈ X ∨ u.sz ≤ n) (a : LeX X u s) : LeX X u (s.put n o) := ⟨a.1, fun m hm k => by
  have hne : m ≠ n := fun e => by
    rcases h with h | h
    · exact k (e ▸ h)
    · omega
  exact (show (if m = n then some o else s.get m) = _ from (if_neg hne).trans (a.2 m hm k))⟩
theorem has_put (h : n < s.sz) : Has (s.put n o) n o := ⟨h, if_pos rfl⟩
theorem Has.put (h : Has s n o) (ne : n ≠ m) : Has (s.put m o') n o := ⟨h.1, (if_neg ne).trans h.2⟩
theorem Has.inj (h : Has s n o) (h' : Has s n o') : o = o' := by
  have := h.2.symm.trans h'.2
  cases this
  rfl
theorem Has.ne {k : Nat} (h : Has s n o) (hk : s.sz ≤ k) : n ≠ k := fun e => by have := h.1; omega
theorem add_sz : (s.add o).sz = s.sz + 1 := rfl
theorem put_sz : (s.put n o).sz = s.sz := rfl
theorem Has.lst {ws : List W} (h : Has s n (.lst ws)) : lst? s n = some ws := by
  unfold lst?
  rw [h.2]
theorem Has.items {ws : List W} (h : Has s n (.lst ws)) : itemsW (.ref n) s = some ws := h.lst
end
theorem lcLoop_ok {src : Src} {g : MG} {mt : MB} {me : ME} {vs : List Nat} {d : Nat} {env : Env} (I : Nat → S → List W → Prop)
    (step : ∀ i s acc, i < src.n → I i s acc → Has s d (.lst acc) → src.ok s = true ∧ ∃ w env1 s1, src.at_ i s = some w ∧ g w (wipeE env vs) s = some (env1, s1) ∧
      ((∃ s2, mt env1 s1 = .ok false s2 ∧ Has s2 d (.lst acc) ∧ I (i + 1) s2 acc) ∨ ∃ s2 y s3, mt env1 s1 = .ok true s2 ∧ me env1 s2 = .ok y s3 ∧ Has s3 d (.lst acc) ∧ I (i + 1) (s3.put d (.lst (acc ++ [y]))) (acc ++ [y])))
    (fin : ∀ s acc, I src.n s acc → Has s d (.lst acc) → src.ok s = true) (hn : src.n ≤ 1000000) :
    ∀ (k i : Nat) (s : S) (acc : List W), i + k = src.n → acc.length ≤ i → I i s acc → Has s d (.lst acc) →
      ∃ s' acc', mLcLoop src g mt me vs d env k i s = .ok (.ref d) s' ∧ I src.n s' acc' ∧ Has s' d (.lst acc')
  | 0, i, s, acc, e, _, h, hd => by
    have : i = src.n := by omega
    subst this
    exact ⟨s, acc, by unfold mLcLoop; rw [if_pos (fin s acc h hd)], h, hd⟩
  | k + 1, i, s, acc, e, hl, h, hd => by
    obtain ⟨ho, w, env1, s1, ha, hg, q⟩ := step i s acc (by omega) h hd
    rcases q with ⟨s2, h1, h2, h3⟩ | ⟨s2, y, s3, h1, h2, h3, h4⟩
    · obtain ⟨s', acc', r1, r2, r3⟩ := lcLoop_ok I step fin hn k (i + 1) s2 acc (by omega) (by omega) h3 h2
      refine ⟨s', acc', ?_, r2, r3⟩
      unfold mLcLoop
      simp only [ho, if_true, ha, hg, h1, R.dry, R.bind_ok, Bool.false_eq_true, if_false]
      exact r1
    · obtain ⟨s', acc', r1, r2, r3⟩ := lcLoop_ok I step fin hn k (i + 1) _ (acc ++ [y]) (by omega) (by rw [List.length_append, List.length_singleton]; omega) h4 (has_put h3.1)
      refine ⟨s', acc', ?_, r2, r3⟩
      unfold mLcLoop
      have hlt : acc.length < 1000000 := by omega
      simp only [ho, if_true, ha, hg, h1, R.dry, R.bind_ok, h2, h3.2, hlt]
      exact r1
theorem lc_ok {mi : MI} {g : MG} {mt : MB} {me : ME} {vs : List Nat} {env : Env} {st st0 : S} {src : Src} (I : Nat → S → List W → Prop) (hi : mi env st = .ok src st0) (h0 : I 0 (st0.add (.lst [])) [])
    (step : ∀ i s acc, i < src.n → I i s acc → Has s st0.sz (.lst acc) → src.ok s = true ∧ ∃ w env1 s1, src.at_ i s = some w ∧ g w (wipeE env vs) s = some (env1, s1) ∧
      ((∃ s2, mt env1 s1 = .ok false s2 ∧ Has s2 st0.sz (.lst acc) ∧ I (i + 1) s2 acc) ∨ ∃ s2 y s3, mt env1 s1 = .ok true s2 ∧ me env1 s2 = .ok y s3 ∧ Has s3 st0.sz (.lst acc) ∧ I (i + 1) (s3.put st0.sz (.lst (acc ++ [y]))) (acc ++ [y])))
    (fin : ∀ s acc, I src.n s acc → Has s st0.sz (.lst acc) → src.ok s = true) (hn : src.n ≤ 1000000) :
    ∃ s' acc', mLc mi g mt me vs env st = .ok (.ref st0.sz) s' ∧ I src.n s' acc' ∧ Has s' st0.sz (.lst acc') := by
  obtain ⟨s', acc', h1, h2, h3⟩ := lcLoop_ok (env := env) (vs := vs) I step fin hn src.n 0 (st0.add (.lst [])) [] (by omega) (by simp) h0 has_add
  refine ⟨s', acc', ?_, h2, h3⟩
  unfold mLc
  rw [hi]
  exact h1
theorem lc_pureB {mi : MI} {g : MG} {mt : MB} {me : ME} {vs : List Nat} {env : Env} {st st0 : S} {src : Src} {ws : List W} (b : W → Bool) (f : W → W) (hi : mi env st = .ok src st0) (hn : src.n = ws.length) (hl : ws.length ≤ 1000000)
    (hok : ∀ s, LeX [] st0 s → src.ok s = true) (hat : ∀ i s, i < ws.length → LeX [] st0 s → src.at_ i s = ws[i]?)
    (hstep : ∀ w ∈ ws, ∀ s, LeX [] st0 s → ∃ env1, g w (wipeE env vs) s = some (env1, s) ∧ (∃ s2, mt env1 s = .ok (b w) s2 ∧ LeX [] s s2 ∧ ∀ s4, LeX [] st0 s4 → s4 = s2 → b w = true → ∃ s3, me env1 s4 = .ok (f w) s3 ∧ LeX [] s4 s3)) :
    ∃ s', mLc mi g mt me vs env st = .ok (.ref st0.sz) s' ∧ LeX [] st0 s' ∧ Has s' st0.sz (.lst ((ws.filter b).map f)) := by
  have key := lc_ok (mi := mi) (g := g) (mt := mt) (me := me) (vs := vs) (env := env) (st := st) (st0 := st0) (src := src) (fun i s acc => LeX [] st0 s ∧ acc = ((ws.take i).filter b).map f) hi ⟨le_add, by simp⟩ (by
    intro i s acc hi ⟨le, e⟩ hd
    rw [hn] at hi
    obtain ⟨env1, hg, s2, ht, le2, q⟩ := hstep ws[i] (List.getElem_mem hi) s le
    refine ⟨hok s le, ws[i], env1, s, by rw [hat i s hi le, List.getElem?_eq_getElem hi], hg, ?_⟩
    have et : ws.take (i + 1) = ws.take i ++ [ws[i]] := by rw [List.take_succ, List.getElem?_eq_getElem hi]; rfl
    cases hb : b ws[i] with
    | false =>
      rw [hb] at ht
      refine .inl ⟨s2, ht, le2.has0 hd, le.trans le2, ?_⟩
      rw [et, List.filter_append, List.map_append, e]
      simp [hb]
    | true =>
      rw [hb] at ht
      obtain ⟨s3, hm, le3⟩ := q s2 (le.trans le2) rfl hb
      refine .inr ⟨s2, f ws[i], s3, ht, hm, le3.has0 (le2.has0 hd), le_put (.inr (Nat.le_refl _)) (le.trans (le2.trans le3)), ?_⟩
      rw [et, List.filter_append, List.map_append, e]
      simp [hb]) (fun s acc ⟨le, _⟩ _ => hok s le) (by omega)
  obtain ⟨s', acc', h1, ⟨h2, h3⟩, h4⟩ := key
  refine ⟨s', h1, h2, ?_⟩
  rw [h3, hn, List.take_length] at h4
  exact h4
theorem lc_pure {mi : MI} {g : MG} {mt : MB} {me : ME} {vs : List Nat} {env : Env} {st st0 : S} {src : Src} {ws : List W} (b : W → Bool) (f : W → W) (hi : mi env st = .ok src st0) (hn : src.n = ws.length) (hl : ws.length ≤ 1000000)
    (hok : ∀ s, LeX [] st0 s → src.ok s = true) (hat : ∀ i s, LeX [] st0 s → src.at_ i s = ws[i]?)
    (hstep : ∀ w ∈ ws, ∀ s, LeX [] st0 s → ∃ env1, g w (wipeE env vs) s = some (env1, s) ∧ (∃ s2, mt env1 s = .ok (b w) s2 ∧ LeX [] s s2 ∧ ∀ s4, LeX [] st0 s4 → s4 = s2 → b w = true → ∃ s3, me env1 s4 = .ok (f w) s3 ∧ LeX [] s4 s3)) :
    ∃ s', mLc mi g mt me vs env st = .ok (.ref st0.sz) s' ∧ LeX [] st0 s' ∧ Has s' st0.sz (.lst ((ws.filter b).map f)) :=
  lc_pureB b f hi hn hl hok (fun i s _ le => hat i s le) hstep
theorem loop_ok {src : Src} {g : MG} {body : MS} (I : Nat → Env → S → Prop) (Q : RS → Prop)
    (step : ∀ i env s, i < src.n → I i env s → src.ok s = true ∧ ∃ w env1 s1, src.at_ i s = some w ∧ g w env s = some (env1, s1) ∧
      ((∃ env2 s2, body env1 s1 = .nx env2 s2 ∧ I (i + 1) env2 s2) ∨ (Q (body env1 s1) ∧ ((∃ w s2, body env1 s1 = .rt w s2) ∨ ∃ C fs e s2, body env1 s1 = .exc C fs e s2))))
    (fin : ∀ env s, I src.n env s → src.ok s = true ∧ Q (.nx env s)) :
    ∀ (k i : Nat) (env : Env) (s : S), i + k = src.n → I i env s → Q (mLoop src g body k i env s)
  | 0, i, env, s, e, h => by
    have : i = src.n := by omega
    subst this
    unfold mLoop
    rw [if_pos (fin env s h).1]
    exact (fin env s h).2
  | k + 1, i, env, s, e, h => by
    obtain ⟨ho, w, env1, s1, ha, hg, q⟩ := step i env s (by omega) h
    unfold mLoop
    simp only [ho, if_true, ha, hg]
    rcases q with ⟨env2, s2, h1, h2⟩ | ⟨hq, ⟨w2, s2, h1⟩ | ⟨C, fs, e2, s2, h1⟩⟩
    · rw [h1]
      exact loop_ok I Q step fin k (i + 1) env2 s2 (by omega) h2
    · rw [h1] at hq ⊢
      exact hq
    · rw [h1] at hq ⊢
      exact hq
theorem for_ok {mi : MI} {g : MG} {body : MS} {env : Env} {st st0 : S} {src : Src} (I : Nat → Env → S → Prop) (Q : RS → Prop) (hi : mi env st = .ok src st0) (h0 : I 0 env st0)
    (step : ∀ i env s, i < src.n → I i env s → src.ok s = true ∧ ∃ w env1 s1, src.at_ i s = some w ∧ g w env s = some (env1, s1) ∧
      ((∃ env2 s2, body env1 s1 = .nx env2 s2 ∧ I (i + 1) env2 s2) ∨ (Q (body env1 s1) ∧ ((∃ w s2, body env1 s1 = .rt w s2) ∨ ∃ C fs e s2, body env1 s1 = .exc C fs e s2))))
    (fin : ∀ env s, I src.n env s → src.ok s = true ∧ Q (.nx env s)) : Q (mFor mi g body env st) := by
  unfold mFor
  rw [hi]
  exact loop_ok I Q step fin src.n 0 env st0 (by omega) h0
def BlR {α : Type} (m : Env → S → R α) : Prop := ∀ e s, m (e.set 0 none) s = m e s
def RS.mapE (f : Env → Env) : RS → RS
  | .nx e s => .nx (f e) s
  | .bk e s => .bk (f e) s
  | .ct e s => .ct (f e) s
  | .rt w s => .rt w s
  | .exc C fs e s => .exc C fs (f e) s
  | .bad => .bad
def BlS (m : MS) : Prop := ∀ e s, m (e.set 0 none) s = (m e s).mapE (·.set 0 none)
theorem RS.call_mapE (f : Env → Env) (r : RS) : (r.mapE f).call = r.call := by cases r <;> rfl
section
variable {α β : Type} {m n k : ME} {a b : MA} {t u : MB} {x y : MS}
theorem bl_bind {p : Env → S → R α} {q : Env → α → S → R β} (h : BlR p) (h2 : ∀ w, BlR fun e s => q e w s) : BlR fun e s => (p e s).bind (q e) := fun e s => by
  show (p (e.set 0 none) s).bind (q (e.set 0 none)) = (p e s).bind (q e)
  rw [h e s]
  cases p e s with
  | ok w s' => exact h2 w e s'
  | exc C fs s' => rfl
  | bad => rfl
theorem bl_const {r : S → R α} : BlR fun _ s => r s := fun _ _ => rfl
theorem bl_var {i : Nat} : BlR (mVar (i + 1)) := fun e s => by
  unfold mVar
  rw [List.getElem?_set_ne (by omega)]
theorem bl_c {w : W} : BlR (mC w) := fun _ _ => rfl
theorem bl_m1 {g : W → S → R W} (h : BlR m) : BlR (m1 g m) := bl_bind h fun _ _ _ => rfl
theorem bl_m2 {g : W → W → S → R W} (h : BlR m) (h2 : BlR n) : BlR (m2 g m n) := bl_bind h fun _ => bl_bind h2 fun _ _ _ => rfl
theorem bl_mN {g : List W → S → R W} (h : BlR a) : BlR (mN g a) := bl_bind h fun _ _ _ => rfl
theorem bl_nil : BlR mLNil := fun _ _ => rfl
theorem bl_cons (h : BlR m) (h2 : BlR a) : BlR (mLCons m a) := bl_bind h fun _ => bl_bind h2 fun _ _ _ => rfl
theorem bl_T {g : W → S → R Bool} (h : BlR m) : BlR (mT g m) := bl_bind h fun _ _ _ => rfl
theorem bl_not (h : BlR t) : BlR (mNotB t) := bl_bind h fun _ _ _ => rfl
theorem bl_if (h : BlR t) (h1 : BlR m) (h2 : BlR n) : BlR (mIf t m n) := bl_bind h fun w e s => by
  cases w
  · exact h2 e s
  · exact h1 e s
theorem bl_bm {T : String} {g : W → List W → S → R W} (h : BlR m) (h2 : BlR a) : BlR (mBM T g m a) := bl_bind h fun o e s => by
  show (if tyW T o s then (a (e.set 0 none) s).bind fun ws s2 => g o ws s2 else .bad) = _
  rw [h2 e s]
theorem bs_R {p : Env → S → R α} {q : Env → α → S → RS} (h : BlR p) (h2 : ∀ w e s, q (e.set 0 none) w s = (q e w s).mapE (·.set 0 none)) : BlS fun e s => (p e s).toS e (q e) := fun e s => by
  show (p (e.set 0 none) s).toS (e.set 0 none) (q (e.set 0 none)) = _
  rw [h e s]
  show _ = ((p e s).toS e (q e)).mapE (·.set 0 none)
  cases p e s with
  | ok w s' => exact h2 w e s'
  | exc C fs s' => rfl
  | bad => rfl
theorem bs_next : BlS mNext := fun _ _ => rfl
theorem bs_expr (h : BlR m) : BlS (mExpr m) := bs_R h fun _ _ _ => rfl
theorem bs_ret (h : BlR m) : BlS (mRet m) := bs_R h fun _ _ _ => rfl
theorem bs_if (h : BlR t) (h1 : BlS x) (h2 : BlS y) : BlS (mIfS t x y) := bs_R h fun w e s => by
  cases w
  · exact h2 e s
  · exact h1 e s
theorem bs_seq (h1 : BlS x) (h2 : BlS y) : BlS (mSeq x y) := fun e s => by
  unfold mSeq
  rw [h1 e s]
  cases x e s with
  | nx e' s' => exact h2 e' s'
  | _ => rfl
end
end MM

namespace MM
open PySem PySem.Spec PyProof.Rows L2
abbrev spc : Str := ⟨#[32]⟩
theorem spc_eq : (" " : Str) = spc := by decide +kernel
def noSp (x : Str) : Prop := 32 ∉ x.cps.toList
theorem join_cons2 (a x y : Str) (r : List Str) : Txt.join a (x :: y :: r) = x ++ a ++ Txt.join a (y :: r) := by
  rw [TL.join_eq, TL.join_eq]
  rfl
theorem join_one (a x : Str) : Txt.join a [x] = x := by
  rw [TL.join_eq]
  rfl
theorem join_nil (a : Str) : Txt.join a [] = Str.empty := by
  rw [TL.join_eq]
  rfl
theorem split_join {ws : List Str} (hne : ws ≠ []) (h : ∀ w ∈ ws, noSp w) : Txt.split (Txt.join spc ws) spc = ws := by
  refine TL.map_tl_inj ?_
  rw [TL.split_spl _ _ (by decide) (TL.kind_ok (by decide +kernel)), TL.join_eq, TL.tl_join]
  refine SX.spl_join (c := 32) (sep := []) (by simpa using hne) fun p hp => ?_
  obtain ⟨w, hw, rfl⟩ := List.mem_map.mp hp
  exact h w hw
theorem join_split (x : Str) : Txt.join spc (Txt.split x spc) = x := by
  rw [TL.join_eq]
  exact StrLaws.join_split x spc
theorem split_noSp (x : Str) : ∀ w ∈ Txt.split x spc, noSp w := fun w h => StrLaws.split_free x 32 w h
theorem split_ne (x : Str) : Txt.split x spc ≠ [] := fun e => by
  have := PyProof.Rows.split_pos x spc
  rw [e] at this
  exact absurd this (by decide)
theorem split_weight (x : Str) : ((Txt.split x spc).map (·.length)).sum + (Txt.split x spc).length ≤ x.length + 1 := PyProof.Rows.split_weight x spc (by decide)
theorem split_mem_le {x w : Str} (h : w ∈ Txt.split x spc) : w.length ≤ x.length := PyProof.Rows.part_short h
theorem len_app (x y : Str) : (x ++ y).length = x.length + y.length := by
  show (x.cps ++ y.cps).size = _
  rw [Array.size_append]
  rfl
theorem in_one (c : Nat) (x : Str) : inStr ⟨#[c]⟩ x = decide (c ∈ x.cps.toList) := StrLaws.found_one x c
theorem app_toList (x y : Str) : (x ++ y).cps.toList = x.cps.toList ++ y.cps.toList := by
  show (x.cps ++ y.cps).toList = _
  rw [Array.toList_append]
theorem join_len (a : Str) : ∀ ys : List Str, (Txt.join a ys).length ≤ (ys.map (·.length)).sum + ys.length * a.length
  | [] => by rw [join_nil]; exact Nat.zero_le _
  | [x] => by
    rw [join_one]
    simp
  | x :: y :: r => by
    have ih := join_len a (y :: r)
    rw [join_cons2, len_app, len_app]
    simp only [List.map_cons, List.sum_cons, List.length_cons] at ih ⊢
    have e1 : (r.length + 1 + 1) * a.length = (r.length + 1) * a.length + a.length := by rw [Nat.succ_mul]
    omega
theorem mapM_some {α β : Type} {f : α → Option β} {g : α → β} : ∀ {l : List α}, (∀ x ∈ l, f x = some (g x)) → l.mapM f = some (l.map g)
  | [], _ => rfl
  | x :: l, h => by
    rw [List.mapM_cons, h x List.mem_cons_self, mapM_some fun y hy => h y (List.mem_cons_of_mem _ hy)]
    rfl
theorem rd_str {k : Nat} {s : S} {x : Str} : rd (k + 1) s (.str x) = some (.str x) := rfl
theorem rd_int {k : Nat} {s : S} {x : Int} : rd (k + 1) s (.int x) = some (.int x) := rfl
theorem rd_bl {k : Nat} {s : S} {x : Bool} : rd (k + 1) s (.bl x) = some (.bool x) := rfl
theorem rd_non {k : Nat} {s : S} : rd (k + 1) s .non = some .none := rfl
theorem rd_tup {k : Nat} {s : S} {ws : List W} {f : W → PyData} (h : ∀ w ∈ ws, rd k s w = some (f w)) : rd (k + 1) s (.tup ws) = some (.tuple (ws.map f)) := by
  show (ws.mapM (rd k s)).map _ = _
  rw [mapM_some h]
  rfl
theorem rd_lst {k : Nat} {s : S} {n : Nat} {ws : List W} {f : W → PyData} (hn : Has s n (.lst ws)) (h : ∀ w ∈ ws, rd k s w = some (f w)) : rd (k + 1) s (.ref n) = some (.list (ws.map f)) := by
  show (match s.get n with | some (.lst ws) => (ws.mapM (rd k s)).map _ | _ => none) = _
  rw [hn.2]
  show (ws.mapM (rd k s)).map _ = _
  rw [mapM_some h]
  rfl
theorem rd_tupM {α : Type} {k : Nat} {s : S} {l : List α} {e : α → W} {d : α → PyData} (h : ∀ x ∈ l, rd k s (e x) = some (d x)) : rd (k + 1) s (.tup (l.map e)) = some (.tuple (l.map d)) := by
  show ((l.map e).mapM (rd k s)).map _ = _
  rw [List.mapM_map, mapM_some (f := rd k s ∘ e) (g := d) h]
  rfl
theorem rd_lstM {α : Type} {k : Nat} {s : S} {n : Nat} {l : List α} {e : α → W} {d : α → PyData} (hn : Has s n (.lst (l.map e))) (h : ∀ x ∈ l, rd k s (e x) = some (d x)) : rd (k + 1) s (.ref n) = some (.list (l.map d)) := by
  show (match s.get n with | some (.lst ws) => (ws.mapM (rd k s)).map _ | _ => none) = _
  rw [hn.2]
  show ((l.map e).mapM (rd k s)).map _ = _
  rw [List.mapM_map, mapM_some (f := rd k s ∘ e) (g := d) h]
  rfl
theorem eqv_str (x y : Str) : PyData.eqv (.str x) (.str y) = decide (x = y) := by
  unfold PyData.eqv
  rfl
theorem eqv_int (x y : Int) : PyData.eqv (.int x) (.int y) = decide (x = y) := by
  unfold PyData.eqv
  rfl
theorem eqvAll_map {α : Type} [DecidableEq α] {d : α → PyData} (h : ∀ a b, PyData.eqv (d a) (d b) = decide (a = b)) : ∀ l m : List α, PyData.eqvAll (l.map d) (m.map d) = decide (l = m)
  | [], [] => by simp [PyData.eqvAll]
  | [], _ :: _ => by simp [PyData.eqvAll]
  | _ :: _, [] => by simp [PyData.eqvAll]
  | a :: l, b :: m => by
    simp only [List.map_cons, PyData.eqvAll, h, eqvAll_map h l m]
    by_cases e1 : a = b
    · by_cases e2 : l = m <;> simp [e1, e2]
    · simp [e1]
theorem eqv_lists {α : Type} [DecidableEq α] {d : α → PyData} (h : ∀ a b, PyData.eqv (d a) (d b) = decide (a = b)) (l m : List α) : PyData.eqv (.list (l.map d)) (.list (m.map d)) = decide (l = m) := by
  rw [PyData.eqv, eqvAll_map h]
theorem eqv_tuples {α : Type} [DecidableEq α] {d : α → PyData} (h : ∀ a b, PyData.eqv (d a) (d b) = decide (a = b)) (l m : List α) : PyData.eqv (.tuple (l.map d)) (.tuple (m.map d)) = decide (l = m) := by
  rw [PyData.eqv, eqvAll_map h]
def pairW (p : Str × Str) : W := .tup [.str p.1, .str p.2]
def pairD (p : Str × Str) : PyData := .tuple [.str p.1, .str p.2]
theorem rd_pair {k : Nat} {s : S} (p : Str × Str) : rd (k + 2) s (pairW p) = some (pairD p) := rfl
theorem eqv_pair (p q : Str × Str) : PyData.eqv (pairD p) (pairD q) = decide (p = q) := by
  have := eqv_tuples eqv_str [p.1, p.2] [q.1, q.2]
  refine Eq.trans this ?_
  obtain ⟨a, b⟩ := p
  obtain ⟨c, d⟩ := q
  by_cases e1 : a = c <;> by_cases e2 : b = d <;> simp [e1, e2]
def okS (x : Str) : Prop := PyData.strOk x = true
theorem lay_pair {p : Str × Str} (h1 : okS p.1) (h2 : okS p.2) : PyData.canLay0 (pairD p) = true := by
  unfold okS at h1 h2
  simp [pairD, PyData.canLay0, PyData.canLayAll0, h1, h2]
theorem layAll_map {α : Type} {d : α → PyData} : ∀ {l : List α}, (∀ x ∈ l, PyData.canLay0 (d x) = true) → PyData.canLayAll0 (l.map d) = true
  | [], _ => by simp [PyData.canLayAll0]
  | x :: l, h => by
    simp only [List.map_cons, PyData.canLayAll0, h x List.mem_cons_self, layAll_map fun y hy => h y (List.mem_cons_of_mem _ hy), Bool.and_true]
theorem depthAll_map {α : Type} {d : α → PyData} {k : Nat} : ∀ {l : List α}, (∀ x ∈ l, (d x).depth ≤ k) → PyData.depthAll (l.map d) ≤ k
  | [], _ => by simp [PyData.depthAll]
  | x :: l, h => by
    simp only [List.map_cons, PyData.depthAll]
    have h1 := h x List.mem_cons_self
    have h2 := depthAll_map (d := d) (k := k) fun y hy => h y (List.mem_cons_of_mem _ hy)
    omega
theorem depth_pair (p : Str × Str) : (pairD p).depth = 1 := by
  simp [pairD, PyData.depth, PyData.depthAll]
theorem shaped_str {x : Str} (h : okS x) : SeqAt.shaped (.str x) = true := by
  unfold okS at h
  simp [SeqAt.shaped, PyData.canLay0, PyData.depth, h]
theorem shaped_pair {p : Str × Str} (h1 : okS p.1) (h2 : okS p.2) : SeqAt.shaped (pairD p) = true := by
  unfold SeqAt.shaped
  rw [lay_pair h1 h2, depth_pair]
  decide
theorem shaped_list {α : Type} {d : α → PyData} {l : List α} (h : ∀ x ∈ l, PyData.canLay0 (d x) = true) (h2 : ∀ x ∈ l, (d x).depth ≤ 60) : SeqAt.shaped (.list (l.map d)) = true := by
  have := depthAll_map h2
  simp [SeqAt.shaped, PyData.canLay0, PyData.depth, layAll_map h]
  omega
theorem shaped_tuple {α : Type} {d : α → PyData} {l : List α} (h : ∀ x ∈ l, PyData.canLay0 (d x) = true) (h2 : ∀ x ∈ l, (d x).depth ≤ 60) : SeqAt.shaped (.tuple (l.map d)) = true := by
  have := depthAll_map h2
  simp [SeqAt.shaped, PyData.canLay0, PyData.depth, layAll_map h]
  omega
end MM

namespace MM
open PySem PySem.Spec PyProof.Rows L2
section
variable {env : Env} {st s : S} {w w' : W} {ws : List W} {i j : Nat} {m n k : ME} {a b : MA} {t u : MB} {x y : MS} {g : MG}
@[simp high] theorem bind_ok' {α β : Type} {a : α} {s : S} {k : α → S → R β} : (R.ok a s).bind k = k a s := (rfl)
@[simp high] theorem bind_exc' {α β : Type} {C : Addr} {fs : List (Str × W)} {s : S} {k : α → S → R β} : (R.exc C fs s : R α).bind k = .exc C fs s := (rfl)
@[simp] theorem ev_var (h : env[i]? = some (some w)) : mVar i env st = .ok w st := by unfold mVar; rw [h]
@[simp] theorem ev_c : mC w env st = .ok w st := (rfl)
@[simp] theorem ev_m1 {f : W → S → R W} : m1 f m env st = (m env st).bind f := (rfl)
@[simp] theorem ev_m2 {f : W → W → S → R W} : m2 f m n env st = (m env st).bind fun w s1 => (n env s1).bind fun w' s2 => f w w' s2 := (rfl)
@[simp] theorem ev_mN {f : List W → S → R W} : mN f a env st = (a env st).bind f := (rfl)
@[simp] theorem ev_nil : mLNil env st = .ok [] st := (rfl)
@[simp] theorem ev_cons : mLCons m a env st = (m env st).bind fun w s => (a env s).bind fun ws s' => .ok (w :: ws) s' := (rfl)
@[simp] theorem ev_T {f : W → S → R Bool} : mT f m env st = (m env st).bind f := (rfl)
@[simp] theorem ev_notB : mNotB t env st = (t env st).bind fun b s => .ok (!b) s := (rfl)
@[simp] theorem ev_andB : mAndB t u env st = (t env st).bind fun b s => if b then u env s else .ok false s := (rfl)
@[simp] theorem ev_orB : mOrB t u env st = (t env st).bind fun b s => if b then .ok true s else u env s := (rfl)
@[simp] theorem ev_if : mIf t m n env st = (t env st).bind fun b s => if b then m env s else n env s := (rfl)
@[simp] theorem ev_andV : mAndV m n env st = (m env st).bind fun w s => match w with
  | .bl true => n env s
  | .bl false => .ok (.bl false) s
  | _ => .bad := (rfl)
@[simp] theorem ev_orV : mOrV m n env st = (m env st).bind fun w s => match w with
  | .bl true => .ok (.bl true) s
  | .bl false => n env s
  | _ => .bad := (rfl)
@[simp] theorem ev_notV {b : Bool} : notV (.bl b) st = .ok (.bl (!b)) st := (rfl)
@[simp] theorem ev_asB {b : Bool} : asB (.bl b) st = .ok b st := (rfl)
@[simp] theorem ev_truthBl {b : Bool} : truth (.bl b) st = .ok b st := (rfl)
@[simp] theorem ev_newTup (h : ws.length ≤ 1000000) : newTup ws st = .ok (.tup ws) st := by unfold newTup; rw [if_pos h]
@[simp] theorem ev_newLst (h : ws.length ≤ 1000000) : newLst ws st = .ok (.ref st.sz) (st.add (.lst ws)) := by unfold newLst; rw [if_pos h]
@[simp] theorem ev_next : mNext env st = .nx env st := (rfl)
@[simp] theorem ev_seq : mSeq x y env st = match x env st with
  | .nx env' st' => y env' st'
  | r => r := (rfl)
@[simp] theorem ev_toS {α : Type} {α' : α} {f : α → S → RS} : (R.ok α' st).toS env f = f α' st := (rfl)
@[simp] theorem ev_toSx {α : Type} {C : Addr} {fs : List (Str × W)} {f : α → S → RS} : (R.exc C fs st : R α).toS env f = .exc C fs env st := (rfl)
@[simp] theorem ev_expr : mExpr m env st = (m env st).toS env fun _ s => .nx env s := (rfl)
@[simp] theorem ev_ret : mRet m env st = (m env st).toS env fun w s => .rt w s := (rfl)
@[simp] theorem ev_ifS : mIfS t x y env st = (t env st).toS env fun b s => if b then x env s else y env s := (rfl)
@[simp] theorem ev_asgN : mAsg m (gN i) env st = (m env st).toS env fun w s => .nx (env.set i (some w)) s := (rfl)
@[simp] theorem ev_par : mPar i j a env st = (a env st).toS env fun ws s => match ws with
  | [w, z] => .nx ((env.set i (some w)).set j (some z)) s
  | _ => .bad := (rfl)
@[simp] theorem ev_callRt : (RS.rt w st).call = .ok w st := (rfl)
@[simp] theorem ev_callNx : (RS.nx env st).call = .ok .non st := (rfl)
@[simp] theorem ev_callX {C : Addr} {fs : List (Str × W)} : (RS.exc C fs env st).call = .exc C fs st := (rfl)
@[simp] theorem ev_fill {q : Nat} {f : List W → S → R W} (h : ws.length = q) : mFill q [] f ws st = f ws st := by
  unfold mFill
  rw [if_pos h, List.append_nil]
@[simp] theorem ev_def {q : Nat} : mDef q x ws st = (x (startE q ws) st).call := (rfl)
@[simp] theorem ev_gN : gN i w env st = some (env.set i (some w), st) := (rfl)
@[simp] theorem ev_lenS {z : Str} (h : z.length ≤ 1000000) : wLen [.str z] st = .ok (.int z.length) st := by
  show (if z.length ≤ 1000000 then R.ok (W.int z.length) st else R.bad) = _
  rw [if_pos h]
@[simp] theorem ev_lenT : wLen [.tup ws] st = .ok (.int ws.length) st := (rfl)
theorem ev_lenL {q : Nat} (h : Has st q (.lst ws)) : wLen [.ref q] st = .ok (.int ws.length) st := by
  show (match itemsW (.ref q) st with | some ws => R.ok (W.int ws.length) st | none => R.bad) = _
  rw [h.items]
@[simp] theorem ev_chain {f f' : W → W → S → R W} : mChain f f' m n k env st = (m env st).bind fun x s1 => (n env s1).bind fun y s2 => (f x y s2).bind fun z s3 => match z with
  | .bl true => (k env s3).bind fun w s4 => f' y w s4
  | .bl false => .ok (.bl false) s3
  | _ => .bad := (rfl)
@[simp] theorem ev_le {p q : Int} : wLe (.int p) (.int q) st = .ok (.bl (decide (p ≤ q))) st := (rfl)
@[simp] theorem ev_lt {p q : Int} : wLt (.int p) (.int q) st = .ok (.bl (decide (p < q))) st := (rfl)
@[simp] theorem ev_gt {p q : Int} : wGt (.int p) (.int q) st = .ok (.bl (decide (q < p))) st := (rfl)
@[simp] theorem ev_ge {p q : Int} : wGe (.int p) (.int q) st = .ok (.bl (decide (q ≤ p))) st := (rfl)
@[simp] theorem ev_add {p q : Int} : wAdd (.int p) (.int q) st = .ok (.int (p + q)) st := (rfl)
@[simp] theorem ev_sub {p q : Int} : wSub (.int p) (.int q) st = .ok (.int (p - q)) st := (rfl)
theorem ev_addS {p q : Str} (h : p.length + q.length ≤ 1000000) : wAdd (.str p) (.str q) st = .ok (.str (p ++ q)) st := by
  show (if p.length + q.length ≤ 1000000 then R.ok (W.str (p ++ q)) st else R.bad) = _
  rw [if_pos h]
theorem ev_eq {d d' : PyData} (h1 : rd 60 st w = some d) (h2 : rd 60 st w' = some d') (s1 : SeqAt.shaped d = true) (s2 : SeqAt.shaped d' = true) : wEq w w' st = .ok (.bl (PyData.eqv d d')) st := by
  unfold wEq
  rw [h1, h2]
  simp only [s1, s2, Bool.and_true, if_true]
theorem ev_ne {d d' : PyData} (h1 : rd 60 st w = some d) (h2 : rd 60 st w' = some d') (s1 : SeqAt.shaped d = true) (s2 : SeqAt.shaped d' = true) : wNe w w' st = .ok (.bl (!PyData.eqv d d')) st := by
  unfold wNe
  rw [h1, h2]
  simp only [s1, s2, Bool.and_true, if_true]
theorem ev_eqS {p q : Str} (h1 : okS p) (h2 : okS q) : wEq (.str p) (.str q) st = .ok (.bl (decide (p = q))) st := by
  rw [ev_eq rfl rfl (shaped_str h1) (shaped_str h2), eqv_str]
theorem ev_neS {p q : Str} (h1 : okS p) (h2 : okS q) : wNe (.str p) (.str q) st = .ok (.bl (!decide (p = q))) st := by
  rw [ev_ne rfl rfl (shaped_str h1) (shaped_str h2), eqv_str]
theorem shaped_int {p : Int} : SeqAt.shaped (.int p) = true := by simp [SeqAt.shaped, PyData.canLay0, PyData.depth]
theorem ev_eqI {p q : Int} : wEq (.int p) (.int q) st = .ok (.bl (decide (p = q))) st := by
  rw [ev_eq rfl rfl shaped_int shaped_int, eqv_int]
theorem ev_neI {p q : Int} : wNe (.int p) (.int q) st = .ok (.bl (!decide (p = q))) st := by
  rw [ev_ne rfl rfl shaped_int shaped_int, eqv_int]
@[simp] theorem ev_inS {p q : Str} : wIn (.str p) (.str q) st = .ok (.bl (inStr p q)) st := (rfl)
@[simp] theorem ev_notInS {p q : Str} : wNotIn (.str p) (.str q) st = .ok (.bl (!inStr p q)) st := (rfl)
theorem ev_iter (h : m env st = .ok w s) : mIter m env st = srcOf w s := by
  unfold mIter
  rw [h]
  rfl
end
end MM

namespace MM
open PySem PySem.Spec PyProof.Rows L2
theorem facW_small {i : Int} (h1 : -1000000000000000000 ≤ i) (h2 : i ≤ 1000000000000000000) : facW i = true := by
  have a : decide (-(2 ^ 64) < i) = true := decide_eq_true (Int.lt_of_lt_of_le (by decide +kernel) h1)
  have b : decide (i < 2 ^ 64) = true := decide_eq_true (Int.lt_of_le_of_lt h2 (by decide +kernel))
  unfold facW
  rw [a, b]
  all_goals rfl
theorem mulI_of {i j : Int} {st : S} (h : (facW i || facW j) = true) : wMul (.int i) (.int j) st = .ok (.int (i * j)) st := by
  unfold wMul
  dsimp only
  rw [if_pos h]
theorem ev_mulL {i j : Int} {st : S} (h1 : -1000000000000000000 ≤ i) (h2 : i ≤ 1000000000000000000) : wMul (.int i) (.int j) st = .ok (.int (i * j)) st := mulI_of (by rw [facW_small h1 h2, Bool.true_or])
theorem ev_mulR {i j : Int} {st : S} (h1 : -1000000000000000000 ≤ j) (h2 : j ≤ 1000000000000000000) : wMul (.int i) (.int j) st = .ok (.int (i * j)) st := mulI_of (by rw [facW_small h1 h2, Bool.or_true])
theorem ev_modI {i j : Int} {st : S} (h : j ≠ 0) : wMod (.int i) (.int j) st = .ok (.int (i.fmod j)) st := by
  unfold wMod
  dsimp only
  rw [if_pos h]
theorem ev_divI {i j : Int} {st : S} (h : j ≠ 0) (h2 : j.natAbs < 1073741824) : wDiv (.int i) (.int j) st = .ok (.int (i.fdiv j)) st := by
  unfold wDiv
  dsimp only
  rw [if_pos ⟨h, h2⟩]
theorem ev_powI {i : Int} {j : Nat} {st : S} (h : j ≤ 1000000) (h1 : i.natAbs ≤ 1000000000000000000) : wPow (.int i) (.int (j : Int)) st = .ok (.int (i ^ j)) st := by
  unfold wPow
  dsimp only
  rw [if_pos ⟨by omega, by omega, Nat.lt_of_le_of_lt h1 (by decide +kernel)⟩, Int.toNat_natCast]
@[simp] theorem ev_intI {i : Int} {st : S} : wInt [.int i] st = .ok (.int i) st := rfl
@[simp] theorem ev_intB {b : Bool} {st : S} : wInt [.bl b] st = .ok (.int (if b then 1 else 0)) st := rfl
@[simp] theorem ev_absI {i : Int} {st : S} : wAbs [.int i] st = .ok (.int (if i < 0 then -i else i)) st := rfl
end MM

namespace MM
open PySem PySem.Spec PyProof.Rows L2
section
variable {env env' : Env} {st s s1 s2 s3 : S} {w w' : W} {ws : List W} {i j : Nat} {m n k : ME} {a b : MA} {t u : MB} {x y : MS} {g : MG} {C : Addr} {fs : List (Str × W)}
theorem seq_nx (h : x env st = .nx env' s) : mSeq x y env st = y env' s := by unfold mSeq; rw [h]
theorem seq_rt (h : x env st = .rt w s) : mSeq x y env st = .rt w s := by unfold mSeq; rw [h]
theorem seq_exc (h : x env st = .exc C fs env' s) : mSeq x y env st = .exc C fs env' s := by unfold mSeq; rw [h]
theorem if_t (h : t env st = .ok true s) : mIfS t x y env st = x env s := by unfold mIfS; rw [h]; rfl
theorem if_f (h : t env st = .ok false s) : mIfS t x y env st = y env s := by unfold mIfS; rw [h]; rfl
theorem if_fn (h : t env st = .ok false s) : mIfS t x mNext env st = .nx env s := if_f h
theorem chain_t {f f' : W → W → S → R W} {w3 : W} {s4 : S} (h1 : m env st = .ok w s1) (h2 : n env s1 = .ok w' s2) (hf : f w w' s2 = .ok (.bl true) s3) (h3 : k env s3 = .ok w3 s4) : mChain f f' m n k env st = f' w' w3 s4 := by
  unfold mChain
  rw [h1, R.bind_ok, h2, R.bind_ok, hf, R.bind_ok]
  show (k env s3).bind _ = _
  rw [h3, R.bind_ok]
theorem chain_f {f f' : W → W → S → R W} (h1 : m env st = .ok w s1) (h2 : n env s1 = .ok w' s2) (hf : f w w' s2 = .ok (.bl false) s3) : mChain f f' m n k env st = .ok (.bl false) s3 := by
  unfold mChain
  rw [h1, R.bind_ok, h2, R.bind_ok, hf, R.bind_ok]
theorem andV_f (h : m env st = .ok (.bl false) s) : mAndV m n env st = .ok (.bl false) s := by unfold mAndV; rw [h]; rfl
theorem orV_t (h : m env st = .ok (.bl true) s) : mOrV m n env st = .ok (.bl true) s := by unfold mOrV; rw [h]; rfl
theorem orV_f {r : R W} (h : m env st = .ok (.bl false) s) (h2 : n env s = r) : mOrV m n env st = r := by unfold mOrV; rw [h, R.bind_ok]; exact h2
theorem nm_ok (h : m env st = .ok w s) : mAsg m (gN i) env st = .nx (env.set i (some w)) s := by unfold mAsg; rw [h]; rfl
theorem ret_ok (h : m env st = .ok w s) : mRet m env st = .rt w s := by unfold mRet; rw [h]; rfl
theorem ret_exc (h : m env st = .exc C fs s) : mRet m env st = .exc C fs env s := by unfold mRet; rw [h]; rfl
theorem expr_ok (h : m env st = .ok w s) : mExpr m env st = .nx env s := by unfold mExpr; rw [h]; rfl
theorem par_ok (h : a env st = .ok [w, w'] s) : mPar i j a env st = .nx ((env.set i (some w)).set j (some w')) s := by unfold mPar; rw [h]; rfl
theorem v_ok (h : env[i]? = some (some w)) : mVar i env st = .ok w st := by unfold mVar; rw [h]
theorem c_ok : mC w env st = .ok w st := (rfl)
theorem m1_ok {f : W → S → R W} (h : m env st = .ok w s) : m1 f m env st = f w s := by unfold m1; rw [h]; rfl
theorem m2_ok {f : W → W → S → R W} (h : m env st = .ok w s1) (h2 : n env s1 = .ok w' s2) : m2 f m n env st = f w w' s2 := by unfold m2; rw [h, R.bind_ok, h2]; rfl
theorem mN_ok {f : List W → S → R W} (h : a env st = .ok ws s) : mN f a env st = f ws s := by unfold mN; rw [h]; rfl
theorem mT_ok {f : W → S → R Bool} (h : m env st = .ok w s) : mT f m env st = f w s := by unfold mT; rw [h]; rfl
theorem l_nil : mLNil env st = .ok [] st := (rfl)
theorem l_cons (h : m env st = .ok w s1) (h2 : a env s1 = .ok ws s2) : mLCons m a env st = .ok (w :: ws) s2 := by unfold mLCons; rw [h, R.bind_ok, h2]; rfl
theorem l_one (h : m env st = .ok w s1) : mLCons m mLNil env st = .ok [w] s1 := l_cons h l_nil
theorem l_two (h : m env st = .ok w s1) (h2 : n env s1 = .ok w' s2) : mLCons m (mLCons n mLNil) env st = .ok [w, w'] s2 := l_cons h (l_one h2)
theorem bm_ok {T : String} {f : W → List W → S → R W} (h : m env st = .ok w s1) (ht : tyW T w s1 = true) (h2 : a env s1 = .ok ws s2) : mBM T f m a env st = f w ws s2 := by
  unfold mBM
  rw [h, R.bind_ok, if_pos ht, h2]
  rfl
theorem not_ok {p : Bool} (h : t env st = .ok p s) : mNotB t env st = .ok (!p) s := by unfold mNotB; rw [h]; rfl
theorem and_t {r : R Bool} (h : t env st = .ok true s) (h2 : u env s = r) : mAndB t u env st = r := by unfold mAndB; rw [h, R.bind_ok, if_pos rfl, h2]
theorem and_f (h : t env st = .ok false s) : mAndB t u env st = .ok false s := by unfold mAndB; rw [h]; rfl
theorem or_t (h : t env st = .ok true s) : mOrB t u env st = .ok true s := by unfold mOrB; rw [h]; rfl
theorem or_f {r : R Bool} (h : t env st = .ok false s) (h2 : u env s = r) : mOrB t u env st = r := by unfold mOrB; rw [h, R.bind_ok]; exact h2
theorem andV_t {r : R W} (h : m env st = .ok (.bl true) s) (h2 : n env s = r) : mAndV m n env st = r := by unfold mAndV; rw [h, R.bind_ok]; exact h2
theorem ie_t {r : R W} (h : t env st = .ok true s) (h2 : m env s = r) : mIf t m n env st = r := by unfold mIf; rw [h, R.bind_ok, if_pos rfl, h2]
theorem ie_f {r : R W} (h : t env st = .ok false s) (h2 : n env s = r) : mIf t m n env st = r := by unfold mIf; rw [h, R.bind_ok]; exact h2
theorem asB_ok {p : Bool} : asB (.bl p) st = .ok p st := (rfl)
theorem tr_ok {p : Bool} : truth (.bl p) st = .ok p st := (rfl)
theorem fill_def {q r : Nat} (h : ws.length = q) : mFill q [] (mDef r x) ws st = (x (startE r ws) st).call := by
  rw [ev_fill h]
  rfl
theorem call_rt (h : x env st = .rt w s) : (x env st).call = .ok w s := by rw [h]; rfl
theorem call_nx (h : x env st = .nx env' s) : (x env st).call = .ok .non s := by rw [h]; rfl
end
end MM

namespace MM
open PySem PySem.Spec PyProof.Rows L2
theorem strsW_map : ∀ ys : List Str, strsW (ys.map W.str) = some ys
  | [] => rfl
  | y :: ys => by
    show (strsW (ys.map W.str)).map _ = _
    rw [strsW_map ys]
    rfl
theorem join_strs {a : Str} {st : S} {q : Nat} {ys : List Str} (h : Has st q (.lst (ys.map W.str))) (hl : (ys.map (·.length)).sum + ys.length * a.length ≤ 1000000) : gJoin (.str a) [.ref q] st = .ok (.str (Txt.join a ys)) st := by
  unfold gJoin
  dsimp only
  rw [h.items]
  show (match strsW (ys.map W.str) with | some ys => _ | none => _) = _
  rw [strsW_map]
  exact if_pos hl
theorem mul01 {st : S} {r : Nat} {xs : List W} {b : Bool} (h : Has st r (.lst xs)) (hl : xs.length ≤ 1000) : wMul (.ref r) (.int (if b = true then 1 else 0)) st = .ok (.ref st.sz) (st.add (.lst (if b = true then xs else []))) := by
  unfold wMul
  dsimp only
  rw [h.lst]
  dsimp only
  cases b with
  | true =>
    have e : -(2 ^ 63) ≤ (1 : Int) ∧ (1 : Int) < 2 ^ 63 ∧ xs.length * (1 : Int).toNat ≤ 1000000 := ⟨by decide +kernel, by decide +kernel, by rw [show (1 : Int).toNat = 1 from rfl]; omega⟩
    refine (if_pos e).trans ?_
    simp
  | false =>
    have e : -(2 ^ 63) ≤ (0 : Int) ∧ (0 : Int) < 2 ^ 63 ∧ xs.length * (0 : Int).toNat ≤ 1000000 := ⟨by decide +kernel, by decide +kernel, by rw [show (0 : Int).toNat = 0 from rfl]; omega⟩
    refine (if_pos e).trans ?_
    simp
theorem add_lst {st : S} {r k : Nat} {xs ys : List W} (h : Has st r (.lst xs)) (h2 : Has st k (.lst ys)) (hl : xs.length + ys.length ≤ 1000000) : wAdd (.ref r) (.ref k) st = .ok (.ref st.sz) (st.add (.lst (xs ++ ys))) := by
  unfold wAdd
  dsimp only
  rw [h.lst, h2.lst]
  dsimp only
  rw [if_pos hl]
theorem cut_take {ws : List W} {d : Int} (h : 0 ≤ d) : cutW ws none (some d) = ws.take d.toNat := by
  unfold cutW HT.sIx
  dsimp only
  rw [if_neg (by omega), List.drop_zero, Nat.sub_zero, ← List.take_eq_take_min]
theorem cut_drop {ws : List W} {d : Int} (h : 0 ≤ d) : cutW ws (some d) none = ws.drop d.toNat := by
  unfold cutW HT.sIx
  dsimp only
  rw [if_neg (by omega), List.take_of_length_le (by rw [List.length_drop]; omega)]
  by_cases h2 : d.toNat ≤ ws.length
  · rw [Nat.min_eq_left h2]
  · rw [Nat.min_eq_right (by omega), List.drop_length, List.drop_eq_nil_of_le (by omega)]
theorem sl_lst {m : ME} {lo hi : MO} {env : Env} {st s1 s2 s3 : S} {q : Nat} {ws : List W} {l h : Option Int} (e1 : m env st = .ok (.ref q) s1) (e2 : lo env s1 = .ok l s2) (e3 : hi env s2 = .ok h s3) (hq : Has s3 q (.lst ws)) : mSl m lo hi env st = .ok (.ref s3.sz) (s3.add (.lst (cutW ws l h))) := by
  unfold mSl
  rw [e1, R.bind_ok, e2, R.bind_ok, e3, R.bind_ok]
  unfold wSl
  dsimp only
  rw [hq.lst]
theorem oso_ok {m : ME} {env : Env} {st s : S} {d : Int} (e : m env st = .ok (.int d) s) : mOSo m env st = .ok (some d) s := by
  unfold mOSo
  rw [e]
  rfl
theorem ono_ok {env : Env} {st : S} : mONo env st = .ok none st := rfl
theorem sum_take_drop (f : Str → Nat) (l : List Str) {i j : Nat} (h : i ≤ j) : ((l.take i).map f).sum + ((l.drop j).map f).sum ≤ (l.map f).sum := by
  induction l generalizing i j with
  | nil => simp
  | cons x l ih =>
    cases i with
    | zero =>
      cases j with
      | zero => simp
      | succ j =>
        have := ih (i := 0) (j := j) (Nat.zero_le _)
        simp only [List.take_zero, List.map_nil, List.sum_nil, List.drop_succ_cons, List.map_cons, List.sum_cons] at *
        omega
    | succ i =>
      cases j with
      | zero => omega
      | succ j =>
        have := ih (i := i) (j := j) (by omega)
        simp only [List.take_succ_cons, List.drop_succ_cons, List.map_cons, List.sum_cons] at *
        omega
theorem iter_lst {ws : List W} {env : Env} {st : S} {i p : Nat} (h : env[i]? = some (some (.ref p))) (hp : Has st p (.lst ws)) : mIter (mVar i) env st = .ok (srcL p ws.length) st := by
  rw [ev_iter (v_ok h)]
  simp only [srcOf, hp.lst]
theorem lstL_at {st0 s : S} {m : Nat} {ws : List W} (h : Has st0 m (.lst ws)) (l : LeX [] st0 s) : (srcL m ws.length).ok s = true ∧ ∀ i, (srcL m ws.length).at_ i s = ws[i]? := by
  have h' := (l.has0 h).lst
  refine ⟨?_, fun i => ?_⟩
  · show (match lst? s m with | some ws' => ws'.length == ws.length | none => false) = true
    rw [h']
    exact beq_self_eq_true _
  · show ((lst? s m).bind fun ws' => ws'[i]?) = _
    rw [h']
    rfl
theorem lstL_has {s : S} {m : Nat} {ws : List W} (h : Has s m (.lst ws)) : (srcL m ws.length).ok s = true ∧ ∀ i, (srcL m ws.length).at_ i s = ws[i]? := lstL_at h .refl
theorem list_lst {st : S} {q : Nat} {ws : List W} (h : Has st q (.lst ws)) : wList [.ref q] st = .ok (.ref st.sz) (st.add (.lst ws)) := by
  unfold wList
  dsimp only
  rw [h.items]
theorem list_tup {st : S} {ws : List W} : wList [.tup ws] st = .ok (.ref st.sz) (st.add (.lst ws)) := (rfl)
theorem tuple_lst {st : S} {q : Nat} {ws : List W} (h : Has st q (.lst ws)) : wTuple [.ref q] st = .ok (.tup ws) st := by
  unfold wTuple
  simp only [h.items]
end MM

namespace K31
open PySem PySem.Spec PyProof.Rows L2 MM
structure Ad where
  OddsError : Addr
  BadCondition : Addr
  BadText : Addr
  TooMany : Addr
  Condition : Addr
def isP (a : Ad) : IsP := ⟨[a.Condition], [a.BadCondition, a.BadText, a.TooMany], ["NoneType", "bool", "int", "str", "tuple", "list", "dict"], [.ty "str", .ty "list", .ty "tuple", .cl a.Condition, .cl a.BadCondition, .cl a.BadText, .cl a.TooMany], Tg.beq⟩
def b_is_event (a : Ad) : MS :=
    (mSeq (mIfS (mOrB (mNotB (mT truth (mN (wIsi (isP a)) (mLCons (mVar 0) (mLCons (mC (.ty "str")) mLNil))))) (mNotB (mT asB (mChain wLe wLe (mC (.int 1)) (mN wLen (mLCons (mVar 0) mLNil)) (mC (.int 24)))))) (mRet (mC (.bl false))) mNext)
    (mRet (mN wAll (mLCons (mLc (mIter (mVar 0)) (gN 1) mYes (m2 wIn (mVar 1) (mC (.str "abcdefghijklmnopqrstuvwxyz0123456789?!@="))) [1]) mLNil))))
def M_is_event (a : Ad) : List W → S → R W := mFill 1 [] (mDef 2 (b_is_event a))
def b_is_word (a : Ad) : MS :=
    (mRet (mOrV (mN (M_is_event a) (mLCons (mVar 0) mLNil)) (mAndV (mN (wIsi (isP a)) (mLCons (mVar 0) (mLCons (mC (.ty "str")) mLNil))) (m2 wIn (mVar 0) (mN newTup (mLCons (mC (.str "*")) (mLCons (mC (.str "-")) mLNil)))))))
def M_is_word (a : Ad) : List W → S → R W := mFill 1 [] (mDef 1 (b_is_word a))
def b_is_pair (a : Ad) : MS :=
    (mRet (mAndV (mN (wIsi (isP a)) (mLCons (mVar 0) (mLCons (mN newTup (mLCons (mC (.ty "list")) (mLCons (mC (.ty "tuple")) mLNil))) mLNil))) (mAndV (m2 wEq (mN wLen (mLCons (mVar 0) mLNil)) (mC (.int 2))) (mAndV (mN (M_is_word a) (mLCons (m2 ixW (mVar 0) (mC (.int 0))) mLNil)) (mN (M_is_word a) (mLCons (m2 ixW (mVar 0) (mC (.int 1))) mLNil))))))
def M_is_pair (a : Ad) : List W → S → R W := mFill 1 [] (mDef 1 (b_is_pair a))
def b_Condition_init (a : Ad) : MS :=
    (mSeq (mFor (mSrc enumW (mLCons (mVar 1) mLNil)) (gT 2 (gsCons (gN 2) (gsCons (gN 3) gsNil))) (mIfS (mNotB (mT truth (mN (M_is_pair a) (mLCons (mVar 3) mLNil)))) (mRaise a.BadCondition ["at"] 1 0 [0] (mLCons (mVar 2) mLNil) mLNil) mNext))
    (mSeq (mIfS (mT asB (m2 wGt (mN wLen (mLCons (mVar 1) mLNil)) (mC (.int 40)))) (mRaise a.TooMany ["what", "most"] 2 0 [0, 1] (mLCons (mC (.str "pairs")) (mLCons (mC (.int 40)) mLNil)) mLNil) mNext)
    (mSetF [a.Condition] "pairs" (mN wTuple (mLCons (mLc (mIter (mVar 1)) (gA 2 (gsCons (gN 4) (gsCons (gN 5) gsNil))) mYes (mN newTup (mLCons (mVar 4) (mLCons (mVar 5) mLNil))) [4, 5]) mLNil)) (mVar 0))))
def M_Condition_init (a : Ad) : List W → S → R W := mStar 1 (mDef 6 (b_Condition_init a))
def b_pairs_in (a : Ad) : MS :=
    (mSeq (mIfS (mNotB (mT truth (mN (wIsi (isP a)) (mLCons (mVar 0) (mLCons (mC (.ty "str")) mLNil))))) (mRaise a.BadText ["line", "word"] 2 0 [0, 1] (mLCons (mC (.int 0)) (mLCons (mC (.int 0)) mLNil)) mLNil) mNext)
    (mSeq (mIfS (mT asB (m2 wEq (mVar 0) (mC (.str "free")))) (mRet (mN newLst mLNil)) mNext)
    (mSeq (mAsg (mBM "str" gSplit (mVar 0) (mLCons (mC (.str " ")) mLNil)) (gN 1))
    (mSeq (mFor (mSrc enumW (mLCons (mVar 1) mLNil)) (gT 2 (gsCons (gN 2) (gsCons (gN 3) gsNil))) (mSeq (mAsg (mIf (mT asB (m2 wEq (m2 wMod (mVar 2) (mC (.int 2))) (mC (.int 1)))) (m2 wEq (mVar 3) (mIf (mT asB (m2 wEq (m2 wMod (mVar 2) (mC (.int 4))) (mC (.int 1)))) (mC (.str ">")) (mC (.str ";")))) (mN (M_is_word a) (mLCons (mVar 3) mLNil))) (gN 4))
    (mIfS (mNotB (mT truth (mVar 4))) (mRaise a.BadText ["line", "word"] 2 0 [0, 1] (mLCons (mC (.int 0)) (mLCons (mVar 2) mLNil)) mLNil) mNext)))
    (mSeq (mIfS (mT asB (m2 wNe (m2 wMod (mN wLen (mLCons (mVar 1) mLNil)) (mC (.int 4))) (mC (.int 3)))) (mRaise a.BadText ["line", "word"] 2 0 [0, 1] (mLCons (mC (.int 0)) (mLCons (mN wLen (mLCons (mVar 1) mLNil)) mLNil)) mLNil) mNext)
    (mRet (mLc (mSrc rng3 (mLCons (mC (.int 0)) (mLCons (mN wLen (mLCons (mVar 1) mLNil)) (mLCons (mC (.int 4)) mLNil)))) (gN 2) mYes (mN newTup (mLCons (m2 ixW (mVar 1) (mVar 2)) (mLCons (m2 ixW (mVar 1) (m2 wAdd (mVar 2) (mC (.int 2)))) mLNil))) [2])))))))
def M_pairs_in (a : Ad) : List W → S → R W := mFill 1 [] (mDef 5 (b_pairs_in a))
def b_Condition_from_text (a : Ad) : MS :=
    (mSeq (mAsg (mN (M_pairs_in a) (mLCons (mVar 1) mLNil)) (gN 2))
    (mRet (mVS1 0 (mt1 a.Condition (mMake a.Condition (M_Condition_init a))) (mVar 2))))
def M_Condition_from_text (a : Ad) : List W → S → R W := mFill 2 [] (mDef 3 (b_Condition_from_text a))
def G_Condition_from_text (a : Ad) : List W → S → R W := mDef 3 (b_Condition_from_text a)
def b_Condition_eq (a : Ad) : MS :=
    (mRet (mAndV (mN (wIsi (isP a)) (mLCons (mVar 1) (mLCons (mC (.glo a.Condition)) mLNil))) (m2 wEq (m1 (getA [a.Condition] [] "pairs") (mVar 0)) (m1 (getA [a.Condition] [] "pairs") (mVar 1)))))
def M_Condition_eq (a : Ad) : List W → S → R W := mFill 2 [] (mDef 2 (b_Condition_eq a))
def b_Condition_len (a : Ad) : MS :=
    (mRet (mN wLen (mLCons (m1 (getA [a.Condition] [] "pairs") (mVar 0)) mLNil)))
def M_Condition_len (a : Ad) : List W → S → R W := mFill 1 [] (mDef 1 (b_Condition_len a))
def b_Condition_bool (a : Ad) : MS :=
    (mRet (mC (.bl true)))
def M_Condition_bool (a : Ad) : List W → S → R W := mFill 1 [] (mDef 1 (b_Condition_bool a))
def b_Condition_str (a : Ad) : MS :=
    (mSeq (mIfS (mT asB (m2 wEq (m1 (getA [a.Condition] [] "pairs") (mVar 0)) (mN newTup mLNil))) (mRet (mC (.str "free"))) mNext)
    (mRet (mBM "str" gJoin (mC (.str " ; ")) (mLCons (mLc (mIter (m1 (getA [a.Condition] [] "pairs") (mVar 0))) (gA 2 (gsCons (gN 1) (gsCons (gN 2) gsNil))) mYes (mJs [(m1 wFmt (mVar 1)), (mC (.str " > ")), (m1 wFmt (mVar 2))] Str.empty) [1, 2]) mLNil))))
def M_Condition_str (a : Ad) : List W → S → R W := mFill 1 [] (mDef 3 (b_Condition_str a))
def b_Condition_and (a : Ad) : MS :=
    (mSeq (mIfS (mNotB (mT truth (mN (wIsi (isP a)) (mLCons (mVar 1) (mLCons (mC (.glo a.Condition)) mLNil))))) (mRaise a.BadCondition ["at"] 1 0 [0] (mLCons (mC (.str "other")) mLNil) mLNil) mNext)
    (mSeq (mAsg (mLc (mIter (m1 (getA [a.Condition] [] "pairs") (mVar 1))) (gN 3) (mT asB (m2 wNotIn (mVar 3) (m1 (getA [a.Condition] [] "pairs") (mVar 0)))) (mVar 3) [3]) (gN 2))
    (mRet (mN (mMake a.Condition (M_Condition_init a)) (mLStar (m1 (getA [a.Condition] [] "pairs") (mVar 0)) (mLStar (mVar 2) mLNil))))))
def M_Condition_and (a : Ad) : List W → S → R W := mFill 2 [] (mDef 4 (b_Condition_and a))
def b__law_pen (a : Ad) : MS :=
    (mRet (mN newLst (mLCons (mN wList (mLCons (mSl (mVar 0) mONo (mOSo (mC (.int 63)))) mLNil)) (mLCons (mC (.int 0)) (mLCons (mC (.int 0)) mLNil)))))
def M__law_pen (a : Ad) : List W → S → R W := mFill 1 [] (mDef 1 (b__law_pen a))
def b__law_draw (a : Ad) : MS :=
    (mSeq (mIfS (mT asB (m2 wGt (m2 ixW (mVar 0) (mC (.int 2))) (mC (.int 0)))) (mSeq (mAsg (m2 wMod (mN wInt (mLCons (m2 ixW (mVar 0) (mC (.int 2))) mLNil)) (mVar 1)) (gN 2))
    (mSeq (mAsg (m2 wDiv (mN wInt (mLCons (m2 ixW (mVar 0) (mC (.int 2))) mLNil)) (mVar 1)) (gI (mVar 0) (mC (.int 2))))
    (mRet (mVar 2)))) mNext)
    (mSeq (mAsg (m2 ixW (mVar 0) (mC (.int 1))) (gN 3))
    (mSeq (mAsg (m2 wAdd (mVar 3) (mC (.int 1))) (gI (mVar 0) (mC (.int 1))))
    (mSeq (mAsg (m2 wAdd (m2 wMul (mC (.int 9419)) (mVar 3)) (mC (.int 733))) (gN 4))
    (mSeq (mIfS (mT asB (m2 wNe (m2 ixW (mVar 0) (mC (.int 0))) (mN newLst mLNil))) (mAsg (m2 ixW (m2 ixW (mVar 0) (mC (.int 0))) (m2 wMod (mN wInt (mLCons (mVar 3) mLNil)) (mN wLen (mLCons (m2 ixW (mVar 0) (mC (.int 0))) mLNil)))) (gN 4)) mNext)
    (mSeq (mIfS (mAndB (mT asB (m2 wLt (mVar 3) (mN wLen (mLCons (m2 ixW (mVar 0) (mC (.int 0))) mLNil)))) (mT asB (m2 wGe (mN wAbs (mLCons (mVar 4) mLNil)) (m2 wPow (mC (.int 10)) (mC (.int 18)))))) (mSeq (mAsg (m2 wAdd (m2 wMul (mC (.int 2)) (m2 wSub (mN wAbs (mLCons (mVar 4) mLNil)) (m2 wPow (mC (.int 10)) (mC (.int 18))))) (mN wInt (mLCons (m2 wLt (mVar 4) (mC (.int 0))) mLNil))) (gN 5))
    (mSeq (mAsg (m2 wDiv (mN wInt (mLCons (mVar 5) mLNil)) (mVar 1)) (gI (mVar 0) (mC (.int 2))))
    (mRet (m2 wMod (mN wInt (mLCons (mVar 5) mLNil)) (mVar 1))))) mNext)
    (mSeq (mAsg (m2 wMod (mN wInt (mLCons (m2 wPow (m2 wAdd (m2 wAdd (m2 wMod (mN wInt (mLCons (mVar 4) mLNil)) (mC (.int 2147483549))) (m2 wMul (mC (.int 9419)) (mVar 3))) (mC (.int 733))) (mC (.int 5))) mLNil)) (mC (.int 2147483629))) (gN 6))
    (mSeq (mAsg (m2 wMod (mN wInt (mLCons (m2 wPow (m2 wAdd (m2 wAdd (m2 wMul (mVar 6) (m2 wAdd (m2 wMul (mC (.int 2)) (mVar 3)) (mC (.int 373)))) (m2 wMul (m2 wMul (mC (.int 9419)) (mVar 3)) (mVar 3))) (mC (.int 97))) (mC (.int 3))) mLNil)) (mC (.int 2147483587))) (gN 6))
    (mRet (m2 wMod (mN wInt (mLCons (m2 wDiv (mVar 6) (mC (.int 32))) mLNil)) (mVar 1)))))))))))
def M__law_draw (a : Ad) : List W → S → R W := mFill 2 [] (mDef 7 (b__law_draw a))
def b__law_pick (a : Ad) : MS :=
    (mRet (m2 ixW (mVar 1) (mN (M__law_draw a) (mLCons (mVar 0) (mLCons (mN wLen (mLCons (mVar 1) mLNil)) mLNil)))))
def M__law_pick (a : Ad) : List W → S → R W := mFill 2 [] (mDef 2 (b__law_pick a))
def b__law_heard (a : Ad) (g : Addr) (mc : S → R W) : MS :=
    (mSeq (mPar 1 2 (mLCons (mC .non) (mLCons (mN newLst mLNil) mLNil)))
    (mSeq (mTry [a.BadCondition, a.BadText, a.TooMany] (fun _ => true) (fun e k => e.set 3 (some (.ref k))) (fun e => e.set 3 none)
    (mRet (mN newLst (mLCons (mAct 0 g mc) mLNil))) (mAsg (mVar 3) (gN 1)))
    (mSeq (mIfS (mT truth (mN (wIsi (isP a)) (mLCons (mVar 1) (mLCons (mC (.glo a.BadCondition)) mLNil)))) (mExpr (mBM "list" gAppend (mVar 2) (mLCons (mN newTup (mLCons (mC (.str "condition")) (mLCons (m1 (getA [] [a.BadCondition] "at") (mVar 1)) mLNil))) mLNil))) mNext)
    (mSeq (mIfS (mT truth (mN (wIsi (isP a)) (mLCons (mVar 1) (mLCons (mC (.glo a.BadText)) mLNil)))) (mExpr (mBM "list" gAppend (mVar 2) (mLCons (mN newTup (mLCons (mC (.str "text")) (mLCons (m1 (getA [] [a.BadText] "line") (mVar 1)) (mLCons (m1 (getA [] [a.BadText] "word") (mVar 1)) mLNil)))) mLNil))) mNext)
    (mSeq (mIfS (mT truth (mN (wIsi (isP a)) (mLCons (mVar 1) (mLCons (mC (.glo a.TooMany)) mLNil)))) (mExpr (mBM "list" gAppend (mVar 2) (mLCons (mN newTup (mLCons (mC (.str "many")) (mLCons (m1 (getA [] [a.TooMany] "what") (mVar 1)) (mLCons (m1 (getA [] [a.TooMany] "most") (mVar 1)) mLNil)))) mLNil))) mNext)
    (mRet (mIf (mT asB (m2 wEq (mN wLen (mLCons (mVar 2) mLNil)) (mC (.int 1)))) (m2 ixW (mVar 2) (mC (.int 0))) (mN newTup (mLCons (mC (.str "odd")) mLNil)))))))))
def L__law_heard (a : Ad) : Addr → (S → R W) → S → R W := fun g mc => mDef 4 (b__law_heard a g mc) [.glo g]
def b__law_words (a : Ad) : MS :=
    (mSeq (mAsg (mN newLst (mLCons (mC (.str "*")) (mLCons (mC (.str "-")) (mLCons (mC (.str "go")) (mLCons (mC (.str "a?")) (mLCons (mC (.str "0")) (mLCons (mC (.str "x!")) (mLCons (m2 wMulS (mC (.str "a")) (mC (.int 24))) (mLCons (mC (.str "stay=2")) (mLCons (mC (.str "m@n")) mLNil)))))))))) (gN 2))
    (mRet (mLc (mSrc rng1 (mLCons (mN (M__law_draw a) (mLCons (mVar 0) (mLCons (m2 wAdd (mVar 1) (mC (.int 1))) mLNil))) mLNil)) (gN 3) mYes (mN newTup (mLCons (mN (M__law_pick a) (mLCons (mVar 0) (mLCons (mVar 2) mLNil))) (mLCons (mN (M__law_pick a) (mLCons (mVar 0) (mLCons (mVar 2) mLNil))) mLNil))) [3])))
def M__law_words (a : Ad) : List W → S → R W := mFill 2 [] (mDef 4 (b__law_words a))
def b__law_read (a : Ad) : MS :=
    (mRet (mLam (L__law_heard a) (mCM a.Condition (M_Condition_from_text a) (mLCons (mVar 0) mLNil))))
def M__law_read (a : Ad) : List W → S → R W := mFill 1 [] (mDef 1 (b__law_read a))
def b__law_all (a : Ad) : MS :=
    (mSeq (mAsg (mN (mMake a.Condition (M_Condition_init a)) mLNil) (gN 1))
    (mSeq (mFor (mIter (mVar 0)) (gN 2) (mAsg (m2 (wBinX (isP a) (mt1 a.Condition (M_Condition_and a))) (mVar 1) (mN (mMake a.Condition (M_Condition_init a)) (mLCons (mVar 2) mLNil))) (gN 1)))
    (mRet (mVar 1))))
def M__law_all (a : Ad) : List W → S → R W := mFill 1 [] (mDef 3 (b__law_all a))
def b__law_is_word (a : Ad) : MS :=
    (mSeq (mIfS (mT asB (m2 wIn (mVar 0) (mN newTup (mLCons (mC (.str "*")) (mLCons (mC (.str "-")) mLNil))))) (mRet (mC (.bl true))) mNext)
    (mRet (mAndV (mChain wLe wLe (mC (.int 1)) (mN wLen (mLCons (mVar 0) mLNil)) (mC (.int 24))) (m2 wEq (mLc (mIter (mVar 0)) (gN 1) (mT asB (m2 wNotIn (mVar 1) (mC (.str "abcdefghijklmnopqrstuvwxyz0123456789?!@=")))) (mVar 1) [1]) (mN newLst mLNil)))))
def M__law_is_word (a : Ad) : List W → S → R W := mFill 1 [] (mDef 2 (b__law_is_word a))
def b__law_due (a : Ad) : MS :=
    (mSeq (mIfS (mT asB (m2 wEq (mVar 0) (mC (.str "free")))) (mRet (mC .non)) mNext)
    (mSeq (mAsg (mBM "str" gSplit (mVar 0) (mLCons (mC (.str " ")) mLNil)) (gN 1))
    (mSeq (mFor (mSrc enumW (mLCons (mVar 1) mLNil)) (gT 2 (gsCons (gN 2) (gsCons (gN 3) gsNil))) (mIfS (mOrB (mAndB (mInR (mVar 2) (mLCons (mC (.int 0)) (mLCons (mN wLen (mLCons (mVar 1) mLNil)) (mLCons (mC (.int 2)) mLNil)))) (mNotB (mT truth (mN (M__law_is_word a) (mLCons (mVar 3) mLNil))))) (mOrB (mAndB (mInR (mVar 2) (mLCons (mC (.int 1)) (mLCons (mN wLen (mLCons (mVar 1) mLNil)) (mLCons (mC (.int 4)) mLNil)))) (mT asB (m2 wNe (mVar 3) (mC (.str ">"))))) (mAndB (mInR (mVar 2) (mLCons (mC (.int 3)) (mLCons (mN wLen (mLCons (mVar 1) mLNil)) (mLCons (mC (.int 4)) mLNil)))) (mT asB (m2 wNe (mVar 3) (mC (.str ";"))))))) (mRet (mN newTup (mLCons (mC (.str "text")) (mLCons (mC (.int 0)) (mLCons (mVar 2) mLNil))))) mNext))
    (mRet (mIf (mInR (mN wLen (mLCons (mVar 1) mLNil)) (mLCons (mC (.int 3)) (mLCons (m2 wAdd (mN wLen (mLCons (mVar 1) mLNil)) (mC (.int 1))) (mLCons (mC (.int 4)) mLNil)))) (mC .non) (mN newTup (mLCons (mC (.str "text")) (mLCons (mC (.int 0)) (mLCons (mN wLen (mLCons (mVar 1) mLNil)) mLNil)))))))))
def M__law_due (a : Ad) : List W → S → R W := mFill 1 [] (mDef 4 (b__law_due a))
def b__law_texts_right (a : Ad) : MS :=
    (mSeq (mAsg (mIf (mT asB (m2 wNe (mVar 1) (mN newLst mLNil))) (mBM "str" gJoin (mC (.str " ; ")) (mLCons (mLc (mIter (mVar 1)) (gA 2 (gsCons (gN 13) (gsCons (gN 14) gsNil))) mYes (m2 wAdd (m2 wAdd (mVar 13) (mC (.str " > "))) (mVar 14)) [13, 14]) mLNil)) (mC (.str "free"))) (gN 12))
    (mSeq (mAsg (mN (M__law_read a) (mLCons (mVar 12) mLNil)) (gN 2))
    (mSeq (mIfS (mOrB (mNotB (mT truth (mN (wIsi (isP a)) (mLCons (mVar 2) (mLCons (mC (.ty "list")) mLNil))))) (mOrB (mT asB (m2 wNe (mN (wStrX (mt1 a.Condition (M_Condition_str a))) (mLCons (m2 ixW (mVar 2) (mC (.int 0))) mLNil)) (mVar 12))) (mT asB (m2 wNe (mN wList (mLCons (m1 (getA [a.Condition] [] "pairs") (m2 ixW (mVar 2) (mC (.int 0)))) mLNil)) (mVar 1))))) (mRet (mC (.bl false))) mNext)
    (mSeq (mAsg (mN newLst (mLCons (mC (.str "")) (mLCons (mC (.str ">")) (mLCons (mC (.str ";")) (mLCons (mC (.str "*")) (mLCons (mC (.str "-")) (mLCons (mC (.str "go")) (mLCons (mC (.str "Go")) (mLCons (mC (.str "free")) (mLCons (mC (.str "a b")) (mLCons (m2 wMulS (mC (.str "a")) (mC (.int 25))) (mLCons (mC (.str ">>")) (mLCons (mC (.str "~")) mLNil))))))))))))) (gN 3))
    (mSeq (mFor (mSrc rng1 (mLCons (mC (.int 6)) mLNil)) (gN 4) (mSeq (mAsg (mBM "str" gSplit (mVar 12) (mLCons (mC (.str " ")) mLNil)) (gN 5))
    (mSeq (mPar 6 7 (mLCons (mN (M__law_draw a) (mLCons (mVar 0) (mLCons (m2 wAdd (mN wLen (mLCons (mVar 5) mLNil)) (mC (.int 1))) mLNil))) (mLCons (mN (M__law_draw a) (mLCons (mVar 0) (mLCons (mC (.int 3)) mLNil))) mLNil)))
    (mSeq (mAsg (mBM "str" gJoin (mC (.str " ")) (mLCons (m2 wAdd (m2 wAdd (mSl (mVar 5) mONo (mOSo (mVar 6))) (m2 wMul (mN newLst (mLCons (mN (M__law_pick a) (mLCons (mVar 0) (mLCons (mVar 3) mLNil))) mLNil)) (mN wInt (mLCons (m2 wGt (mVar 7) (mC (.int 0))) mLNil)))) (mSl (mVar 5) (mOSo (m2 wAdd (mVar 6) (mN wInt (mLCons (m2 wLt (mVar 7) (mC (.int 2))) mLNil)))) mONo)) mLNil)) (gN 8))
    (mSeq (mPar 9 10 (mLCons (mN (M__law_due a) (mLCons (mVar 8) mLNil)) (mLCons (mN (M__law_read a) (mLCons (mVar 8) mLNil)) mLNil)))
    (mIfS (mOrB (mAndB (mT asB (m2 wNotN (mVar 9) (mC .non))) (mT asB (m2 wNe (mN wRepr (mLCons (mVar 10) mLNil)) (mN wRepr (mLCons (mVar 9) mLNil))))) (mAndB (mT asB (m2 wIsN (mVar 9) (mC .non))) (mOrB (mNotB (mT truth (mN (wIsi (isP a)) (mLCons (mVar 10) (mLCons (mC (.ty "list")) mLNil))))) (mT asB (m2 wNe (mN (wStrX (mt1 a.Condition (M_Condition_str a))) (mLCons (m2 ixW (mVar 10) (mC (.int 0))) mLNil)) (mVar 8)))))) (mRet (mC (.bl false))) mNext))))))
    (mSeq (mAsg (mN (M__law_pick a) (mLCons (mVar 0) (mLCons (mN newLst (mLCons (mC .non) (mLCons (mC (.int 5)) (mLCons (mN newLst (mLCons (mC (.str "free")) mLNil)) (mLCons (mC (.bl true)) (mLCons (m2 ixW (mVar 2) (mC (.int 0))) (mLCons (mN newTup mLNil) mLNil))))))) mLNil))) (gN 11))
    (mRet (mAndV (m2 wEq (mN wRepr (mLCons (mN (M__law_read a) (mLCons (mVar 11) mLNil)) mLNil)) (mN wRepr (mLCons (mN newTup (mLCons (mC (.str "text")) (mLCons (mC (.int 0)) (mLCons (mC (.int 0)) mLNil)))) mLNil))) (m2 wEq (mN wRepr (mLCons (m1 (getA [a.Condition] [] "pairs") (m2 ixW (mLam (L__law_heard a) (mCMK a.Condition 1 [0, 1] (G_Condition_from_text a) (mLCons (mVar 12) mLNil))) (mC (.int 0)))) mLNil)) (mN wRepr (mLCons (mN wTuple (mLCons (mVar 1) mLNil)) mLNil)))))))))))
def M__law_texts_right (a : Ad) : List W → S → R W := mFill 2 [] (mDef 15 (b__law_texts_right a))
def b__law_refused_right (a : Ad) : MS :=
    (mSeq (mAsg (mN newLst (mLCons (mC .non) (mLCons (mC (.str "go")) (mLCons (mN newTup (mLCons (mC (.str "go")) mLNil)) (mLCons (mN newTup (mLCons (mC (.str "go")) (mLCons (mC (.str "stay")) (mLCons (mC (.str "go")) mLNil)))) (mLCons (mN newTup (mLCons (mC (.str "go")) (mLCons (mC (.str "")) mLNil))) (mLCons (mN newTup (mLCons (mC (.str "go")) (mLCons (mC .non) mLNil))) (mLCons (mN newTup (mLCons (mC (.str "Go")) (mLCons (mC (.str "go")) mLNil))) (mLCons newDic (mLCons (mC (.int 5)) (mLCons (mN newTup (mLCons (mC (.str "go")) (mLCons (m2 wMulS (mC (.str "a")) (mC (.int 25))) mLNil))) (mLCons (mN newTup (mLCons (mC (.str "**")) (mLCons (mC (.str "go")) mLNil))) (mLCons (mN newLst (mLCons (mC (.str "go")) (mLCons (mC (.int 7)) mLNil))) mLNil))))))))))))) (gN 1))
    (mSeq (mAsg (mN newTup (mLCons (mN (M__law_pick a) (mLCons (mVar 0) (mLCons (mVar 1) mLNil))) (mLCons (mN (M__law_pick a) (mLCons (mVar 0) (mLCons (mVar 1) mLNil))) (mLCons (mN newTup (mLCons (mC (.str "go")) (mLCons (mC (.str "-")) mLNil))) mLNil)))) (gT 3 (gsCons (gN 7) (gsCons (gN 4) (gsCons (gN 6) gsNil)))))
    (mSeq (mAsg (mN newLst (mLCons (mLam (L__law_heard a) (mN (mMake a.Condition (M_Condition_init a)) (mLCons (mVar 6) (mLCons (mVar 7) (mLCons (mVar 4) mLNil))))) mLNil)) (gN 2))
    (mSeq (mExpr (mBM "list" gAppend (mVar 2) (mLCons (mLam (L__law_heard a) (mN (mMake a.Condition (M_Condition_init a)) (mLCons (mVar 7) mLNil))) mLNil)))
    (mSeq (mExpr (mBM "list" gAppend (mVar 2) (mLCons (mLam (L__law_heard a) (m2 (wBinX (isP a) (mt1 a.Condition (M_Condition_and a))) (mN (mMake a.Condition (M_Condition_init a)) (mLCons (mVar 6) mLNil)) (mVar 7))) mLNil)))
    (mSeq (mAsg (mN (M__law_all a) (mLCons (mLc (mSrc rng1 (mLCons (mC (.int 40)) mLNil)) (gN 8) mYes (mN newTup (mLCons (m2 wAdd (mC (.str "e")) (mN (wStrX (mt1 a.Condition (M_Condition_str a))) (mLCons (mVar 8) mLNil))) (mLCons (mC (.str "go")) mLNil))) [8]) mLNil)) (gN 5))
    (mSeq (mExpr (mBM "list" gAppend (mVar 2) (mLCons (mLam (L__law_heard a) (m2 (wBinX (isP a) (mt1 a.Condition (M_Condition_and a))) (mVar 5) (mN (mMake a.Condition (M_Condition_init a)) (mLCons (mN newTup (mLCons (mC (.str "more")) (mLCons (mC (.str "go")) mLNil))) mLNil)))) mLNil)))
    (mSeq (mExpr (mBM "list" gAppend (mVar 2) (mLCons (mLam (L__law_heard a) (mCM a.Condition (M_Condition_from_text a) (mLCons (m2 wAdd (mN (wStrX (mt1 a.Condition (M_Condition_str a))) (mLCons (mVar 5) mLNil)) (mC (.str " ; more > go"))) mLNil))) mLNil)))
    (mSeq (mAsg (mN newLst (mLCons (mN newTup (mLCons (mC (.str "condition")) (mLCons (mC (.int 1)) mLNil))) (mLCons (mN newTup (mLCons (mC (.str "condition")) (mLCons (mC (.int 0)) mLNil))) (mLCons (mN newTup (mLCons (mC (.str "condition")) (mLCons (mC (.str "other")) mLNil))) (mLCons (mN newTup (mLCons (mC (.str "many")) (mLCons (mC (.str "pairs")) (mLCons (mC (.int 40)) mLNil)))) (mLCons (mN newTup (mLCons (mC (.str "many")) (mLCons (mC (.str "pairs")) (mLCons (mC (.int 40)) mLNil)))) mLNil)))))) (gN 3))
    (mRet (mAndV (m2 wEq (mVar 2) (mVar 3)) (mAndV (m2 wEq (mN (wLenX (mt1 a.Condition (M_Condition_len a))) (mLCons (mVar 5) mLNil)) (mC (.int 40))) (mAndV (m2 (wEqX (isP a) (mt1 a.Condition (M_Condition_eq a))) (m2 (wBinX (isP a) (mt1 a.Condition (M_Condition_and a))) (mVar 5) (mVar 5)) (mVar 5)) (m2 wEq (mN (wLenX (mt1 a.Condition (M_Condition_len a))) (mLCons (m2 (wBinX (isP a) (mt1 a.Condition (M_Condition_and a))) (mVar 5) (mN (mMake a.Condition (M_Condition_init a)) (mLCons (mN newTup (mLCons (mC (.str "e3")) (mLCons (mC (.str "go")) mLNil))) mLNil))) mLNil)) (mC (.int 40))))))))))))))))
def M__law_refused_right (a : Ad) : List W → S → R W := mFill 1 [] (mDef 9 (b__law_refused_right a))
def b_law (a : Ad) : MS :=
    (mSeq (mAsg (mN (M__law_pen a) (mLCons (mVar 0) mLNil)) (gN 1))
    (mSeq (mFor (mSrc rng1 (mLCons (mC (.int 4)) mLNil)) (gN 2) (mSeq (mAsg (mN newTup (mLCons (mN (M__law_words a) (mLCons (mVar 1) (mLCons (mC (.int 4)) mLNil))) (mLCons (mN (M__law_words a) (mLCons (mVar 1) (mLCons (mC (.int 3)) mLNil))) mLNil))) (gT 2 (gsCons (gN 3) (gsCons (gN 4) gsNil))))
    (mSeq (mPar 5 6 (mLCons (mIf (mT asB (m2 wNe (mVar 3) (mN newLst mLNil))) (m2 ixW (mN (M__law_read a) (mLCons (mBM "str" gJoin (mC (.str " ; ")) (mLCons (mLc (mIter (mVar 3)) (gA 2 (gsCons (gN 14) (gsCons (gN 15) gsNil))) mYes (m2 wAdd (m2 wAdd (mVar 14) (mC (.str " > "))) (mVar 15)) [14, 15]) mLNil)) mLNil)) (mC (.int 0))) (mN (mMake a.Condition (M_Condition_init a)) mLNil)) (mLCons (mN (M__law_all a) (mLCons (mVar 4) mLNil)) mLNil)))
    (mSeq (mIfS (mOrB (mT asB (m2 wNe (mN wList (mLCons (m1 (getA [a.Condition] [] "pairs") (mVar 5)) mLNil)) (mVar 3))) (mOrB (mNotB (mT truth (mN (wIsi (isP a)) (mLCons (m1 (getA [a.Condition] [] "pairs") (mVar 5)) (mLCons (mC (.ty "tuple")) mLNil))))) (mOrB (mT asB (m2 wNe (mN wRepr (mLCons (mN (wLenX (mt1 a.Condition (M_Condition_len a))) (mLCons (mVar 5) mLNil)) mLNil)) (mN wRepr (mLCons (mN wLen (mLCons (mVar 3) mLNil)) mLNil)))) (mT asB (m2 wNotBl (mN (wBoolX (mt1 a.Condition (M_Condition_bool a))) (mLCons (mVar 5) mLNil)) (mC (.bl true))))))) (mRet (mC (.bl false))) mNext)
    (mSeq (mAsg (m2 wAdd (mVar 3) (mLc (mSrc enumW (mLCons (mVar 4) mLNil)) (gA 2 (gsCons (gN 13) (gsCons (gN 7) gsNil))) (mT asB (m2 wNotIn (mVar 7) (mVar 3))) (mVar 7) [13, 7])) (gN 8))
    (mSeq (mPar 9 10 (mLCons (m2 (wBinX (isP a) (mt1 a.Condition (M_Condition_and a))) (mVar 5) (mVar 6)) (mLCons (mN newLst mLNil) mLNil)))
    (mSeq (mFor (mIter (mVar 4)) (gN 7) (mAsg (m2 wAdd (mVar 10) (m2 wMul (mN newLst (mLCons (mVar 7) mLNil)) (mN wInt (mLCons (m2 wNotIn (mVar 7) (mVar 10)) mLNil)))) (gN 10)))
    (mSeq (mIfS (mOrB (mT asB (m2 wNe (mN wList (mLCons (m1 (getA [a.Condition] [] "pairs") (mVar 6)) mLNil)) (mVar 10))) (mOrB (mT asB (m2 wNe (mN wList (mLCons (m1 (getA [a.Condition] [] "pairs") (mVar 9)) mLNil)) (m2 wAdd (mVar 3) (mLc (mIter (mVar 10)) (gN 7) (mT asB (m2 wNotIn (mVar 7) (mVar 3))) (mVar 7) [7])))) (mOrB (mT asB (m2 wLt (mN wLen (mLCons (mVar 8) mLNil)) (mN (wLenX (mt1 a.Condition (M_Condition_len a))) (mLCons (mVar 9) mLNil)))) (mT asB (m2 wNe (mN wList (mLCons (m1 (getA [a.Condition] [] "pairs") (mVar 5)) mLNil)) (mVar 3)))))) (mRet (mC (.bl false))) mNext)
    (mSeq (mIfS (mOrB (mT asB (m2 wNe (m2 (wEqX (isP a) (mt1 a.Condition (M_Condition_eq a))) (mVar 5) (mVar 6)) (m2 wEq (mVar 3) (mVar 10)))) (mOrB (mT asB (m2 (wEqX (isP a) (mt1 a.Condition (M_Condition_eq a))) (mVar 5) (mVar 3))) (mOrB (mT asB (m2 (wEqX (isP a) (mt1 a.Condition (M_Condition_eq a))) (mVar 5) (mN (wStrX (mt1 a.Condition (M_Condition_str a))) (mLCons (mVar 5) mLNil)))) (mT asB (m2 (wNeX (isP a) (mt1 a.Condition (M_Condition_eq a))) (mN (mMake a.Condition (M_Condition_init a)) (mLCons (mN newLst (mLCons (mC (.str "go")) (mLCons (mC (.str "-")) mLNil))) mLNil)) (mN (mMake a.Condition (M_Condition_init a)) (mLCons (mN newTup (mLCons (mC (.str "go")) (mLCons (mC (.str "-")) mLNil))) mLNil))))))) (mRet (mC (.bl false))) mNext)
    (mIfS (mOrB (mNotB (mT truth (mN (M__law_texts_right a) (mLCons (mVar 1) (mLCons (mVar 3) mLNil))))) (mNotB (mT truth (mN (M__law_refused_right a) (mLCons (mVar 1) mLNil))))) (mRet (mC (.bl false))) mNext))))))))))
    (mSeq (mAsg (mN newLst (mLCons (mC (.str "go")) (mLCons (mC (.str "stay")) mLNil))) (gN 11))
    (mSeq (mAsg (mN (mMake a.Condition (M_Condition_init a)) (mLCons (mVar 11) mLNil)) (gN 12))
    (mSeq (mExpr (mBM "list" gAppend (mVar 11) (mLCons (mC (.str "go")) mLNil)))
    (mRet (mAndV (m2 wEq (m1 (getA [a.Condition] [] "pairs") (mVar 12)) (mN newTup (mLCons (mN newTup (mLCons (mC (.str "go")) (mLCons (mC (.str "stay")) mLNil))) mLNil))) (mAndV (m2 wEq (mN (wStrX (mt1 a.Condition (M_Condition_str a))) (mLCons (mN (mMake a.Condition (M_Condition_init a)) mLNil) mLNil)) (mC (.str "free"))) (mAndV (mN (wBoolX (mt1 a.Condition (M_Condition_bool a))) (mLCons (mN (mMake a.Condition (M_Condition_init a)) mLNil) mLNil)) (m2 wEq (mN (wLenX (mt1 a.Condition (M_Condition_len a))) (mLCons (mN (mMake a.Condition (M_Condition_init a)) mLNil) mLNil)) (mC (.int 0))))))))))))
def M_law (a : Ad) : List W → S → R W := mFill 1 [] (mDef 16 (b_law a))
def G_law (a : Ad) : List W → S → R W := mDef 16 (b_law a)
end K31

namespace K31
open PySem PySem.Spec PyProof.Rows L2 MM
def heardTail (a : Ad) : MS := (mSeq (mIfS (mT truth (mN (wIsi (isP a)) (mLCons (mVar 1) (mLCons (mC (.glo a.BadCondition)) mLNil)))) (mExpr (mBM "list" gAppend (mVar 2) (mLCons (mN newTup (mLCons (mC (.str "condition")) (mLCons (m1 (getA [] [a.BadCondition] "at") (mVar 1)) mLNil))) mLNil))) mNext)
    (mSeq (mIfS (mT truth (mN (wIsi (isP a)) (mLCons (mVar 1) (mLCons (mC (.glo a.BadText)) mLNil)))) (mExpr (mBM "list" gAppend (mVar 2) (mLCons (mN newTup (mLCons (mC (.str "text")) (mLCons (m1 (getA [] [a.BadText] "line") (mVar 1)) (mLCons (m1 (getA [] [a.BadText] "word") (mVar 1)) mLNil)))) mLNil))) mNext)
    (mSeq (mIfS (mT truth (mN (wIsi (isP a)) (mLCons (mVar 1) (mLCons (mC (.glo a.TooMany)) mLNil)))) (mExpr (mBM "list" gAppend (mVar 2) (mLCons (mN newTup (mLCons (mC (.str "many")) (mLCons (m1 (getA [] [a.TooMany] "what") (mVar 1)) (mLCons (m1 (getA [] [a.TooMany] "most") (mVar 1)) mLNil)))) mLNil))) mNext)
    (mRet (mIf (mT asB (m2 wEq (mN wLen (mLCons (mVar 2) mLNil)) (mC (.int 1)))) (m2 ixW (mVar 2) (mC (.int 0))) (mN newTup (mLCons (mC (.str "odd")) mLNil)))))))
def isX (a : Ad) (C : Addr) : Bool := decide (C ∈ [a.BadCondition, a.BadText, a.TooMany])
theorem tail_env (a : Ad) (x y z : Option W) (o : Option W) (s : S) : (heardTail a [o, x, y, z] s).call = (heardTail a [none, x, y, z] s).call := by
  have z0 : BlS (heardTail a) :=
    bs_seq (bs_if (bl_T (bl_mN (bl_cons bl_var (bl_cons bl_c bl_nil)))) (bs_expr (bl_bm bl_var (bl_cons (bl_mN (bl_cons bl_c (bl_cons (bl_m1 bl_var) bl_nil))) bl_nil))) bs_next)
    (bs_seq (bs_if (bl_T (bl_mN (bl_cons bl_var (bl_cons bl_c bl_nil)))) (bs_expr (bl_bm bl_var (bl_cons (bl_mN (bl_cons bl_c (bl_cons (bl_m1 bl_var) (bl_cons (bl_m1 bl_var) bl_nil)))) bl_nil))) bs_next)
    (bs_seq (bs_if (bl_T (bl_mN (bl_cons bl_var (bl_cons bl_c bl_nil)))) (bs_expr (bl_bm bl_var (bl_cons (bl_mN (bl_cons bl_c (bl_cons (bl_m1 bl_var) (bl_cons (bl_m1 bl_var) bl_nil)))) bl_nil))) bs_next)
    (bs_ret (bl_if (bl_T (bl_m2 (bl_mN (bl_cons bl_var bl_nil)) bl_c)) (bl_m2 bl_var bl_c) (bl_mN (bl_cons bl_c bl_nil))))))
  have e : heardTail a [none, x, y, z] s = (heardTail a [o, x, y, z] s).mapE (·.set 0 none) := z0 [o, x, y, z] s
  rw [e, RS.call_mapE]
theorem heard_eq (a : Ad) (f : Addr) (mc : S → R W) (st : S) : L__law_heard a f mc st = match mc (st.add (.lst [])) with
    | .ok w s => .ok (.ref s.sz) (s.add (.lst [w]))
    | .exc C fs s => if C ∈ [a.BadCondition, a.BadText, a.TooMany] then (heardTail a [none, some (.ref s.sz), some (.ref st.sz), none] (s.add (.exc C fs))).call else .bad
    | .bad => .bad := by
  have e : L__law_heard a f mc st = ((mSeq (mTry [a.BadCondition, a.BadText, a.TooMany] (fun _ => true) (fun e k => e.set 3 (some (.ref k))) (fun e => e.set 3 none)
    (mRet (mN newLst (mLCons (mAct 0 f mc) mLNil))) (mAsg (mVar 3) (gN 1))) (heardTail a)) [some (.glo f), some .non, some (.ref st.sz), none] (st.add (.lst []))).call := rfl
  rw [e]
  unfold mSeq mTry
  simp only [mRet, mN, mLCons, mAct, mLNil, List.getElem?_cons_zero, if_true]
  cases h : mc (st.add (.lst [])) with
  | ok w s => 
    simp [R.toS, RS.call, newLst, h]
  | exc C fs s =>
    simp only [R.bind_exc, R.toS, h]
    by_cases hc : C ∈ [a.BadCondition, a.BadText, a.TooMany]
    · simp only [hc, if_true]
      exact tail_env a (some (.ref s.sz)) (some (.ref st.sz)) none (some (.glo f)) _
    · simp only [hc, if_false]
      rfl
  | bad => simp [R.toS, RS.call, h]
theorem hM__law_heard (a : Ad) (f : Addr) (mc : S → R W) (st : S) : L__law_heard a f mc st = L__law_heard a 0 mc st := by
  rw [heard_eq, heard_eq]
end K31

namespace K31
open PySem PySem.Spec PyProof.Rows L2 MM
def top (i : Nat) : Stmt := PySem.Challenge.pw_longchances_k31_conditions_made_and_thei.main.body.getD i (.Pass ⟨0, 0, 0, 0⟩)
@[reducible] def adr (K : Frag) : Ad := ⟨(He.ga K "OddsError"), (He.ga K "BadCondition"), (He.ga K "BadText"), (He.ga K "TooMany"), (He.ga K "Condition")⟩
def d_is_event : DefA := ⟨fun K => (He.ga K "is_event"), "is_event", "is_event", defArgs (top 4), defBody (top 4), defScope (top 4), [], []⟩
def d_is_word : DefA := ⟨fun K => (He.ga K "is_word"), "is_word", "is_word", defArgs (top 15), defBody (top 15), defScope (top 15), [], []⟩
def d_is_pair : DefA := ⟨fun K => (He.ga K "is_pair"), "is_pair", "is_pair", defArgs (top 16), defBody (top 16), defScope (top 16), [], []⟩
def d_BadCondition_init : DefA := ⟨fun K => (He.ma K (He.ga K "BadCondition") "__init__"), "__init__", "BadCondition.__init__", defArgs (inClass (top 7) 0), defBody (inClass (top 7) 0), defScope (inClass (top 7) 0), [], []⟩
def d_BadText_init : DefA := ⟨fun K => (He.ma K (He.ga K "BadText") "__init__"), "__init__", "BadText.__init__", defArgs (inClass (top 8) 0), defBody (inClass (top 8) 0), defScope (inClass (top 8) 0), [], []⟩
def d_TooMany_init : DefA := ⟨fun K => (He.ma K (He.ga K "TooMany") "__init__"), "__init__", "TooMany.__init__", defArgs (inClass (top 9) 0), defBody (inClass (top 9) 0), defScope (inClass (top 9) 0), [], []⟩
def d_Condition_init : DefA := ⟨fun K => (He.ma K (He.ga K "Condition") "__init__"), "__init__", "Condition.__init__", defArgs (inClass (top 17) 0), defBody (inClass (top 17) 0), defScope (inClass (top 17) 0), [], []⟩
def d_pairs_in : DefA := ⟨fun K => (He.ga K "pairs_in"), "pairs_in", "pairs_in", defArgs (top 18), defBody (top 18), defScope (top 18), [], []⟩
def d_Condition_from_text : DefA := ⟨fun K => (cmG K (cmP K (He.ga K "Condition") "from_text")), "from_text", "Condition.from_text", defArgs (inClass (top 17) 1), defBody (inClass (top 17) 1), defScope (inClass (top 17) 1), [], []⟩
def d_Condition_eq : DefA := ⟨fun K => (He.ma K (He.ga K "Condition") "__eq__"), "__eq__", "Condition.__eq__", defArgs (inClass (top 17) 3), defBody (inClass (top 17) 3), defScope (inClass (top 17) 3), [], []⟩
def d_Condition_len : DefA := ⟨fun K => (He.ma K (He.ga K "Condition") "__len__"), "__len__", "Condition.__len__", defArgs (inClass (top 17) 4), defBody (inClass (top 17) 4), defScope (inClass (top 17) 4), [], []⟩
def d_Condition_bool : DefA := ⟨fun K => (He.ma K (He.ga K "Condition") "__bool__"), "__bool__", "Condition.__bool__", defArgs (inClass (top 17) 5), defBody (inClass (top 17) 5), defScope (inClass (top 17) 5), [], []⟩
def d_Condition_str : DefA := ⟨fun K => (He.ma K (He.ga K "Condition") "__str__"), "__str__", "Condition.__str__", defArgs (inClass (top 17) 6), defBody (inClass (top 17) 6), defScope (inClass (top 17) 6), [], []⟩
def d_Condition_and : DefA := ⟨fun K => (He.ma K (He.ga K "Condition") "__and__"), "__and__", "Condition.__and__", defArgs (inClass (top 17) 2), defBody (inClass (top 17) 2), defScope (inClass (top 17) 2), [], []⟩
def d__law_pen : DefA := ⟨fun K => (He.ga K "_law_pen"), "_law_pen", "_law_pen", defArgs (top 20), defBody (top 20), defScope (top 20), [], []⟩
def d__law_draw : DefA := ⟨fun K => (He.ga K "_law_draw"), "_law_draw", "_law_draw", defArgs (top 21), defBody (top 21), defScope (top 21), [], []⟩
def d__law_pick : DefA := ⟨fun K => (He.ga K "_law_pick"), "_law_pick", "_law_pick", defArgs (top 22), defBody (top 22), defScope (top 22), [], []⟩
def d__law_heard : DefA := ⟨fun K => (He.ga K "_law_heard"), "_law_heard", "_law_heard", defArgs (top 23), defBody (top 23), defScope (top 23), [], []⟩
def d__law_words : DefA := ⟨fun K => (He.ga K "_law_words"), "_law_words", "_law_words", defArgs (top 24), defBody (top 24), defScope (top 24), [], []⟩
def d__law_read : DefA := ⟨fun K => (He.ga K "_law_read"), "_law_read", "_law_read", defArgs (top 25), defBody (top 25), defScope (top 25), [], []⟩
def d__law_all : DefA := ⟨fun K => (He.ga K "_law_all"), "_law_all", "_law_all", defArgs (top 26), defBody (top 26), defScope (top 26), [], []⟩
def d__law_is_word : DefA := ⟨fun K => (He.ga K "_law_is_word"), "_law_is_word", "_law_is_word", defArgs (top 27), defBody (top 27), defScope (top 27), [], []⟩
def d__law_due : DefA := ⟨fun K => (He.ga K "_law_due"), "_law_due", "_law_due", defArgs (top 28), defBody (top 28), defScope (top 28), [], []⟩
def d__law_texts_right : DefA := ⟨fun K => (He.ga K "_law_texts_right"), "_law_texts_right", "_law_texts_right", defArgs (top 29), defBody (top 29), defScope (top 29), [], []⟩
def d__law_refused_right : DefA := ⟨fun K => (He.ga K "_law_refused_right"), "_law_refused_right", "_law_refused_right", defArgs (top 30), defBody (top 30), defScope (top 30), [], []⟩
def d_law : DefA := ⟨fun K => (He.ga K "law"), "law", "law", defArgs (top 31), defBody (top 31), defScope (top 31), [], []⟩
def fa : List He.Fa := [.str "SIGNS" "abcdefghijklmnopqrstuvwxyz0123456789?!@=", .free "all", .free "str", .free "isinstance", .free "len", .int "MOST_SIGNS" 24, .glo "is_event", .keep "is_event", .str "NEVER" "-", .str "EVERY" "*", .free "tuple", .free "list", .glo "is_word", .keep "is_word", .int "MOST_PAIRS" 40, .glo "TooMany", .keep "TooMany", .free "enumerate", .glo "is_pair", .keep "is_pair", .glo "BadCondition", .keep "BadCondition", .free "range", .glo "BadText", .keep "BadText", .str "FREE" "free", .keep "Condition", .glo "pairs_in", .keep "pairs_in", .glo "Condition", .free "int", .free "abs", .glo "_law_draw", .keep "_law_draw", .glo "OddsError", .glo "_law_pick", .keep "_law_pick", .glo "_law_heard", .keep "_law_heard", .glo "_law_is_word", .keep "_law_is_word", .glo "_law_read", .keep "_law_read", .free "repr", .glo "_law_due", .keep "_law_due", .glo "_law_all", .keep "_law_all", .free "bool", .glo "_law_texts_right", .keep "_law_texts_right", .glo "_law_refused_right", .keep "_law_refused_right", .glo "_law_words", .keep "_law_words", .glo "_law_pen", .keep "_law_pen", .glo "law"]
def fn : List DefA := [d_is_event, d_is_word, d_is_pair, d_BadCondition_init, d_BadText_init, d_TooMany_init, d_Condition_init, d_pairs_in, d_Condition_from_text, d_Condition_eq, d_Condition_len, d_Condition_bool, d_Condition_str, d_Condition_and, d__law_pen, d__law_draw, d__law_pick, d__law_heard, d__law_words, d__law_read, d__law_all, d__law_is_word, d__law_due, d__law_texts_right, d__law_refused_right, d_law]
def tf : List (Frag → Addr) := [fun K => (He.ga K "_law_read"), fun K => (He.ga K "_law_texts_right"), fun K => (He.ga K "_law_refused_right")]
def ex : List (Frag → Bool) := [fun K => kitB K [(He.ga K "Condition")] [(He.ga K "BadCondition"), (He.ga K "BadText"), (He.ga K "TooMany")] ["NoneType", "bool", "int", "str", "tuple", "list", "dict"] [.ty "str", .ty "list", .ty "tuple", .cl (He.ga K "Condition"), .cl (He.ga K "BadCondition"), .cl (He.ga K "BadText"), .cl (He.ga K "TooMany")] Tg.beq,
  fun K => oexB K (He.ga K "BadCondition"),
  fun K => findB K (He.ga K "BadCondition") "at" none,
  fun K => findB K (He.ga K "BadCondition") "__init__" (some (.ref (He.ma K (He.ga K "BadCondition") "__init__"))) && eqV (PySem.W.typeIn K (.ref (He.ma K (He.ga K "BadCondition") "__init__"))) (.type "function"),
  fun K => oexB K (He.ga K "BadText"),
  fun K => findB K (He.ga K "BadText") "line" none && findB K (He.ga K "BadText") "word" none,
  fun K => findB K (He.ga K "BadText") "__init__" (some (.ref (He.ma K (He.ga K "BadText") "__init__"))) && eqV (PySem.W.typeIn K (.ref (He.ma K (He.ga K "BadText") "__init__"))) (.type "function"),
  fun K => oexB K (He.ga K "TooMany"),
  fun K => findB K (He.ga K "TooMany") "what" none && findB K (He.ga K "TooMany") "most" none,
  fun K => findB K (He.ga K "TooMany") "__init__" (some (.ref (He.ma K (He.ga K "TooMany") "__init__"))) && eqV (PySem.W.typeIn K (.ref (He.ma K (He.ga K "TooMany") "__init__"))) (.type "function"),
  fun K => fdB K [(He.ga K "Condition")] [] "pairs",
  fun K => mkB K (He.ga K "Condition") (He.ma K (He.ga K "Condition") "__init__"),
  fun K => fdB K [] [(He.ga K "TooMany")] "most",
  fun K => fdB K [] [(He.ga K "TooMany")] "what",
  fun K => fdB K [] [(He.ga K "BadText")] "word",
  fun K => fdB K [] [(He.ga K "BadText")] "line",
  fun K => fdB K [] [(He.ga K "BadCondition")] "at",
  fun K => catB K [(He.ga K "BadCondition"), (He.ga K "BadText"), (He.ga K "TooMany")] (.ref (He.ga K "OddsError")) (fun _ => true),
  fun K => creadB K (He.ga K "Condition"),
  fun K => cmB K (He.ga K "Condition") "from_text" (cmP K (He.ga K "Condition") "from_text") (cmG K (cmP K (He.ga K "Condition") "from_text")),
  fun K => ownB K (He.ga K "Condition") "__and__" (He.ma K (He.ga K "Condition") "__and__"),
  fun K => binB K .BitAnd (He.ga K "Condition") ["NoneType", "bool", "int", "str", "tuple", "list", "dict"],
  fun K => ownB K (He.ga K "Condition") "__str__" (He.ma K (He.ga K "Condition") "__str__"),
  fun K => ownB K (He.ga K "Condition") "__len__" (He.ma K (He.ga K "Condition") "__len__"),
  fun K => ownB K (He.ga K "Condition") "__eq__" (He.ma K (He.ga K "Condition") "__eq__"),
  fun K => ownB K (He.ga K "Condition") "__bool__" (He.ma K (He.ga K "Condition") "__bool__"),
  fun K => findB K (He.ga K "Condition") "__ne__" (some (.builtin "object.__ne__")) && eqB (PySem.W.mroIn K (He.ga K "Condition") (.type "object")) true,
  fun K => neA (He.ga K "OddsError") (He.ga K "BadCondition"),
  fun K => neA (He.ga K "OddsError") (He.ga K "BadText"),
  fun K => neA (He.ga K "OddsError") (He.ga K "TooMany"),
  fun K => neA (He.ga K "OddsError") (He.ga K "Condition"),
  fun K => neA (He.ga K "BadCondition") (He.ga K "BadText"),
  fun K => neA (He.ga K "BadCondition") (He.ga K "TooMany"),
  fun K => neA (He.ga K "BadCondition") (He.ga K "Condition"),
  fun K => neA (He.ga K "BadText") (He.ga K "TooMany"),
  fun K => neA (He.ga K "BadText") (He.ga K "Condition"),
  fun K => neA (He.ga K "TooMany") (He.ga K "Condition"),
  fun K => neA (tabA K (He.ga K "_law_read")) (tabA K (He.ga K "_law_texts_right")),
  fun K => neA (tabA K (He.ga K "_law_read")) (tabA K (He.ga K "_law_refused_right")),
  fun K => neA (tabA K (He.ga K "_law_texts_right")) (tabA K (He.ga K "_law_refused_right"))]
def tabs (K : Frag) : List (Addr × Str) := [(tabA K (He.ga K "_law_read"), (envOfC "_law_read" (defScope (top 25)) 0 0 .none).qual ++ ("<lambda>" : Str)), (tabA K (He.ga K "_law_texts_right"), (envOfC "_law_texts_right" (defScope (top 29)) 0 0 .none).qual ++ ("<lambda>" : Str)), (tabA K (He.ga K "_law_refused_right"), (envOfC "_law_refused_right" (defScope (top 30)) 0 0 .none).qual ++ ("<lambda>" : Str))]
abbrev EnK := En fa fn tf ex
theorem boot_all : bootBuiltins "all" = some (.builtin "all") := by decide +kernel
theorem boot_str : bootBuiltins "str" = some (.type "str") := by decide +kernel
theorem boot_isinstance : bootBuiltins "isinstance" = some (.builtin "isinstance") := by decide +kernel
theorem boot_len : bootBuiltins "len" = some (.builtin "len") := by decide +kernel
theorem boot_tuple : bootBuiltins "tuple" = some (.type "tuple") := by decide +kernel
theorem boot_list : bootBuiltins "list" = some (.type "list") := by decide +kernel
theorem boot_int : bootBuiltins "int" = some (.type "int") := by decide +kernel
theorem boot_abs : bootBuiltins "abs" = some (.builtin "abs") := by decide +kernel
theorem boot_repr : bootBuiltins "repr" = some (.builtin "repr") := by decide +kernel
theorem boot_bool : bootBuiltins "bool" = some (.type "bool") := by decide +kernel
section
variable {K : Frag} {mg : Str → Option Value} {base : Heap}
theorem ne_OddsError_BadCondition (e : EnK K mg base) : (adr K).OddsError ≠ (adr K).BadCondition := neA_ok (e.xb 27 rfl)
theorem ne_OddsError_BadText (e : EnK K mg base) : (adr K).OddsError ≠ (adr K).BadText := neA_ok (e.xb 28 rfl)
theorem ne_OddsError_TooMany (e : EnK K mg base) : (adr K).OddsError ≠ (adr K).TooMany := neA_ok (e.xb 29 rfl)
theorem ne_OddsError_Condition (e : EnK K mg base) : (adr K).OddsError ≠ (adr K).Condition := neA_ok (e.xb 30 rfl)
theorem ne_BadCondition_BadText (e : EnK K mg base) : (adr K).BadCondition ≠ (adr K).BadText := neA_ok (e.xb 31 rfl)
theorem ne_BadCondition_TooMany (e : EnK K mg base) : (adr K).BadCondition ≠ (adr K).TooMany := neA_ok (e.xb 32 rfl)
theorem ne_BadCondition_Condition (e : EnK K mg base) : (adr K).BadCondition ≠ (adr K).Condition := neA_ok (e.xb 33 rfl)
theorem ne_BadText_TooMany (e : EnK K mg base) : (adr K).BadText ≠ (adr K).TooMany := neA_ok (e.xb 34 rfl)
theorem ne_BadText_Condition (e : EnK K mg base) : (adr K).BadText ≠ (adr K).Condition := neA_ok (e.xb 35 rfl)
theorem ne_TooMany_Condition (e : EnK K mg base) : (adr K).TooMany ≠ (adr K).Condition := neA_ok (e.xb 36 rfl)
theorem tab_u0 (e : EnK K mg base) : ∀ p ∈ tabs K, p.1 = tabA K (He.ga K "_law_read") → p.2 = (envOfC "_law_read" (defScope (top 25)) 0 0 .none).qual ++ ("<lambda>" : Str) := by
  intro p hp he
  simp only [tabs, List.mem_cons, List.not_mem_nil, or_false] at hp
  rcases hp with rfl | rfl | rfl
  · rfl
  · exact absurd he.symm (neA_ok (e.xb 37 rfl))
  · exact absurd he.symm (neA_ok (e.xb 38 rfl))
theorem tab_u1 (e : EnK K mg base) : ∀ p ∈ tabs K, p.1 = tabA K (He.ga K "_law_texts_right") → p.2 = (envOfC "_law_texts_right" (defScope (top 29)) 0 0 .none).qual ++ ("<lambda>" : Str) := by
  intro p hp he
  simp only [tabs, List.mem_cons, List.not_mem_nil, or_false] at hp
  rcases hp with rfl | rfl | rfl
  · exact absurd he (neA_ok (e.xb 37 rfl))
  · rfl
  · exact absurd he.symm (neA_ok (e.xb 39 rfl))
theorem tab_u2 (e : EnK K mg base) : ∀ p ∈ tabs K, p.1 = tabA K (He.ga K "_law_refused_right") → p.2 = (envOfC "_law_refused_right" (defScope (top 30)) 0 0 .none).qual ++ ("<lambda>" : Str) := by
  intro p hp he
  simp only [tabs, List.mem_cons, List.not_mem_nil, or_false] at hp
  rcases hp with rfl | rfl | rfl
  · exact absurd he (neA_ok (e.xb 38 rfl))
  · exact absurd he (neA_ok (e.xb 39 rfl))
  · rfl
end
theorem sc_is_event : FnScope ["value", "sign"] ["value"] (defScope (top 4)) := ⟨rfl, rfl, rfl, by decide +kernel, rfl, by decide +kernel, by decide +kernel⟩
theorem fn_is_event {P : Program} {w : World} {K : Frag} {mg : Str → Option Value} {base : Heap} [L : Link K] (e : EnK K mg base) (hL : L.tabs = tabs K) : FnP P w K mg base 1 (He.ga K "is_event") (M_is_event (adr K)) := by
  obtain ⟨fd, F⟩ := e.fd 0 rfl
  exact fnP_D (N := ["value", "sign"]) F sc_is_event (fun _ _ _ _ _ _ us hl => match us, hl with | [_], _ => rfl) fun A outer s H E L' hL' hr tk =>
    (ss_cons (sp_if (st_w (sw_or (st_not (st_val lf_truth (se_callB (lfn_isi (kitT (e.xb 0 rfl))) rfl (e.free 3 rfl) boot_isinstance (sa_cons (se_var (i := 0) rfl (.inl rfl)) (sa_cons (se_bty rfl (e.free 2 rfl) boot_str) sa_nil))))) (sw_or1 (st_not (st_chain lf_le lf_le se_int (se_callB lfn_len rfl (e.free 4 rfl) boot_len (sa_cons (se_var (i := 0) rfl (.inl rfl)) sa_nil)) (se_gint rfl (e.int 5 rfl))))))) (ss_one (sp_ret se_bl)) ss_nil)
    (ss_one (sp_ret (se_callB (lfn_all rfl) rfl (e.free 1 rfl) boot_all (sa_cons (se_lc0 [("sign", 1)] rfl sc_is_event.nd (si_val (se_var (i := 0) rfl (.inl rfl))) (blkOk_by (by kernel_rfl)) (fun _ _ _ _ _ => (sgv_name (i := 1) sc_is_event.nd rfl (.inl rfl) (.inr rfl) (by decide))) (fun _ _ _ _ _ => (se_cmp (lf_in hr.hu1) (se_var (i := 1) rfl (.inl rfl)) (se_gstr rfl (e.str 0 rfl)) (by rfl)))) sa_nil)))))
theorem sc_is_word : FnScope ["value"] ["value"] (defScope (top 15)) := ⟨rfl, rfl, rfl, by decide +kernel, rfl, by decide +kernel, by decide +kernel⟩
theorem fn_is_word {P : Program} {w : World} {K : Frag} {mg : Str → Option Value} {base : Heap} [L : Link K] (e : EnK K mg base) (hL : L.tabs = tabs K) : FnP P w K mg base 2 (He.ga K "is_word") (M_is_word (adr K)) := by
  obtain ⟨fd, F⟩ := e.fd 1 rfl
  exact fnP_D (N := ["value"]) F sc_is_word (fun _ _ _ _ _ _ us hl => match us, hl with | [_], _ => rfl) fun A outer s H E L' hL' hr tk =>
    (ss_one (sp_ret (se_or (se_call (fn_is_event (L := L') e (hL'.trans hL)) (hr.mono (by decide)) tk rfl (e.glo 6 rfl) (e.keep 7 rfl) (sa_cons (se_var (i := 0) rfl (.inl rfl)) sa_nil)) (se_one (se_and (se_callB (lfn_isi (kitT (e.xb 0 rfl))) rfl (e.free 3 rfl) boot_isinstance (sa_cons (se_var (i := 0) rfl (.inl rfl)) (sa_cons (se_bty rfl (e.free 2 rfl) boot_str) sa_nil))) (se_one (se_cmp (lf_in hr.hu1) (se_var (i := 0) rfl (.inl rfl)) (se_tup (sa_cons (se_gstr rfl (e.str 9 rfl)) (sa_cons (se_gstr rfl (e.str 8 rfl)) sa_nil))) (by rfl))))))))
theorem sc_is_pair : FnScope ["value"] ["value"] (defScope (top 16)) := ⟨rfl, rfl, rfl, by decide +kernel, rfl, by decide +kernel, by decide +kernel⟩
theorem fn_is_pair {P : Program} {w : World} {K : Frag} {mg : Str → Option Value} {base : Heap} [L : Link K] (e : EnK K mg base) (hL : L.tabs = tabs K) : FnP P w K mg base 3 (He.ga K "is_pair") (M_is_pair (adr K)) := by
  obtain ⟨fd, F⟩ := e.fd 2 rfl
  exact fnP_D (N := ["value"]) F sc_is_pair (fun _ _ _ _ _ _ us hl => match us, hl with | [_], _ => rfl) fun A outer s H E L' hL' hr tk =>
    (ss_one (sp_ret (se_and (se_callB (lfn_isi (kitT (e.xb 0 rfl))) rfl (e.free 3 rfl) boot_isinstance (sa_cons (se_var (i := 0) rfl (.inl rfl)) (sa_cons (se_tup (sa_cons (se_bty rfl (e.free 11 rfl) boot_list) (sa_cons (se_bty rfl (e.free 10 rfl) boot_tuple) sa_nil))) sa_nil))) (se_and (se_cmp (lf_eq hr.hu) (se_callB lfn_len rfl (e.free 4 rfl) boot_len (sa_cons (se_var (i := 0) rfl (.inl rfl)) sa_nil)) se_int (nomark _)) (se_and (se_call (fn_is_word (L := L') e (hL'.trans hL)) (hr.mono (by decide)) tk rfl (e.glo 12 rfl) (e.keep 13 rfl) (sa_cons (se_ix (se_var (i := 0) rfl (.inl rfl)) se_int) sa_nil)) (se_one (se_call (fn_is_word (L := L') e (hL'.trans hL)) (hr.mono (by decide)) tk rfl (e.glo 12 rfl) (e.keep 13 rfl) (sa_cons (se_ix (se_var (i := 0) rfl (.inl rfl)) se_int) sa_nil))))))))
theorem sc_BadCondition_init : FnScope ["self", "at"] ["self", "at"] (defScope (inClass (top 7) 0)) := ⟨rfl, rfl, rfl, by decide +kernel, rfl, by decide +kernel, by decide +kernel⟩
theorem mkx_BadCondition {X : Cx} [Link X.K] (e : EnK X.K X.mg X.base) (hr : RoomG 2 X.A) : MkX X (He.ga X.K "BadCondition") ["at"] 1 [] [0] := by
  obtain ⟨fd, F⟩ := e.fd 3 rfl
  have T := oexB_ok (e.xb 1 rfl)
  have nn : findB X.K (He.ga X.K "BadCondition") "at" none = true := by simpa only [Bool.and_eq_true, and_assoc] using (e.xb 2 rfl)
  obtain ⟨t1, t2⟩ := He.ba (e.xb 3 rfl)
  have hn : ∀ f ∈ (["at"] : List Str), PySem.W.findIn X.K (.ref (He.ga X.K "BadCondition")) f = some none := by
    intro f hf
    simp only [List.mem_cons, List.not_mem_nil, or_false] at hf
    have n0 := nn
    rcases hf with rfl
    · exact findB_ok n0
  refine mkx_init (k := 1) (ps := ["self", "at"]) (n := 1) (ks := []) (names := ["at"]) T (findB_ok t1) (eqV_ok t2) (F.ok (N := ["self", "at"]) sc_BadCondition_init (fun vs H Q E h => ?_) (fun cdv A outer s H vs Q E hr h => ⟨tInit X.K ((["at"] : List Str).zipIdx 1), ?_, init_sp T (by decide) hn (by decide) h⟩)) hr (kb_D F rfl (by decide) fun _ _ _ _ _ _ us ws h1 h2 => match us, ws, h1, h2 with | [_, _], [], _, _ => rfl) rfl (by decide)
  · obtain ⟨a, ws, rfl, hw, _⟩ := h
    rw [List.length_cons, hw]
    rfl
  · exact (pss_cons (ps_ost (pv 0) (pv 1)) pss_nil)
theorem sc_BadText_init : FnScope ["self", "line", "word"] ["self", "line", "word"] (defScope (inClass (top 8) 0)) := ⟨rfl, rfl, rfl, by decide +kernel, rfl, by decide +kernel, by decide +kernel⟩
theorem mkx_BadText {X : Cx} [Link X.K] (e : EnK X.K X.mg X.base) (hr : RoomG 2 X.A) : MkX X (He.ga X.K "BadText") ["line", "word"] 2 [] [0, 1] := by
  obtain ⟨fd, F⟩ := e.fd 4 rfl
  have T := oexB_ok (e.xb 4 rfl)
  have nn : findB X.K (He.ga X.K "BadText") "line" none = true ∧ findB X.K (He.ga X.K "BadText") "word" none = true := by simpa only [Bool.and_eq_true, and_assoc] using (e.xb 5 rfl)
  obtain ⟨t1, t2⟩ := He.ba (e.xb 6 rfl)
  have hn : ∀ f ∈ (["line", "word"] : List Str), PySem.W.findIn X.K (.ref (He.ga X.K "BadText")) f = some none := by
    intro f hf
    simp only [List.mem_cons, List.not_mem_nil, or_false] at hf
    obtain ⟨n0, n1⟩ := nn
    rcases hf with rfl | rfl
    · exact findB_ok n0
    · exact findB_ok n1
  refine mkx_init (k := 1) (ps := ["self", "line", "word"]) (n := 2) (ks := []) (names := ["line", "word"]) T (findB_ok t1) (eqV_ok t2) (F.ok (N := ["self", "line", "word"]) sc_BadText_init (fun vs H Q E h => ?_) (fun cdv A outer s H vs Q E hr h => ⟨tInit X.K ((["line", "word"] : List Str).zipIdx 1), ?_, init_sp T (by decide) hn (by decide) h⟩)) hr (kb_D F rfl (by decide) fun _ _ _ _ _ _ us ws h1 h2 => match us, ws, h1, h2 with | [_, _, _], [], _, _ => rfl) rfl (by decide)
  · obtain ⟨a, ws, rfl, hw, _⟩ := h
    rw [List.length_cons, hw]
    rfl
  · exact (pss_cons (ps_ost (pv 0) (pv 1)) (pss_cons (ps_ost (pv 0) (pv 2)) pss_nil))
theorem sc_TooMany_init : FnScope ["self", "what", "most"] ["self", "what", "most"] (defScope (inClass (top 9) 0)) := ⟨rfl, rfl, rfl, by decide +kernel, rfl, by decide +kernel, by decide +kernel⟩
theorem mkx_TooMany {X : Cx} [Link X.K] (e : EnK X.K X.mg X.base) (hr : RoomG 2 X.A) : MkX X (He.ga X.K "TooMany") ["what", "most"] 2 [] [0, 1] := by
  obtain ⟨fd, F⟩ := e.fd 5 rfl
  have T := oexB_ok (e.xb 7 rfl)
  have nn : findB X.K (He.ga X.K "TooMany") "what" none = true ∧ findB X.K (He.ga X.K "TooMany") "most" none = true := by simpa only [Bool.and_eq_true, and_assoc] using (e.xb 8 rfl)
  obtain ⟨t1, t2⟩ := He.ba (e.xb 9 rfl)
  have hn : ∀ f ∈ (["what", "most"] : List Str), PySem.W.findIn X.K (.ref (He.ga X.K "TooMany")) f = some none := by
    intro f hf
    simp only [List.mem_cons, List.not_mem_nil, or_false] at hf
    obtain ⟨n0, n1⟩ := nn
    rcases hf with rfl | rfl
    · exact findB_ok n0
    · exact findB_ok n1
  refine mkx_init (k := 1) (ps := ["self", "what", "most"]) (n := 2) (ks := []) (names := ["what", "most"]) T (findB_ok t1) (eqV_ok t2) (F.ok (N := ["self", "what", "most"]) sc_TooMany_init (fun vs H Q E h => ?_) (fun cdv A outer s H vs Q E hr h => ⟨tInit X.K ((["what", "most"] : List Str).zipIdx 1), ?_, init_sp T (by decide) hn (by decide) h⟩)) hr (kb_D F rfl (by decide) fun _ _ _ _ _ _ us ws h1 h2 => match us, ws, h1, h2 with | [_, _, _], [], _, _ => rfl) rfl (by decide)
  · obtain ⟨a, ws, rfl, hw, _⟩ := h
    rw [List.length_cons, hw]
    rfl
  · exact (pss_cons (ps_ost (pv 0) (pv 1)) (pss_cons (ps_ost (pv 0) (pv 2)) pss_nil))
theorem sc_Condition_init : FnScope ["self", "pairs", "at", "pair", "when", "then"] ["self", "pairs"] (defScope (inClass (top 17) 0)) := ⟨rfl, rfl, rfl, by decide +kernel, rfl, by decide +kernel, by decide +kernel⟩
theorem fn_Condition_init {P : Program} {w : World} {K : Frag} {mg : Str → Option Value} {base : Heap} [L : Link K] (e : EnK K mg base) (hL : L.tabs = tabs K) : FnP P w K mg base 4 (He.ma K (He.ga K "Condition") "__init__") (M_Condition_init (adr K)) := by
  obtain ⟨fd, F⟩ := e.fd 6 rfl
  exact fnP_starD (N := ["self", "pairs", "at", "pair", "when", "then"]) (ps := ["self"]) (pv := "pairs") F sc_Condition_init (fun _ _ _ _ _ _ us rest hl => match us, rest, hl with | [_], [], _ => by kernel_rfl | [_], _ :: _, _ => by kernel_rfl) fun A outer s H E L' hL' hr tk =>
    (ss_cons (sp_for (passes_of rfl) rfl (si_enum rfl (e.free 17 rfl) (sa_cons (se_var (i := 1) rfl (.inl rfl)) sa_nil)) (sg_tup rfl (sgs_cons (sg_name (i := 2) sc_Condition_init.nd rfl (.inl rfl) (.inl rfl)) (sgs_cons (sg_name (i := 3) sc_Condition_init.nd rfl (.inl rfl) (.inl rfl)) sgs_nil))) (ss_one (sp_if (st_not (st_val lf_truth (se_call (fn_is_pair (L := L') e (hL'.trans hL)) (hr.mono (by decide)) tk rfl (e.glo 18 rfl) (e.keep 19 rfl) (sa_cons (se_var (i := 3) rfl (.inl rfl)) sa_nil)))) (ss_one (sp_raise (mkx_BadCondition e (hr.mono (by decide))) rfl tk rfl (e.glo 20 rfl) (e.keep 21 rfl) (sa_cons (se_var (i := 2) rfl (.inl rfl)) sa_nil))) ss_nil)))
    (ss_cons (sp_if (st_cmp lf_gt (se_callB lfn_len rfl (e.free 4 rfl) boot_len (sa_cons (se_var (i := 1) rfl (.inl rfl)) sa_nil)) (se_gint rfl (e.int 14 rfl)) (nomark _)) (ss_one (sp_raise (mkx_TooMany e (hr.mono (by decide))) rfl tk rfl (e.glo 15 rfl) (e.keep 16 rfl) (sa_cons se_str (sa_cons (se_gint rfl (e.int 14 rfl)) sa_nil)))) ss_nil)
    (ss_one (sp_fld (fdB_fld (e.xb 10 rfl)) (se_var (i := 0) rfl (.inl rfl)) (se_callTy lfn_tuple rfl (e.free 10 rfl) boot_tuple (sa_cons (se_lc0 [("when", 4), ("then", 5)] rfl sc_Condition_init.nd (si_val (se_var (i := 1) rfl (.inl rfl))) (blkOk_by (by kernel_rfl)) (fun _ _ _ _ _ => (sgv_any rfl (sgvs_cons (sgv_name (i := 4) sc_Condition_init.nd rfl (.inl rfl) (.inr rfl) (by decide)) (sgvs_cons (sgv_name (i := 5) sc_Condition_init.nd rfl (.inl rfl) (.inr rfl) (by decide)) sgvs_nil)))) (fun _ _ _ _ _ => (se_tup (sa_cons (se_var (i := 4) rfl (.inl rfl)) (sa_cons (se_var (i := 5) rfl (.inl rfl)) sa_nil))))) sa_nil))))))
theorem sc_pairs_in : FnScope ["text", "words", "at", "word", "is_right"] ["text"] (defScope (top 18)) := ⟨rfl, rfl, rfl, by decide +kernel, rfl, by decide +kernel, by decide +kernel⟩
theorem fn_pairs_in {P : Program} {w : World} {K : Frag} {mg : Str → Option Value} {base : Heap} [L : Link K] (e : EnK K mg base) (hL : L.tabs = tabs K) : FnP P w K mg base 3 (He.ga K "pairs_in") (M_pairs_in (adr K)) := by
  obtain ⟨fd, F⟩ := e.fd 7 rfl
  exact fnP_D (N := ["text", "words", "at", "word", "is_right"]) F sc_pairs_in (fun _ _ _ _ _ _ us hl => match us, hl with | [_], _ => rfl) fun A outer s H E L' hL' hr tk =>
    (ss_cons (sp_if (st_not (st_val lf_truth (se_callB (lfn_isi (kitT (e.xb 0 rfl))) rfl (e.free 3 rfl) boot_isinstance (sa_cons (se_var (i := 0) rfl (.inl rfl)) (sa_cons (se_bty rfl (e.free 2 rfl) boot_str) sa_nil))))) (ss_one (sp_raise (mkx_BadText e (hr.mono (by decide))) rfl tk rfl (e.glo 23 rfl) (e.keep 24 rfl) (sa_cons se_int (sa_cons se_int sa_nil)))) ss_nil)
    (ss_cons (sp_if (st_cmp (lf_eq hr.hu) (se_var (i := 0) rfl (.inl rfl)) (se_gstr rfl (e.str 25 rfl)) (nomark _)) (ss_one (sp_ret (se_lst sa_nil))) ss_nil)
    (ss_cons (sp_set (i := 1) sc_pairs_in.nd rfl (.inr rfl) (.inl rfl) (se_bm PySem.F.plainAttrs_str PySem.F.slot_str_split PySem.F.type_str_split lfm_split (se_var (i := 0) rfl (.inl rfl)) (sa_cons se_str sa_nil)))
    (ss_cons (sp_for (passes_of rfl) rfl (si_enum rfl (e.free 17 rfl) (sa_cons (se_var (i := 1) rfl (.inr (.inl rfl))) sa_nil)) (sg_tup rfl (sgs_cons (sg_name (i := 2) sc_pairs_in.nd rfl (.inl rfl) (.inl rfl)) (sgs_cons (sg_name (i := 3) sc_pairs_in.nd rfl (.inl rfl) (.inl rfl)) sgs_nil))) (ss_cons (sp_set (i := 4) sc_pairs_in.nd rfl (.inl rfl) (.inl rfl) (se_if (st_cmp (lf_eq hr.hu) (se_bin lf_mod (se_var (i := 2) rfl (.inl rfl)) se_int) se_int (nomark _)) (se_cmp (lf_eq hr.hu) (se_var (i := 3) rfl (.inl rfl)) (se_if (st_cmp (lf_eq hr.hu) (se_bin lf_mod (se_var (i := 2) rfl (.inl rfl)) se_int) se_int (nomark _)) se_str se_str) (nomark _)) (se_call (fn_is_word (L := L') e (hL'.trans hL)) (hr.mono (by decide)) tk rfl (e.glo 12 rfl) (e.keep 13 rfl) (sa_cons (se_var (i := 3) rfl (.inl rfl)) sa_nil))))
    (ss_one (sp_if (st_not (st_val lf_truth (se_var (i := 4) rfl (.inl rfl)))) (ss_one (sp_raise (mkx_BadText e (hr.mono (by decide))) rfl tk rfl (e.glo 23 rfl) (e.keep 24 rfl) (sa_cons se_int (sa_cons (se_var (i := 2) rfl (.inl rfl)) sa_nil)))) ss_nil))))
    (ss_cons (sp_if (st_cmp (lf_ne hr.hu) (se_bin lf_mod (se_callB lfn_len rfl (e.free 4 rfl) boot_len (sa_cons (se_var (i := 1) rfl (.inr (.inl rfl))) sa_nil)) se_int) se_int (nomark _)) (ss_one (sp_raise (mkx_BadText e (hr.mono (by decide))) rfl tk rfl (e.glo 23 rfl) (e.keep 24 rfl) (sa_cons se_int (sa_cons (se_callB lfn_len rfl (e.free 4 rfl) boot_len (sa_cons (se_var (i := 1) rfl (.inr (.inl rfl))) sa_nil)) sa_nil)))) ss_nil)
    (ss_one (sp_ret (se_lc0 [("at", 2)] rfl sc_pairs_in.nd (si_range3 rfl (e.free 22 rfl) (sa_cons se_int (sa_cons (se_callB lfn_len rfl (e.free 4 rfl) boot_len (sa_cons (se_var (i := 1) rfl (.inr (.inl rfl))) sa_nil)) (sa_cons se_int sa_nil)))) (blkOk_by (by kernel_rfl)) (fun _ _ _ _ _ => (sgv_name (i := 2) sc_pairs_in.nd rfl (.inl rfl) (.inr rfl) (by decide))) (fun _ _ _ _ _ => (se_tup (sa_cons (se_ix (se_var (i := 1) rfl (.inr (.inl rfl))) (se_var (i := 2) rfl (.inl rfl))) (sa_cons (se_ix (se_var (i := 1) rfl (.inr (.inl rfl))) (se_bin lf_add (se_var (i := 2) rfl (.inl rfl)) se_int)) sa_nil))))))))))))
theorem sc_Condition_from_text : FnScope ["cls", "text", "pairs"] ["cls", "text"] (defScope (inClass (top 17) 1)) := ⟨rfl, rfl, rfl, by decide +kernel, rfl, by decide +kernel, by decide +kernel⟩
theorem fn_Condition_from_text {P : Program} {w : World} {K : Frag} {mg : Str → Option Value} {base : Heap} [L : Link K] (e : EnK K mg base) (hL : L.tabs = tabs K) : FnP P w K mg base 6 (cmG K (cmP K (He.ga K "Condition") "from_text")) (M_Condition_from_text (adr K)) := by
  obtain ⟨fd, F⟩ := e.fd 8 rfl
  exact fnP_D (N := ["cls", "text", "pairs"]) F sc_Condition_from_text (fun _ _ _ _ _ _ us hl => match us, hl with | [_, _], _ => rfl) fun A outer s H E L' hL' hr tk =>
    (ss_cons (sp_set (i := 2) sc_Condition_from_text.nd rfl (.inl rfl) (.inl rfl) (se_call (fn_pairs_in (L := L') e (hL'.trans hL)) (hr.mono (by decide)) tk rfl (e.glo 27 rfl) (e.keep 28 rfl) (sa_cons (se_var (i := 1) rfl (.inl rfl)) sa_nil)))
    (ss_one (sp_ret (se_callVS1 (i := 0) rfl (.inl rfl) (vs_one (e.keep 26 rfl) (lfn_make (mkB_ok (e.xb 11 rfl)) (fn_Condition_init (L := L') e (hL'.trans hL)) (hr.mono (by decide)) tk)) (se_var (i := 2) rfl (.inl rfl))))))
theorem fg_Condition_from_text {P : Program} {w : World} {K : Frag} {mg : Str → Option Value} {base : Heap} [L : Link K] (e : EnK K mg base) (hL : L.tabs = tabs K) : ∃ fd, FnG P w K mg base 6 (cmG K (cmP K (He.ga K "Condition") "from_text")) fd ["cls", "text"] (G_Condition_from_text (adr K)) ∧ KB K fd ["cls", "text"] 1 ["text"] [0, 1] := by
  obtain ⟨fd, F⟩ := e.fd 8 rfl
  exact ⟨fd, fnG_D (N := ["cls", "text", "pairs"]) F sc_Condition_from_text fun A outer s H E L' hL' hr tk =>
    (ss_cons (sp_set (i := 2) sc_Condition_from_text.nd rfl (.inl rfl) (.inl rfl) (se_call (fn_pairs_in (L := L') e (hL'.trans hL)) (hr.mono (by decide)) tk rfl (e.glo 27 rfl) (e.keep 28 rfl) (sa_cons (se_var (i := 1) rfl (.inl rfl)) sa_nil)))
    (ss_one (sp_ret (se_callVS1 (i := 0) rfl (.inl rfl) (vs_one (e.keep 26 rfl) (lfn_make (mkB_ok (e.xb 11 rfl)) (fn_Condition_init (L := L') e (hL'.trans hL)) (hr.mono (by decide)) tk)) (se_var (i := 2) rfl (.inl rfl)))))), kb_D F rfl (by decide) fun _ _ _ _ _ _ us ws h1 h2 => match us, ws, h1, h2 with | [_], [_], _, _ => rfl⟩
theorem sc_Condition_eq : FnScope ["self", "other"] ["self", "other"] (defScope (inClass (top 17) 3)) := ⟨rfl, rfl, rfl, by decide +kernel, rfl, by decide +kernel, by decide +kernel⟩
theorem fn_Condition_eq {P : Program} {w : World} {K : Frag} {mg : Str → Option Value} {base : Heap} [L : Link K] (e : EnK K mg base) (hL : L.tabs = tabs K) : FnP P w K mg base 1 (He.ma K (He.ga K "Condition") "__eq__") (M_Condition_eq (adr K)) := by
  obtain ⟨fd, F⟩ := e.fd 9 rfl
  exact fnP_D (N := ["self", "other"]) F sc_Condition_eq (fun _ _ _ _ _ _ us hl => match us, hl with | [_, _], _ => rfl) fun A outer s H E L' hL' hr tk =>
    (ss_one (sp_ret (se_and (se_callB (lfn_isi (kitT (e.xb 0 rfl))) rfl (e.free 3 rfl) boot_isinstance (sa_cons (se_var (i := 1) rfl (.inl rfl)) (sa_cons (se_gref rfl (e.glo 29 rfl)) sa_nil))) (se_one (se_cmp (lf_eq hr.hu) (se_attr (fdB_ok (e.xb 10 rfl)) (se_var (i := 0) rfl (.inl rfl))) (se_attr (fdB_ok (e.xb 10 rfl)) (se_var (i := 1) rfl (.inl rfl))) (nomark _))))))
theorem sc_Condition_len : FnScope ["self"] ["self"] (defScope (inClass (top 17) 4)) := ⟨rfl, rfl, rfl, by decide +kernel, rfl, by decide +kernel, by decide +kernel⟩
theorem fn_Condition_len {P : Program} {w : World} {K : Frag} {mg : Str → Option Value} {base : Heap} [L : Link K] (e : EnK K mg base) (hL : L.tabs = tabs K) : FnP P w K mg base 1 (He.ma K (He.ga K "Condition") "__len__") (M_Condition_len (adr K)) := by
  obtain ⟨fd, F⟩ := e.fd 10 rfl
  exact fnP_D (N := ["self"]) F sc_Condition_len (fun _ _ _ _ _ _ us hl => match us, hl with | [_], _ => rfl) fun A outer s H E L' hL' hr tk =>
    (ss_one (sp_ret (se_callB lfn_len rfl (e.free 4 rfl) boot_len (sa_cons (se_attr (fdB_ok (e.xb 10 rfl)) (se_var (i := 0) rfl (.inl rfl))) sa_nil))))
theorem sc_Condition_bool : FnScope ["self"] ["self"] (defScope (inClass (top 17) 5)) := ⟨rfl, rfl, rfl, by decide +kernel, rfl, by decide +kernel, by decide +kernel⟩
theorem fn_Condition_bool {P : Program} {w : World} {K : Frag} {mg : Str → Option Value} {base : Heap} [L : Link K] (e : EnK K mg base) (hL : L.tabs = tabs K) : FnP P w K mg base 1 (He.ma K (He.ga K "Condition") "__bool__") (M_Condition_bool (adr K)) := by
  obtain ⟨fd, F⟩ := e.fd 11 rfl
  exact fnP_D (N := ["self"]) F sc_Condition_bool (fun _ _ _ _ _ _ us hl => match us, hl with | [_], _ => rfl) fun A outer s H E L' hL' hr tk =>
    (ss_one (sp_ret se_bl))
theorem sc_Condition_str : FnScope ["self", "when", "then"] ["self"] (defScope (inClass (top 17) 6)) := ⟨rfl, rfl, rfl, by decide +kernel, rfl, by decide +kernel, by decide +kernel⟩
theorem fn_Condition_str {P : Program} {w : World} {K : Frag} {mg : Str → Option Value} {base : Heap} [L : Link K] (e : EnK K mg base) (hL : L.tabs = tabs K) : FnP P w K mg base 1 (He.ma K (He.ga K "Condition") "__str__") (M_Condition_str (adr K)) := by
  obtain ⟨fd, F⟩ := e.fd 12 rfl
  exact fnP_D (N := ["self", "when", "then"]) F sc_Condition_str (fun _ _ _ _ _ _ us hl => match us, hl with | [_], _ => rfl) fun A outer s H E L' hL' hr tk =>
    (ss_cons (sp_if (st_cmp (lf_eq hr.hu) (se_attr (fdB_ok (e.xb 10 rfl)) (se_var (i := 0) rfl (.inl rfl))) (se_tup sa_nil) (nomark _)) (ss_one (sp_ret se_str)) ss_nil)
    (ss_one (sp_ret (se_bm PySem.F.plainAttrs_str PySem.F.slot_str_join PySem.F.type_str_join lfm_join se_str (sa_cons (se_lc0 [("when", 1), ("then", 2)] rfl sc_Condition_str.nd (si_val (se_attr (fdB_ok (e.xb 10 rfl)) (se_var (i := 0) rfl (.inl rfl)))) (blkOk_by (by kernel_rfl)) (fun _ _ _ _ _ => (sgv_any rfl (sgvs_cons (sgv_name (i := 1) sc_Condition_str.nd rfl (.inl rfl) (.inr rfl) (by decide)) (sgvs_cons (sgv_name (i := 2) sc_Condition_str.nd rfl (.inl rfl) (.inr rfl) (by decide)) sgvs_nil)))) (fun _ _ _ _ _ => (se_joined (ms := [(m1 wFmt (mVar 1)), (mC (.str " > ")), (m1 wFmt (mVar 2))]) (.cons (se_fmt (se_var (i := 1) rfl (.inl rfl))) (.cons se_str (.cons (se_fmt (se_var (i := 2) rfl (.inl rfl))) .nil)))))) sa_nil)))))
theorem sc_Condition_and : FnScope ["self", "other", "more", "pair"] ["self", "other"] (defScope (inClass (top 17) 2)) := ⟨rfl, rfl, rfl, by decide +kernel, rfl, by decide +kernel, by decide +kernel⟩
theorem fn_Condition_and {P : Program} {w : World} {K : Frag} {mg : Str → Option Value} {base : Heap} [L : Link K] (e : EnK K mg base) (hL : L.tabs = tabs K) : FnP P w K mg base 6 (He.ma K (He.ga K "Condition") "__and__") (M_Condition_and (adr K)) := by
  obtain ⟨fd, F⟩ := e.fd 13 rfl
  exact fnP_D (N := ["self", "other", "more", "pair"]) F sc_Condition_and (fun _ _ _ _ _ _ us hl => match us, hl with | [_, _], _ => rfl) fun A outer s H E L' hL' hr tk =>
    (ss_cons (sp_if (st_not (st_val lf_truth (se_callB (lfn_isi (kitT (e.xb 0 rfl))) rfl (e.free 3 rfl) boot_isinstance (sa_cons (se_var (i := 1) rfl (.inl rfl)) (sa_cons (se_gref rfl (e.glo 29 rfl)) sa_nil))))) (ss_one (sp_raise (mkx_BadCondition e (hr.mono (by decide))) rfl tk rfl (e.glo 20 rfl) (e.keep 21 rfl) (sa_cons se_str sa_nil))) ss_nil)
    (ss_cons (sp_setLc1 (i := 2) [("pair", 3)] rfl sc_Condition_and.nd rfl rfl rfl (si_val (se_attr (fdB_ok (e.xb 10 rfl)) (se_var (i := 1) rfl (.inl rfl)))) (blkOk_by (by kernel_rfl)) (fun _ _ _ _ _ => (sgv_name (i := 3) sc_Condition_and.nd rfl (.inl rfl) (.inr rfl) (by decide))) (fun _ _ _ _ _ => (st_cmp (lf_notIn hr.hu1) (se_var (i := 3) rfl (.inl rfl)) (se_attr (fdB_ok (e.xb 10 rfl)) (se_var (i := 0) rfl (.inr (.inl rfl)))) (by rfl))) (fun _ _ _ _ _ => (se_var (i := 3) rfl (.inl rfl))))
    (ss_one (sp_ret (se_callSSf (lfn_make (mkB_ok (e.xb 11 rfl)) (fn_Condition_init (L := L') e (hL'.trans hL)) (hr.mono (by decide)) tk) rfl (e.glo 29 rfl) (e.keep 26 rfl) (sa_star (se_attr (fdB_ok (e.xb 10 rfl)) (se_var (i := 0) rfl (.inr (.inl rfl)))) (sa_star (se_var (i := 2) rfl (.inl rfl)) sa_nil)))))))
theorem sc__law_pen : FnScope ["script"] ["script"] (defScope (top 20)) := ⟨rfl, rfl, rfl, by decide +kernel, rfl, by decide +kernel, by decide +kernel⟩
theorem fn__law_pen {P : Program} {w : World} {K : Frag} {mg : Str → Option Value} {base : Heap} [L : Link K] (e : EnK K mg base) (hL : L.tabs = tabs K) : FnP P w K mg base 1 (He.ga K "_law_pen") (M__law_pen (adr K)) := by
  obtain ⟨fd, F⟩ := e.fd 14 rfl
  exact fnP_D (N := ["script"]) F sc__law_pen (fun _ _ _ _ _ _ us hl => match us, hl with | [_], _ => rfl) fun A outer s H E L' hL' hr tk =>
    (ss_one (sp_ret (se_lst (sa_cons (se_callTy lfn_list rfl (e.free 11 rfl) boot_list (sa_cons (se_slice (se_var (i := 0) rfl (.inl rfl)) so_none (so_some se_int) slW) sa_nil)) (sa_cons se_int (sa_cons se_int sa_nil))))))
theorem sc__law_draw : FnScope ["pen", "many", "digit", "at", "cell", "great", "mixed"] ["pen", "many"] (defScope (top 21)) := ⟨rfl, rfl, rfl, by decide +kernel, rfl, by decide +kernel, by decide +kernel⟩
theorem fn__law_draw {P : Program} {w : World} {K : Frag} {mg : Str → Option Value} {base : Heap} [L : Link K] (e : EnK K mg base) (hL : L.tabs = tabs K) : FnP P w K mg base 1 (He.ga K "_law_draw") (M__law_draw (adr K)) := by
  obtain ⟨fd, F⟩ := e.fd 15 rfl
  exact fnP_D (N := ["pen", "many", "digit", "at", "cell", "great", "mixed"]) F sc__law_draw (fun _ _ _ _ _ _ us hl => match us, hl with | [_, _], _ => rfl) fun A outer s H E L' hL' hr tk =>
    (ss_cons (sp_if (st_cmp lf_gt (se_ix (se_var (i := 0) rfl (.inl rfl)) se_int) se_int (nomark _)) (ss_cons (sp_set (i := 2) sc__law_draw.nd rfl (.inl rfl) (.inl rfl) (se_bin lf_mod (se_callTy lfn_int rfl (e.free 30 rfl) boot_int (sa_cons (se_ix (se_var (i := 0) rfl (.inl rfl)) se_int) sa_nil)) (se_var (i := 1) rfl (.inl rfl))))
    (ss_cons (sp_asg (se_bin lf_div (se_callTy lfn_int rfl (e.free 30 rfl) boot_int (sa_cons (se_ix (se_var (i := 0) rfl (.inl rfl)) se_int) sa_nil)) (se_var (i := 1) rfl (.inl rfl))) (sg_item (se_var (i := 0) rfl (.inl rfl)) se_int))
    (ss_one (sp_ret (se_var (i := 2) rfl (.inl rfl)))))) ss_nil)
    (ss_cons (sp_set (i := 3) sc__law_draw.nd rfl (.inl rfl) (.inl rfl) (se_ix (se_var (i := 0) rfl (.inl rfl)) se_int))
    (ss_cons (sp_asg (se_bin lf_add (se_var (i := 3) rfl (.inl rfl)) se_int) (sg_item (se_var (i := 0) rfl (.inl rfl)) se_int))
    (ss_cons (sp_set (i := 4) sc__law_draw.nd rfl (.inl rfl) (.inl rfl) (se_bin lf_add (se_bin lf_mul se_int (se_var (i := 3) rfl (.inl rfl))) se_int))
    (ss_cons (sp_if (st_cmp (lf_ne hr.hu) (se_ix (se_var (i := 0) rfl (.inl rfl)) se_int) (se_lst sa_nil) (nomark _)) (ss_one (sp_set (i := 4) sc__law_draw.nd rfl (.inl rfl) (.inl rfl) (se_ix (se_ix (se_var (i := 0) rfl (.inl rfl)) se_int) (se_bin lf_mod (se_callTy lfn_int rfl (e.free 30 rfl) boot_int (sa_cons (se_var (i := 3) rfl (.inl rfl)) sa_nil)) (se_callB lfn_len rfl (e.free 4 rfl) boot_len (sa_cons (se_ix (se_var (i := 0) rfl (.inl rfl)) se_int) sa_nil)))))) ss_nil)
    (ss_cons (sp_if (st_w (sw_and (st_cmp lf_lt (se_var (i := 3) rfl (.inl rfl)) (se_callB lfn_len rfl (e.free 4 rfl) boot_len (sa_cons (se_ix (se_var (i := 0) rfl (.inl rfl)) se_int) sa_nil)) (nomark _)) (sw_and1 (st_cmp lf_ge (se_callB lfn_abs rfl (e.free 31 rfl) boot_abs (sa_cons (se_var (i := 4) rfl (.inl rfl)) sa_nil)) (se_bin lf_pow se_int se_int) (nomark _))))) (ss_cons (sp_set (i := 5) sc__law_draw.nd rfl (.inl rfl) (.inl rfl) (se_bin lf_add (se_bin lf_mul se_int (se_bin lf_sub (se_callB lfn_abs rfl (e.free 31 rfl) boot_abs (sa_cons (se_var (i := 4) rfl (.inl rfl)) sa_nil)) (se_bin lf_pow se_int se_int))) (se_callTy lfn_int rfl (e.free 30 rfl) boot_int (sa_cons (se_cmp lf_lt (se_var (i := 4) rfl (.inl rfl)) se_int (nomark _)) sa_nil))))
    (ss_cons (sp_asg (se_bin lf_div (se_callTy lfn_int rfl (e.free 30 rfl) boot_int (sa_cons (se_var (i := 5) rfl (.inl rfl)) sa_nil)) (se_var (i := 1) rfl (.inl rfl))) (sg_item (se_var (i := 0) rfl (.inl rfl)) se_int))
    (ss_one (sp_ret (se_bin lf_mod (se_callTy lfn_int rfl (e.free 30 rfl) boot_int (sa_cons (se_var (i := 5) rfl (.inl rfl)) sa_nil)) (se_var (i := 1) rfl (.inl rfl))))))) ss_nil)
    (ss_cons (sp_set (i := 6) sc__law_draw.nd rfl (.inl rfl) (.inl rfl) (se_bin lf_mod (se_callTy lfn_int rfl (e.free 30 rfl) boot_int (sa_cons (se_bin lf_pow (se_bin lf_add (se_bin lf_add (se_bin lf_mod (se_callTy lfn_int rfl (e.free 30 rfl) boot_int (sa_cons (se_var (i := 4) rfl (.inl rfl)) sa_nil)) se_int) (se_bin lf_mul se_int (se_var (i := 3) rfl (.inl rfl)))) se_int) se_int) sa_nil)) se_int))
    (ss_cons (sp_set (i := 6) sc__law_draw.nd rfl (.inl rfl) (.inl rfl) (se_bin lf_mod (se_callTy lfn_int rfl (e.free 30 rfl) boot_int (sa_cons (se_bin lf_pow (se_bin lf_add (se_bin lf_add (se_bin lf_mul (se_var (i := 6) rfl (.inl rfl)) (se_bin lf_add (se_bin lf_mul se_int (se_var (i := 3) rfl (.inl rfl))) se_int)) (se_bin lf_mul (se_bin lf_mul se_int (se_var (i := 3) rfl (.inl rfl))) (se_var (i := 3) rfl (.inl rfl)))) se_int) se_int) sa_nil)) se_int))
    (ss_one (sp_ret (se_bin lf_mod (se_callTy lfn_int rfl (e.free 30 rfl) boot_int (sa_cons (se_bin lf_div (se_var (i := 6) rfl (.inl rfl)) se_int) sa_nil)) (se_var (i := 1) rfl (.inl rfl)))))))))))))
theorem sc__law_pick : FnScope ["pen", "some"] ["pen", "some"] (defScope (top 22)) := ⟨rfl, rfl, rfl, by decide +kernel, rfl, by decide +kernel, by decide +kernel⟩
theorem fn__law_pick {P : Program} {w : World} {K : Frag} {mg : Str → Option Value} {base : Heap} [L : Link K] (e : EnK K mg base) (hL : L.tabs = tabs K) : FnP P w K mg base 2 (He.ga K "_law_pick") (M__law_pick (adr K)) := by
  obtain ⟨fd, F⟩ := e.fd 16 rfl
  exact fnP_D (N := ["pen", "some"]) F sc__law_pick (fun _ _ _ _ _ _ us hl => match us, hl with | [_, _], _ => rfl) fun A outer s H E L' hL' hr tk =>
    (ss_one (sp_ret (se_ix (se_var (i := 1) rfl (.inl rfl)) (se_call (fn__law_draw (L := L') e (hL'.trans hL)) (hr.mono (by decide)) tk rfl (e.glo 32 rfl) (e.keep 33 rfl) (sa_cons (se_var (i := 0) rfl (.inl rfl)) (sa_cons (se_callB lfn_len rfl (e.free 4 rfl) boot_len (sa_cons (se_var (i := 1) rfl (.inl rfl)) sa_nil)) sa_nil))))))
theorem sc__law_heard : FnScope ["ask", "caught", "some", "error"] ["ask"] (defScope (top 23)) := ⟨rfl, rfl, rfl, by decide +kernel, rfl, by decide +kernel, by decide +kernel⟩
theorem fl__law_heard {P : Program} {w : World} {K : Frag} {mg : Str → Option Value} {base : Heap} [L : Link K] (e : EnK K mg base) (hL : L.tabs = tabs K) : FnL P w K mg base 14 (He.ga K "_law_heard") ["ask", "caught", "some", "error"] "_law_heard" (defScope (top 23)) (.ref (codeA K (He.ga K "_law_heard"))) "ask" (L__law_heard (adr K)) := by
  obtain ⟨fd, F⟩ := e.fd 17 rfl
  exact fnL_D (N := ["ask", "caught", "some", "error"]) F sc__law_heard (fun _ _ _ _ _ _ us hl => match us, hl with | [_], _ => rfl) fun A outer s H E g mc L' hL' hr tk act =>
    (ss_cons (sp_par (i := 1) (j := 2) rfl sc__law_heard.nd rfl rfl (by decide) rfl rfl (sa_cons se_non (sa_cons (se_lst sa_nil) sa_nil)) rfl)
    (ss_cons (sp_tryAs (i := 3) (catT (e.xb 17 rfl)) rfl rfl sc__law_heard.nd rfl rfl ⟨rfl, rfl, .inl (e.glo 34 rfl)⟩ tk (fun _ _ _ tkt _ => (ss_one (sp_ret (se_lst (sa_cons (act _ _ _ _ _ tkt) sa_nil))))) (fun _ _ _ => (ss_one (sp_set (i := 1) sc__law_heard.nd rfl (.inl rfl) (.inl rfl) (se_var (i := 3) rfl (.inl rfl))))))
    (ss_cons (sp_if (st_val lf_truth (se_callB (lfn_isi (kitT (e.xb 0 rfl))) rfl (e.free 3 rfl) boot_isinstance (sa_cons (se_var (i := 1) rfl (.inl rfl)) (sa_cons (se_gref rfl (e.glo 20 rfl)) sa_nil)))) (ss_one (sp_expr (se_bm PySem.F.plainAttrs_list PySem.F.slot_list_append PySem.F.type_list_append lfm_append (se_var (i := 2) rfl (.inl rfl)) (sa_cons (se_tup (sa_cons se_str (sa_cons (se_attr (fdB_ok (e.xb 16 rfl)) (se_var (i := 1) rfl (.inl rfl))) sa_nil))) sa_nil)))) ss_nil)
    (ss_cons (sp_if (st_val lf_truth (se_callB (lfn_isi (kitT (e.xb 0 rfl))) rfl (e.free 3 rfl) boot_isinstance (sa_cons (se_var (i := 1) rfl (.inl rfl)) (sa_cons (se_gref rfl (e.glo 23 rfl)) sa_nil)))) (ss_one (sp_expr (se_bm PySem.F.plainAttrs_list PySem.F.slot_list_append PySem.F.type_list_append lfm_append (se_var (i := 2) rfl (.inl rfl)) (sa_cons (se_tup (sa_cons se_str (sa_cons (se_attr (fdB_ok (e.xb 15 rfl)) (se_var (i := 1) rfl (.inl rfl))) (sa_cons (se_attr (fdB_ok (e.xb 14 rfl)) (se_var (i := 1) rfl (.inl rfl))) sa_nil)))) sa_nil)))) ss_nil)
    (ss_cons (sp_if (st_val lf_truth (se_callB (lfn_isi (kitT (e.xb 0 rfl))) rfl (e.free 3 rfl) boot_isinstance (sa_cons (se_var (i := 1) rfl (.inl rfl)) (sa_cons (se_gref rfl (e.glo 15 rfl)) sa_nil)))) (ss_one (sp_expr (se_bm PySem.F.plainAttrs_list PySem.F.slot_list_append PySem.F.type_list_append lfm_append (se_var (i := 2) rfl (.inl rfl)) (sa_cons (se_tup (sa_cons se_str (sa_cons (se_attr (fdB_ok (e.xb 13 rfl)) (se_var (i := 1) rfl (.inl rfl))) (sa_cons (se_attr (fdB_ok (e.xb 12 rfl)) (se_var (i := 1) rfl (.inl rfl))) sa_nil)))) sa_nil)))) ss_nil)
    (ss_one (sp_ret (se_if (st_cmp (lf_eq hr.hu) (se_callB lfn_len rfl (e.free 4 rfl) boot_len (sa_cons (se_var (i := 2) rfl (.inl rfl)) sa_nil)) se_int (nomark _)) (se_ix (se_var (i := 2) rfl (.inl rfl)) se_int) (se_tup (sa_cons se_str sa_nil))))))))))
theorem sc__law_words : FnScope ["pen", "most", "menu", "turn"] ["pen", "most"] (defScope (top 24)) := ⟨rfl, rfl, rfl, by decide +kernel, rfl, by decide +kernel, by decide +kernel⟩
theorem fn__law_words {P : Program} {w : World} {K : Frag} {mg : Str → Option Value} {base : Heap} [L : Link K] (e : EnK K mg base) (hL : L.tabs = tabs K) : FnP P w K mg base 3 (He.ga K "_law_words") (M__law_words (adr K)) := by
  obtain ⟨fd, F⟩ := e.fd 18 rfl
  exact fnP_D (N := ["pen", "most", "menu", "turn"]) F sc__law_words (fun _ _ _ _ _ _ us hl => match us, hl with | [_, _], _ => rfl) fun A outer s H E L' hL' hr tk =>
    (ss_cons (sp_set (i := 2) sc__law_words.nd rfl (.inr rfl) (.inl rfl) (se_lst (sa_cons se_str (sa_cons se_str (sa_cons se_str (sa_cons se_str (sa_cons se_str (sa_cons se_str (sa_cons (se_bin lf_mulS se_str se_int) (sa_cons se_str (sa_cons se_str sa_nil)))))))))))
    (ss_one (sp_ret (se_lc0 [("turn", 3)] rfl sc__law_words.nd (si_range1 rfl (e.free 22 rfl) (sa_cons (se_call (fn__law_draw (L := L') e (hL'.trans hL)) (hr.mono (by decide)) tk rfl (e.glo 32 rfl) (e.keep 33 rfl) (sa_cons (se_var (i := 0) rfl (.inr (.inl rfl))) (sa_cons (se_bin lf_add (se_var (i := 1) rfl (.inl rfl)) se_int) sa_nil))) sa_nil)) (blkOk_by (by kernel_rfl)) (fun _ _ _ _ _ => (sgv_name (i := 3) sc__law_words.nd rfl (.inl rfl) (.inr rfl) (by decide))) (fun _ _ _ _ _ => (se_tup (sa_cons (se_call (fn__law_pick (L := L') e (hL'.trans hL)) (hr.mono (by decide)) tk0 rfl (e.glo 35 rfl) (e.keep 36 rfl) (sa_cons (se_var (i := 0) rfl (.inr (.inl rfl))) (sa_cons (se_var (i := 2) rfl (.inr (.inl rfl))) sa_nil))) (sa_cons (se_call (fn__law_pick (L := L') e (hL'.trans hL)) (hr.mono (by decide)) tk0 rfl (e.glo 35 rfl) (e.keep 36 rfl) (sa_cons (se_var (i := 0) rfl (.inr (.inl rfl))) (sa_cons (se_var (i := 2) rfl (.inr (.inl rfl))) sa_nil))) sa_nil))))))))
theorem sc__law_read : FnScope ["text"] ["text"] (defScope (top 25)) := ⟨rfl, rfl, rfl, by decide +kernel, rfl, by decide +kernel, by decide +kernel⟩
theorem fn__law_read {P : Program} {w : World} {K : Frag} {mg : Str → Option Value} {base : Heap} [L : Link K] (e : EnK K mg base) (hL : L.tabs = tabs K) : FnP P w K mg base 15 (He.ga K "_law_read") (M__law_read (adr K)) := by
  obtain ⟨fd, F⟩ := e.fd 19 rfl
  exact fnP_D (N := ["text"]) F sc__law_read (fun _ _ _ _ _ _ us hl => match us, hl with | [_], _ => rfl) fun A outer s H E L' hL' hr tk =>
    (ss_one (sp_ret (se_lam (k := 12) rfl (e.glo 37 rfl) (e.keep 38 rfl) rfl (.inl rfl) (fun Lz hLz => fl__law_heard (L := Lz) e (hLz.trans (hL'.trans hL))) (hM__law_heard (adr K)) (e.T _ (List.mem_of_getElem? (i := 0) rfl)) rfl (by rw [show Link.tabs _ = _ from (hL'.trans hL)]; exact List.mem_of_getElem? (i := 0) rfl) (by rw [show Link.tabs _ = _ from (hL'.trans hL)]; exact tab_u0 e) (hr.mono (by decide)) tk (lamS_by (by kernel_rfl)) rfl (fun _ _ _ _ _ => rfl) (fun Ll hLl _ _ _ _ _ _ _ hrl => withLi (hLl.trans (hL'.trans hL)) fun Lq hLq => (se_cmeth (creadB_ok (e.xb 18 rfl)) (cmB_ok (e.xb 19 rfl)) (fn_Condition_from_text (L := Lq) e hLq) (hrl.mono (by decide)) (takes_of rfl rfl rfl rfl) rfl (e.glo 29 rfl) (sa_cons (se_var (i := 0) rfl (.inr (.inr rfl))) sa_nil))))))
theorem sc__law_all : FnScope ["pairs", "found", "pair"] ["pairs"] (defScope (top 26)) := ⟨rfl, rfl, rfl, by decide +kernel, rfl, by decide +kernel, by decide +kernel⟩
theorem fn__law_all {P : Program} {w : World} {K : Frag} {mg : Str → Option Value} {base : Heap} [L : Link K] (e : EnK K mg base) (hL : L.tabs = tabs K) : FnP P w K mg base 7 (He.ga K "_law_all") (M__law_all (adr K)) := by
  obtain ⟨fd, F⟩ := e.fd 20 rfl
  exact fnP_D (N := ["pairs", "found", "pair"]) F sc__law_all (fun _ _ _ _ _ _ us hl => match us, hl with | [_], _ => rfl) fun A outer s H E L' hL' hr tk =>
    (ss_cons (sp_set (i := 1) sc__law_all.nd rfl (.inl rfl) (.inl rfl) (se_callG0 (lfn_make (mkB_ok (e.xb 11 rfl)) (fn_Condition_init (L := L') e (hL'.trans hL)) (hr.mono (by decide)) tk) rfl (e.glo 29 rfl) (e.keep 26 rfl)))
    (ss_cons (sp_for (passes_of rfl) rfl (si_val (se_var (i := 0) rfl (.inl rfl))) (sg_name (i := 2) sc__law_all.nd rfl (.inl rfl) (.inl rfl)) (ss_one (sp_set (i := 1) sc__law_all.nd rfl (.inl rfl) (.inl rfl) (se_bin (lf_binX (op := .BitAnd) (kitT (e.xb 0 rfl)) (ownOk_one (e.xb 20 rfl) (fn_Condition_and (L := L') e (hL'.trans hL))) (bin_one (e.xb 21 rfl)) (hr.mono (by decide)) tk) (se_var (i := 1) rfl (.inl rfl)) (se_callG (lfn_make (mkB_ok (e.xb 11 rfl)) (fn_Condition_init (L := L') e (hL'.trans hL)) (hr.mono (by decide)) tk) rfl (e.glo 29 rfl) (e.keep 26 rfl) (sa_cons (se_var (i := 2) rfl (.inl rfl)) sa_nil))))))
    (ss_one (sp_ret (se_var (i := 1) rfl (.inl rfl))))))
theorem sc__law_is_word : FnScope ["word", "sign"] ["word"] (defScope (top 27)) := ⟨rfl, rfl, rfl, by decide +kernel, rfl, by decide +kernel, by decide +kernel⟩
theorem fn__law_is_word {P : Program} {w : World} {K : Frag} {mg : Str → Option Value} {base : Heap} [L : Link K] (e : EnK K mg base) (hL : L.tabs = tabs K) : FnP P w K mg base 1 (He.ga K "_law_is_word") (M__law_is_word (adr K)) := by
  obtain ⟨fd, F⟩ := e.fd 21 rfl
  exact fnP_D (N := ["word", "sign"]) F sc__law_is_word (fun _ _ _ _ _ _ us hl => match us, hl with | [_], _ => rfl) fun A outer s H E L' hL' hr tk =>
    (ss_cons (sp_if (st_cmp (lf_in hr.hu1) (se_var (i := 0) rfl (.inl rfl)) (se_tup (sa_cons se_str (sa_cons se_str sa_nil))) (by rfl)) (ss_one (sp_ret se_bl)) ss_nil)
    (ss_one (sp_ret (se_and (se_chain lf_le lf_le se_int (se_callB lfn_len rfl (e.free 4 rfl) boot_len (sa_cons (se_var (i := 0) rfl (.inl rfl)) sa_nil)) se_int) (se_one (se_cmp (lf_eq hr.hu) (se_lc1 [("sign", 1)] rfl sc__law_is_word.nd (si_val (se_var (i := 0) rfl (.inl rfl))) (blkOk_by (by kernel_rfl)) (fun _ _ _ _ _ => (sgv_name (i := 1) sc__law_is_word.nd rfl (.inl rfl) (.inr rfl) (by decide))) (fun _ _ _ _ _ => (st_cmp (lf_notIn hr.hu1) (se_var (i := 1) rfl (.inl rfl)) se_str (by rfl))) (fun _ _ _ _ _ => (se_var (i := 1) rfl (.inl rfl)))) (se_lst sa_nil) (nomark _)))))))
theorem sc__law_due : FnScope ["text", "words", "at", "word"] ["text"] (defScope (top 28)) := ⟨rfl, rfl, rfl, by decide +kernel, rfl, by decide +kernel, by decide +kernel⟩
theorem fn__law_due {P : Program} {w : World} {K : Frag} {mg : Str → Option Value} {base : Heap} [L : Link K] (e : EnK K mg base) (hL : L.tabs = tabs K) : FnP P w K mg base 2 (He.ga K "_law_due") (M__law_due (adr K)) := by
  obtain ⟨fd, F⟩ := e.fd 22 rfl
  exact fnP_D (N := ["text", "words", "at", "word"]) F sc__law_due (fun _ _ _ _ _ _ us hl => match us, hl with | [_], _ => rfl) fun A outer s H E L' hL' hr tk =>
    (ss_cons (sp_if (st_cmp (lf_eq hr.hu) (se_var (i := 0) rfl (.inl rfl)) se_str (nomark _)) (ss_one (sp_ret se_non)) ss_nil)
    (ss_cons (sp_set (i := 1) sc__law_due.nd rfl (.inl rfl) (.inl rfl) (se_bm PySem.F.plainAttrs_str PySem.F.slot_str_split PySem.F.type_str_split lfm_split (se_var (i := 0) rfl (.inl rfl)) (sa_cons se_str sa_nil)))
    (ss_cons (sp_for (passes_of rfl) rfl (si_enum rfl (e.free 17 rfl) (sa_cons (se_var (i := 1) rfl (.inl rfl)) sa_nil)) (sg_tup rfl (sgs_cons (sg_name (i := 2) sc__law_due.nd rfl (.inl rfl) (.inl rfl)) (sgs_cons (sg_name (i := 3) sc__law_due.nd rfl (.inl rfl) (.inl rfl)) sgs_nil))) (ss_one (sp_if (st_w (sw_or (st_w (sw_and (st_inR3 rfl (e.free 22 rfl) (se_var (i := 2) rfl (.inl rfl)) (sa_cons se_int (sa_cons (se_callB lfn_len rfl (e.free 4 rfl) boot_len (sa_cons (se_var (i := 1) rfl (.inl rfl)) sa_nil)) (sa_cons se_int sa_nil)))) (sw_and1 (st_not (st_val lf_truth (se_call (fn__law_is_word (L := L') e (hL'.trans hL)) (hr.mono (by decide)) tk rfl (e.glo 39 rfl) (e.keep 40 rfl) (sa_cons (se_var (i := 3) rfl (.inl rfl)) sa_nil))))))) (sw_or (st_w (sw_and (st_inR3 rfl (e.free 22 rfl) (se_var (i := 2) rfl (.inl rfl)) (sa_cons se_int (sa_cons (se_callB lfn_len rfl (e.free 4 rfl) boot_len (sa_cons (se_var (i := 1) rfl (.inl rfl)) sa_nil)) (sa_cons se_int sa_nil)))) (sw_and1 (st_cmp (lf_ne hr.hu) (se_var (i := 3) rfl (.inl rfl)) se_str (nomark _))))) (sw_or1 (st_w (sw_and (st_inR3 rfl (e.free 22 rfl) (se_var (i := 2) rfl (.inl rfl)) (sa_cons se_int (sa_cons (se_callB lfn_len rfl (e.free 4 rfl) boot_len (sa_cons (se_var (i := 1) rfl (.inl rfl)) sa_nil)) (sa_cons se_int sa_nil)))) (sw_and1 (st_cmp (lf_ne hr.hu) (se_var (i := 3) rfl (.inl rfl)) se_str (nomark _))))))))) (ss_one (sp_ret (se_tup (sa_cons se_str (sa_cons se_int (sa_cons (se_var (i := 2) rfl (.inl rfl)) sa_nil)))))) ss_nil)))
    (ss_one (sp_ret (se_if (st_inR3 rfl (e.free 22 rfl) (se_callB lfn_len rfl (e.free 4 rfl) boot_len (sa_cons (se_var (i := 1) rfl (.inl rfl)) sa_nil)) (sa_cons se_int (sa_cons (se_bin lf_add (se_callB lfn_len rfl (e.free 4 rfl) boot_len (sa_cons (se_var (i := 1) rfl (.inl rfl)) sa_nil)) se_int) (sa_cons se_int sa_nil)))) se_non (se_tup (sa_cons se_str (sa_cons se_int (sa_cons (se_callB lfn_len rfl (e.free 4 rfl) boot_len (sa_cons (se_var (i := 1) rfl (.inl rfl)) sa_nil)) sa_nil))))))))))
theorem sc__law_texts_right : FnScope ["pen", "pairs", "made", "some", "turn", "words", "at", "way", "bent", "due", "told", "odd", "text", "when", "then"] ["pen", "pairs"] (defScope (top 29)) := ⟨rfl, rfl, rfl, by decide +kernel, rfl, by decide +kernel, by decide +kernel⟩
theorem fn__law_texts_right {P : Program} {w : World} {K : Frag} {mg : Str → Option Value} {base : Heap} [L : Link K] (e : EnK K mg base) (hL : L.tabs = tabs K) : FnP P w K mg base 16 (He.ga K "_law_texts_right") (M__law_texts_right (adr K)) := by
  obtain ⟨fd, F⟩ := e.fd 23 rfl
  exact fnP_D (N := ["pen", "pairs", "made", "some", "turn", "words", "at", "way", "bent", "due", "told", "odd", "text", "when", "then"]) F sc__law_texts_right (fun _ _ _ _ _ _ us hl => match us, hl with | [_, _], _ => rfl) fun A outer s H E L' hL' hr tk =>
    (ss_cons (sp_set (i := 12) sc__law_texts_right.nd rfl (.inr rfl) (.inl rfl) (se_if (st_cmp (lf_ne hr.hu) (se_var (i := 1) rfl (.inl rfl)) (se_lst sa_nil) (nomark _)) (se_bm PySem.F.plainAttrs_str PySem.F.slot_str_join PySem.F.type_str_join lfm_join se_str (sa_cons (se_lc0 [("when", 13), ("then", 14)] rfl sc__law_texts_right.nd (si_val (se_var (i := 1) rfl (.inl rfl))) (blkOk_by (by kernel_rfl)) (fun _ _ _ _ _ => (sgv_any rfl (sgvs_cons (sgv_name (i := 13) sc__law_texts_right.nd rfl (.inl rfl) (.inr rfl) (by decide)) (sgvs_cons (sgv_name (i := 14) sc__law_texts_right.nd rfl (.inl rfl) (.inr rfl) (by decide)) sgvs_nil)))) (fun _ _ _ _ _ => (se_bin lf_add (se_bin lf_add (se_var (i := 13) rfl (.inl rfl)) se_str) (se_var (i := 14) rfl (.inl rfl))))) sa_nil)) se_str))
    (ss_cons (sp_set (i := 2) sc__law_texts_right.nd rfl (.inl rfl) (.inl rfl) (se_call (fn__law_read (L := L') e (hL'.trans hL)) (hr.mono (by decide)) tk rfl (e.glo 41 rfl) (e.keep 42 rfl) (sa_cons (se_var (i := 12) rfl (.inr (.inl rfl))) sa_nil)))
    (ss_cons (sp_if (st_w (sw_or (st_not (st_val lf_truth (se_callB (lfn_isi (kitT (e.xb 0 rfl))) rfl (e.free 3 rfl) boot_isinstance (sa_cons (se_var (i := 2) rfl (.inl rfl)) (sa_cons (se_bty rfl (e.free 11 rfl) boot_list) sa_nil))))) (sw_or (st_cmp (lf_ne hr.hu) (se_callTy (lfn_strX (ownOk_one (e.xb 22 rfl) (fn_Condition_str (L := L') e (hL'.trans hL))) (hr.mono (by decide)) tk) rfl (e.free 2 rfl) boot_str (sa_cons (se_ix (se_var (i := 2) rfl (.inl rfl)) se_int) sa_nil)) (se_var (i := 12) rfl (.inr (.inl rfl))) (nomark _)) (sw_or1 (st_cmp (lf_ne hr.hu) (se_callTy lfn_list rfl (e.free 11 rfl) boot_list (sa_cons (se_attr (fdB_ok (e.xb 10 rfl)) (se_ix (se_var (i := 2) rfl (.inl rfl)) se_int)) sa_nil)) (se_var (i := 1) rfl (.inl rfl)) (nomark _)))))) (ss_one (sp_ret se_bl)) ss_nil)
    (ss_cons (sp_set (i := 3) sc__law_texts_right.nd rfl (.inl rfl) (.inl rfl) (se_lst (sa_cons se_str (sa_cons se_str (sa_cons se_str (sa_cons se_str (sa_cons se_str (sa_cons se_str (sa_cons se_str (sa_cons se_str (sa_cons se_str (sa_cons (se_bin lf_mulS se_str se_int) (sa_cons se_str (sa_cons se_str sa_nil))))))))))))))
    (ss_cons (sp_for (passes_of rfl) rfl (si_range1 rfl (e.free 22 rfl) (sa_cons se_int sa_nil)) (sg_name (i := 4) sc__law_texts_right.nd rfl (.inl rfl) (.inl rfl)) (ss_cons (sp_set (i := 5) sc__law_texts_right.nd rfl (.inl rfl) (.inl rfl) (se_bm PySem.F.plainAttrs_str PySem.F.slot_str_split PySem.F.type_str_split lfm_split (se_var (i := 12) rfl (.inr (.inl rfl))) (sa_cons se_str sa_nil)))
    (ss_cons (sp_par (i := 6) (j := 7) rfl sc__law_texts_right.nd rfl rfl (by decide) rfl rfl (sa_cons (se_call (fn__law_draw (L := L') e (hL'.trans hL)) (hr.mono (by decide)) tk rfl (e.glo 32 rfl) (e.keep 33 rfl) (sa_cons (se_var (i := 0) rfl (.inl rfl)) (sa_cons (se_bin lf_add (se_callB lfn_len rfl (e.free 4 rfl) boot_len (sa_cons (se_var (i := 5) rfl (.inl rfl)) sa_nil)) se_int) sa_nil))) (sa_cons (se_call (fn__law_draw (L := L') e (hL'.trans hL)) (hr.mono (by decide)) tk rfl (e.glo 32 rfl) (e.keep 33 rfl) (sa_cons (se_var (i := 0) rfl (.inl rfl)) (sa_cons se_int sa_nil))) sa_nil)) rfl)
    (ss_cons (sp_set (i := 8) sc__law_texts_right.nd rfl (.inl rfl) (.inl rfl) (se_bm PySem.F.plainAttrs_str PySem.F.slot_str_join PySem.F.type_str_join lfm_join se_str (sa_cons (se_bin lf_add (se_bin lf_add (se_slice (se_var (i := 5) rfl (.inl rfl)) so_none (so_some (se_var (i := 6) rfl (.inl rfl))) slW) (se_bin lf_mul (se_lst (sa_cons (se_call (fn__law_pick (L := L') e (hL'.trans hL)) (hr.mono (by decide)) tk rfl (e.glo 35 rfl) (e.keep 36 rfl) (sa_cons (se_var (i := 0) rfl (.inl rfl)) (sa_cons (se_var (i := 3) rfl (.inl rfl)) sa_nil))) sa_nil)) (se_callTy lfn_int rfl (e.free 30 rfl) boot_int (sa_cons (se_cmp lf_gt (se_var (i := 7) rfl (.inl rfl)) se_int (nomark _)) sa_nil)))) (se_slice (se_var (i := 5) rfl (.inl rfl)) (so_some (se_bin lf_add (se_var (i := 6) rfl (.inl rfl)) (se_callTy lfn_int rfl (e.free 30 rfl) boot_int (sa_cons (se_cmp lf_lt (se_var (i := 7) rfl (.inl rfl)) se_int (nomark _)) sa_nil)))) so_none slW)) sa_nil)))
    (ss_cons (sp_par (i := 9) (j := 10) rfl sc__law_texts_right.nd rfl rfl (by decide) rfl rfl (sa_cons (se_call (fn__law_due (L := L') e (hL'.trans hL)) (hr.mono (by decide)) tk rfl (e.glo 44 rfl) (e.keep 45 rfl) (sa_cons (se_var (i := 8) rfl (.inl rfl)) sa_nil)) (sa_cons (se_call (fn__law_read (L := L') e (hL'.trans hL)) (hr.mono (by decide)) tk rfl (e.glo 41 rfl) (e.keep 42 rfl) (sa_cons (se_var (i := 8) rfl (.inl rfl)) sa_nil)) sa_nil)) rfl)
    (ss_one (sp_if (st_w (sw_or (st_w (sw_and (st_cmp lf_notN (se_var (i := 9) rfl (.inl rfl)) se_non (nomark _)) (sw_and1 (st_cmp (lf_ne hr.hu) (se_callB (lfn_repr hr.gd hr.hu) rfl (e.free 43 rfl) boot_repr (sa_cons (se_var (i := 10) rfl (.inl rfl)) sa_nil)) (se_callB (lfn_repr hr.gd hr.hu) rfl (e.free 43 rfl) boot_repr (sa_cons (se_var (i := 9) rfl (.inl rfl)) sa_nil)) (nomark _))))) (sw_or1 (st_w (sw_and (st_cmp lf_isN (se_var (i := 9) rfl (.inl rfl)) se_non (nomark _)) (sw_and1 (st_w (sw_or (st_not (st_val lf_truth (se_callB (lfn_isi (kitT (e.xb 0 rfl))) rfl (e.free 3 rfl) boot_isinstance (sa_cons (se_var (i := 10) rfl (.inl rfl)) (sa_cons (se_bty rfl (e.free 11 rfl) boot_list) sa_nil))))) (sw_or1 (st_cmp (lf_ne hr.hu) (se_callTy (lfn_strX (ownOk_one (e.xb 22 rfl) (fn_Condition_str (L := L') e (hL'.trans hL))) (hr.mono (by decide)) tk) rfl (e.free 2 rfl) boot_str (sa_cons (se_ix (se_var (i := 10) rfl (.inl rfl)) se_int) sa_nil)) (se_var (i := 8) rfl (.inl rfl)) (nomark _))))))))))) (ss_one (sp_ret se_bl)) ss_nil)))))))
    (ss_cons (sp_set (i := 11) sc__law_texts_right.nd rfl (.inl rfl) (.inl rfl) (se_call (fn__law_pick (L := L') e (hL'.trans hL)) (hr.mono (by decide)) tk rfl (e.glo 35 rfl) (e.keep 36 rfl) (sa_cons (se_var (i := 0) rfl (.inl rfl)) (sa_cons (se_lst (sa_cons se_non (sa_cons se_int (sa_cons (se_lst (sa_cons se_str sa_nil)) (sa_cons se_bl (sa_cons (se_ix (se_var (i := 2) rfl (.inl rfl)) se_int) (sa_cons (se_tup sa_nil) sa_nil))))))) sa_nil))))
    (ss_one (sp_ret (se_and (se_cmp (lf_eq hr.hu) (se_callB (lfn_repr hr.gd hr.hu) rfl (e.free 43 rfl) boot_repr (sa_cons (se_call (fn__law_read (L := L') e (hL'.trans hL)) (hr.mono (by decide)) tk rfl (e.glo 41 rfl) (e.keep 42 rfl) (sa_cons (se_var (i := 11) rfl (.inl rfl)) sa_nil)) sa_nil)) (se_callB (lfn_repr hr.gd hr.hu) rfl (e.free 43 rfl) boot_repr (sa_cons (se_tup (sa_cons se_str (sa_cons se_int (sa_cons se_int sa_nil)))) sa_nil)) (nomark _)) (se_one (se_cmp (lf_eq hr.hu) (se_callB (lfn_repr hr.gd hr.hu) rfl (e.free 43 rfl) boot_repr (sa_cons (se_attr (fdB_ok (e.xb 10 rfl)) (se_ix (se_lam (k := 12) rfl (e.glo 37 rfl) (e.keep 38 rfl) rfl (.inl rfl) (fun Lz hLz => fl__law_heard (L := Lz) e (hLz.trans (hL'.trans hL))) (hM__law_heard (adr K)) (e.T _ (List.mem_of_getElem? (i := 1) rfl)) rfl (by rw [show Link.tabs _ = _ from (hL'.trans hL)]; exact List.mem_of_getElem? (i := 1) rfl) (by rw [show Link.tabs _ = _ from (hL'.trans hL)]; exact tab_u1 e) (hr.mono (by decide)) tk (lamS_by (by kernel_rfl)) rfl (fun _ _ _ _ _ => rfl) (fun Ll hLl _ _ _ _ _ _ _ hrl => withLi (hLl.trans (hL'.trans hL)) fun Lq hLq => (se_cmethK (pm := [0, 1]) (creadB_ok (e.xb 18 rfl)) (cmB_ok (e.xb 19 rfl)) (fg_Condition_from_text (L := Lq) e hLq).choose_spec.1 (fg_Condition_from_text (L := Lq) e hLq).choose_spec.2 (hrl.mono (by decide)) (takes_of rfl rfl rfl rfl) rfl (e.glo 29 rfl) (sk_cons (se_var (i := 12) rfl (.inr (.inr rfl))) sk_nil)))) se_int)) sa_nil)) (se_callB (lfn_repr hr.gd hr.hu) rfl (e.free 43 rfl) boot_repr (sa_cons (se_callTy lfn_tuple rfl (e.free 10 rfl) boot_tuple (sa_cons (se_var (i := 1) rfl (.inl rfl)) sa_nil)) sa_nil)) (nomark _))))))))))))
theorem sc__law_refused_right : FnScope ["pen", "some", "heard", "due", "bad", "full", "good", "odd", "at"] ["pen"] (defScope (top 30)) := ⟨rfl, rfl, rfl, by decide +kernel, rfl, by decide +kernel, by decide +kernel⟩
theorem fn__law_refused_right {P : Program} {w : World} {K : Frag} {mg : Str → Option Value} {base : Heap} [L : Link K] (e : EnK K mg base) (hL : L.tabs = tabs K) : FnP P w K mg base 15 (He.ga K "_law_refused_right") (M__law_refused_right (adr K)) := by
  obtain ⟨fd, F⟩ := e.fd 24 rfl
  exact fnP_D (N := ["pen", "some", "heard", "due", "bad", "full", "good", "odd", "at"]) F sc__law_refused_right (fun _ _ _ _ _ _ us hl => match us, hl with | [_], _ => rfl) fun A outer s H E L' hL' hr tk =>
    (ss_cons (sp_set (i := 1) sc__law_refused_right.nd rfl (.inl rfl) (.inl rfl) (se_lst (sa_cons se_non (sa_cons se_str (sa_cons (se_tup (sa_cons se_str sa_nil)) (sa_cons (se_tup (sa_cons se_str (sa_cons se_str (sa_cons se_str sa_nil)))) (sa_cons (se_tup (sa_cons se_str (sa_cons se_str sa_nil))) (sa_cons (se_tup (sa_cons se_str (sa_cons se_non sa_nil))) (sa_cons (se_tup (sa_cons se_str (sa_cons se_str sa_nil))) (sa_cons se_dnew (sa_cons se_int (sa_cons (se_tup (sa_cons se_str (sa_cons (se_bin lf_mulS se_str se_int) sa_nil))) (sa_cons (se_tup (sa_cons se_str (sa_cons se_str sa_nil))) (sa_cons (se_lst (sa_cons se_str (sa_cons se_int sa_nil))) sa_nil))))))))))))))
    (ss_cons (sp_asg (se_tup (sa_cons (se_call (fn__law_pick (L := L') e (hL'.trans hL)) (hr.mono (by decide)) tk rfl (e.glo 35 rfl) (e.keep 36 rfl) (sa_cons (se_var (i := 0) rfl (.inl rfl)) (sa_cons (se_var (i := 1) rfl (.inl rfl)) sa_nil))) (sa_cons (se_call (fn__law_pick (L := L') e (hL'.trans hL)) (hr.mono (by decide)) tk rfl (e.glo 35 rfl) (e.keep 36 rfl) (sa_cons (se_var (i := 0) rfl (.inl rfl)) (sa_cons (se_var (i := 1) rfl (.inl rfl)) sa_nil))) (sa_cons (se_tup (sa_cons se_str (sa_cons se_str sa_nil))) sa_nil)))) (sg_tup rfl (sgs_cons (sg_name (i := 7) sc__law_refused_right.nd rfl (.inr rfl) (.inl rfl)) (sgs_cons (sg_name (i := 4) sc__law_refused_right.nd rfl (.inr rfl) (.inl rfl)) (sgs_cons (sg_name (i := 6) sc__law_refused_right.nd rfl (.inr rfl) (.inl rfl)) sgs_nil)))))
    (ss_cons (sp_set (i := 2) sc__law_refused_right.nd rfl (.inl rfl) (.inl rfl) (se_lst (sa_cons (se_lam (k := 12) rfl (e.glo 37 rfl) (e.keep 38 rfl) rfl (.inl rfl) (fun Lz hLz => fl__law_heard (L := Lz) e (hLz.trans (hL'.trans hL))) (hM__law_heard (adr K)) (e.T _ (List.mem_of_getElem? (i := 2) rfl)) rfl (by rw [show Link.tabs _ = _ from (hL'.trans hL)]; exact List.mem_of_getElem? (i := 2) rfl) (by rw [show Link.tabs _ = _ from (hL'.trans hL)]; exact tab_u2 e) (hr.mono (by decide)) tk (lamS_by (by kernel_rfl)) rfl (fun _ _ _ _ _ => rfl) (fun Ll hLl _ _ _ _ _ _ _ hrl => withLi (hLl.trans (hL'.trans hL)) fun Lq hLq => (se_callG (lfn_make (mkB_ok (e.xb 11 rfl)) (fn_Condition_init (L := Lq) e hLq) (hrl.mono (by decide)) (takes_of rfl rfl rfl rfl)) rfl (e.glo 29 rfl) (e.keep 26 rfl) (sa_cons (se_var (i := 6) rfl (.inr (.inr rfl))) (sa_cons (se_var (i := 7) rfl (.inr (.inr rfl))) (sa_cons (se_var (i := 4) rfl (.inr (.inr rfl))) sa_nil)))))) sa_nil)))
    (ss_cons (sp_expr (se_bm PySem.F.plainAttrs_list PySem.F.slot_list_append PySem.F.type_list_append lfm_append (se_var (i := 2) rfl (.inl rfl)) (sa_cons (se_lam (k := 12) rfl (e.glo 37 rfl) (e.keep 38 rfl) rfl (.inl rfl) (fun Lz hLz => fl__law_heard (L := Lz) e (hLz.trans (hL'.trans hL))) (hM__law_heard (adr K)) (e.T _ (List.mem_of_getElem? (i := 2) rfl)) rfl (by rw [show Link.tabs _ = _ from (hL'.trans hL)]; exact List.mem_of_getElem? (i := 2) rfl) (by rw [show Link.tabs _ = _ from (hL'.trans hL)]; exact tab_u2 e) (hr.mono (by decide)) tk (lamS_by (by kernel_rfl)) rfl (fun _ _ _ _ _ => rfl) (fun Ll hLl _ _ _ _ _ _ _ hrl => withLi (hLl.trans (hL'.trans hL)) fun Lq hLq => (se_callG (lfn_make (mkB_ok (e.xb 11 rfl)) (fn_Condition_init (L := Lq) e hLq) (hrl.mono (by decide)) (takes_of rfl rfl rfl rfl)) rfl (e.glo 29 rfl) (e.keep 26 rfl) (sa_cons (se_var (i := 7) rfl (.inr (.inr rfl))) sa_nil)))) sa_nil)))
    (ss_cons (sp_expr (se_bm PySem.F.plainAttrs_list PySem.F.slot_list_append PySem.F.type_list_append lfm_append (se_var (i := 2) rfl (.inl rfl)) (sa_cons (se_lam (k := 12) rfl (e.glo 37 rfl) (e.keep 38 rfl) rfl (.inl rfl) (fun Lz hLz => fl__law_heard (L := Lz) e (hLz.trans (hL'.trans hL))) (hM__law_heard (adr K)) (e.T _ (List.mem_of_getElem? (i := 2) rfl)) rfl (by rw [show Link.tabs _ = _ from (hL'.trans hL)]; exact List.mem_of_getElem? (i := 2) rfl) (by rw [show Link.tabs _ = _ from (hL'.trans hL)]; exact tab_u2 e) (hr.mono (by decide)) tk (lamS_by (by kernel_rfl)) rfl (fun _ _ _ _ _ => rfl) (fun Ll hLl _ _ _ _ _ _ _ hrl => withLi (hLl.trans (hL'.trans hL)) fun Lq hLq => (se_bin (lf_binX (op := .BitAnd) (kitT (e.xb 0 rfl)) (ownOk_one (e.xb 20 rfl) (fn_Condition_and (L := Lq) e hLq)) (bin_one (e.xb 21 rfl)) (hrl.mono (by decide)) (takes_of rfl rfl rfl rfl)) (se_callG (lfn_make (mkB_ok (e.xb 11 rfl)) (fn_Condition_init (L := Lq) e hLq) (hrl.mono (by decide)) (takes_of rfl rfl rfl rfl)) rfl (e.glo 29 rfl) (e.keep 26 rfl) (sa_cons (se_var (i := 6) rfl (.inr (.inr rfl))) sa_nil)) (se_var (i := 7) rfl (.inr (.inr rfl)))))) sa_nil)))
    (ss_cons (sp_set (i := 5) sc__law_refused_right.nd rfl (.inr rfl) (.inl rfl) (se_call (fn__law_all (L := L') e (hL'.trans hL)) (hr.mono (by decide)) tk rfl (e.glo 46 rfl) (e.keep 47 rfl) (sa_cons (se_lc0 [("at", 8)] rfl sc__law_refused_right.nd (si_range1 rfl (e.free 22 rfl) (sa_cons se_int sa_nil)) (blkOk_by (by kernel_rfl)) (fun _ _ _ _ _ => (sgv_name (i := 8) sc__law_refused_right.nd rfl (.inl rfl) (.inr rfl) (by decide))) (fun _ _ _ _ _ => (se_tup (sa_cons (se_bin lf_add se_str (se_callTy (lfn_strX (ownOk_one (e.xb 22 rfl) (fn_Condition_str (L := L') e (hL'.trans hL))) (hr.mono (by decide)) tk0) rfl (e.free 2 rfl) boot_str (sa_cons (se_var (i := 8) rfl (.inl rfl)) sa_nil))) (sa_cons se_str sa_nil))))) sa_nil)))
    (ss_cons (sp_expr (se_bm PySem.F.plainAttrs_list PySem.F.slot_list_append PySem.F.type_list_append lfm_append (se_var (i := 2) rfl (.inl rfl)) (sa_cons (se_lam (k := 12) rfl (e.glo 37 rfl) (e.keep 38 rfl) rfl (.inl rfl) (fun Lz hLz => fl__law_heard (L := Lz) e (hLz.trans (hL'.trans hL))) (hM__law_heard (adr K)) (e.T _ (List.mem_of_getElem? (i := 2) rfl)) rfl (by rw [show Link.tabs _ = _ from (hL'.trans hL)]; exact List.mem_of_getElem? (i := 2) rfl) (by rw [show Link.tabs _ = _ from (hL'.trans hL)]; exact tab_u2 e) (hr.mono (by decide)) tk (lamS_by (by kernel_rfl)) rfl (fun _ _ _ _ _ => rfl) (fun Ll hLl _ _ _ _ _ _ _ hrl => withLi (hLl.trans (hL'.trans hL)) fun Lq hLq => (se_bin (lf_binX (op := .BitAnd) (kitT (e.xb 0 rfl)) (ownOk_one (e.xb 20 rfl) (fn_Condition_and (L := Lq) e hLq)) (bin_one (e.xb 21 rfl)) (hrl.mono (by decide)) (takes_of rfl rfl rfl rfl)) (se_var (i := 5) rfl (.inr (.inr rfl))) (se_callG (lfn_make (mkB_ok (e.xb 11 rfl)) (fn_Condition_init (L := Lq) e hLq) (hrl.mono (by decide)) (takes_of rfl rfl rfl rfl)) rfl (e.glo 29 rfl) (e.keep 26 rfl) (sa_cons (se_tup (sa_cons se_str (sa_cons se_str sa_nil))) sa_nil))))) sa_nil)))
    (ss_cons (sp_expr (se_bm PySem.F.plainAttrs_list PySem.F.slot_list_append PySem.F.type_list_append lfm_append (se_var (i := 2) rfl (.inl rfl)) (sa_cons (se_lam (k := 12) rfl (e.glo 37 rfl) (e.keep 38 rfl) rfl (.inl rfl) (fun Lz hLz => fl__law_heard (L := Lz) e (hLz.trans (hL'.trans hL))) (hM__law_heard (adr K)) (e.T _ (List.mem_of_getElem? (i := 2) rfl)) rfl (by rw [show Link.tabs _ = _ from (hL'.trans hL)]; exact List.mem_of_getElem? (i := 2) rfl) (by rw [show Link.tabs _ = _ from (hL'.trans hL)]; exact tab_u2 e) (hr.mono (by decide)) tk (lamS_by (by kernel_rfl)) rfl (fun _ _ _ _ _ => rfl) (fun Ll hLl _ _ _ _ _ _ _ hrl => withLi (hLl.trans (hL'.trans hL)) fun Lq hLq => (se_cmeth (creadB_ok (e.xb 18 rfl)) (cmB_ok (e.xb 19 rfl)) (fn_Condition_from_text (L := Lq) e hLq) (hrl.mono (by decide)) (takes_of rfl rfl rfl rfl) rfl (e.glo 29 rfl) (sa_cons (se_bin lf_add (se_callTy (lfn_strX (ownOk_one (e.xb 22 rfl) (fn_Condition_str (L := Lq) e hLq)) (hrl.mono (by decide)) (takes_of rfl rfl rfl rfl)) rfl (e.free 2 rfl) boot_str (sa_cons (se_var (i := 5) rfl (.inr (.inr rfl))) sa_nil)) se_str) sa_nil)))) sa_nil)))
    (ss_cons (sp_set (i := 3) sc__law_refused_right.nd rfl (.inl rfl) (.inl rfl) (se_lst (sa_cons (se_tup (sa_cons se_str (sa_cons se_int sa_nil))) (sa_cons (se_tup (sa_cons se_str (sa_cons se_int sa_nil))) (sa_cons (se_tup (sa_cons se_str (sa_cons se_str sa_nil))) (sa_cons (se_tup (sa_cons se_str (sa_cons se_str (sa_cons se_int sa_nil)))) (sa_cons (se_tup (sa_cons se_str (sa_cons se_str (sa_cons se_int sa_nil)))) sa_nil)))))))
    (ss_one (sp_ret (se_and (se_cmp (lf_eq hr.hu) (se_var (i := 2) rfl (.inl rfl)) (se_var (i := 3) rfl (.inl rfl)) (nomark _)) (se_and (se_cmp (lf_eq hr.hu) (se_callB (lfn_lenX (ownOk_one (e.xb 23 rfl) (fn_Condition_len (L := L') e (hL'.trans hL))) (hr.mono (by decide)) tk) rfl (e.free 4 rfl) boot_len (sa_cons (se_var (i := 5) rfl (.inr (.inl rfl))) sa_nil)) se_int (nomark _)) (se_and (se_cmp (lf_eqX (kitT (e.xb 0 rfl)) (ownOk_one (e.xb 24 rfl) (fn_Condition_eq (L := L') e (hL'.trans hL))) (hr.mono (by decide)) tk) (se_bin (lf_binX (op := .BitAnd) (kitT (e.xb 0 rfl)) (ownOk_one (e.xb 20 rfl) (fn_Condition_and (L := L') e (hL'.trans hL))) (bin_one (e.xb 21 rfl)) (hr.mono (by decide)) tk) (se_var (i := 5) rfl (.inr (.inl rfl))) (se_var (i := 5) rfl (.inr (.inl rfl)))) (se_var (i := 5) rfl (.inr (.inl rfl))) (nomark _)) (se_one (se_cmp (lf_eq hr.hu) (se_callB (lfn_lenX (ownOk_one (e.xb 23 rfl) (fn_Condition_len (L := L') e (hL'.trans hL))) (hr.mono (by decide)) tk) rfl (e.free 4 rfl) boot_len (sa_cons (se_bin (lf_binX (op := .BitAnd) (kitT (e.xb 0 rfl)) (ownOk_one (e.xb 20 rfl) (fn_Condition_and (L := L') e (hL'.trans hL))) (bin_one (e.xb 21 rfl)) (hr.mono (by decide)) tk) (se_var (i := 5) rfl (.inr (.inl rfl))) (se_callG (lfn_make (mkB_ok (e.xb 11 rfl)) (fn_Condition_init (L := L') e (hL'.trans hL)) (hr.mono (by decide)) tk) rfl (e.glo 29 rfl) (e.keep 26 rfl) (sa_cons (se_tup (sa_cons se_str (sa_cons se_str sa_nil))) sa_nil))) sa_nil)) se_int (nomark _)))))))))))))))))
theorem sc_law : FnScope ["script", "pen", "turn", "pairs", "more", "one", "other", "pair", "due", "both", "once", "given", "kept", "at", "a", "b"] ["script"] (defScope (top 31)) := ⟨rfl, rfl, rfl, by decide +kernel, rfl, by decide +kernel, by decide +kernel⟩
theorem fg_law {P : Program} {w : World} {K : Frag} {mg : Str → Option Value} {base : Heap} [L : Link K] (e : EnK K mg base) (hL : L.tabs = tabs K) {fd : FuncData} (F : FunD K d_law.name d_law.qual d_law.params d_law.body d_law.scope (d_law.dvs K) (d_law.kws K) (d_law.at_ K) fd) : FnG P w K mg base 17 (He.ga K "law") fd ["script"] (G_law (adr K)) :=
  fnG_D (N := ["script", "pen", "turn", "pairs", "more", "one", "other", "pair", "due", "both", "once", "given", "kept", "at", "a", "b"]) F sc_law fun A outer s H E L' hL' hr tk =>
    (ss_cons (sp_set (i := 1) sc_law.nd rfl (.inl rfl) (.inl rfl) (se_call (fn__law_pen (L := L') e (hL'.trans hL)) (hr.mono (by decide)) tk rfl (e.glo 55 rfl) (e.keep 56 rfl) (sa_cons (se_var (i := 0) rfl (.inl rfl)) sa_nil)))
    (ss_cons (sp_for (passes_of rfl) rfl (si_range1 rfl (e.free 22 rfl) (sa_cons se_int sa_nil)) (sg_name (i := 2) sc_law.nd rfl (.inl rfl) (.inl rfl)) (ss_cons (sp_asg (se_tup (sa_cons (se_call (fn__law_words (L := L') e (hL'.trans hL)) (hr.mono (by decide)) tk rfl (e.glo 53 rfl) (e.keep 54 rfl) (sa_cons (se_var (i := 1) rfl (.inl rfl)) (sa_cons se_int sa_nil))) (sa_cons (se_call (fn__law_words (L := L') e (hL'.trans hL)) (hr.mono (by decide)) tk rfl (e.glo 53 rfl) (e.keep 54 rfl) (sa_cons (se_var (i := 1) rfl (.inl rfl)) (sa_cons se_int sa_nil))) sa_nil))) (sg_tup rfl (sgs_cons (sg_name (i := 3) sc_law.nd rfl (.inr rfl) (.inl rfl)) (sgs_cons (sg_name (i := 4) sc_law.nd rfl (.inl rfl) (.inl rfl)) sgs_nil))))
    (ss_cons (sp_par (i := 5) (j := 6) rfl sc_law.nd rfl rfl (by decide) rfl rfl (sa_cons (se_if (st_cmp (lf_ne hr.hu) (se_var (i := 3) rfl (.inr (.inl rfl))) (se_lst sa_nil) (nomark _)) (se_ix (se_call (fn__law_read (L := L') e (hL'.trans hL)) (hr.mono (by decide)) tk rfl (e.glo 41 rfl) (e.keep 42 rfl) (sa_cons (se_bm PySem.F.plainAttrs_str PySem.F.slot_str_join PySem.F.type_str_join lfm_join se_str (sa_cons (se_lc0 [("a", 14), ("b", 15)] rfl sc_law.nd (si_val (se_var (i := 3) rfl (.inr (.inl rfl)))) (blkOk_by (by kernel_rfl)) (fun _ _ _ _ _ => (sgv_any rfl (sgvs_cons (sgv_name (i := 14) sc_law.nd rfl (.inl rfl) (.inr rfl) (by decide)) (sgvs_cons (sgv_name (i := 15) sc_law.nd rfl (.inl rfl) (.inr rfl) (by decide)) sgvs_nil)))) (fun _ _ _ _ _ => (se_bin lf_add (se_bin lf_add (se_var (i := 14) rfl (.inl rfl)) se_str) (se_var (i := 15) rfl (.inl rfl))))) sa_nil)) sa_nil)) se_int) (se_callG0 (lfn_make (mkB_ok (e.xb 11 rfl)) (fn_Condition_init (L := L') e (hL'.trans hL)) (hr.mono (by decide)) tk) rfl (e.glo 29 rfl) (e.keep 26 rfl))) (sa_cons (se_call (fn__law_all (L := L') e (hL'.trans hL)) (hr.mono (by decide)) tk rfl (e.glo 46 rfl) (e.keep 47 rfl) (sa_cons (se_var (i := 4) rfl (.inl rfl)) sa_nil)) sa_nil)) rfl)
    (ss_cons (sp_if (st_w (sw_or (st_cmp (lf_ne hr.hu) (se_callTy lfn_list rfl (e.free 11 rfl) boot_list (sa_cons (se_attr (fdB_ok (e.xb 10 rfl)) (se_var (i := 5) rfl (.inl rfl))) sa_nil)) (se_var (i := 3) rfl (.inr (.inl rfl))) (nomark _)) (sw_or (st_not (st_val lf_truth (se_callB (lfn_isi (kitT (e.xb 0 rfl))) rfl (e.free 3 rfl) boot_isinstance (sa_cons (se_attr (fdB_ok (e.xb 10 rfl)) (se_var (i := 5) rfl (.inl rfl))) (sa_cons (se_bty rfl (e.free 10 rfl) boot_tuple) sa_nil))))) (sw_or (st_cmp (lf_ne hr.hu) (se_callB (lfn_repr hr.gd hr.hu) rfl (e.free 43 rfl) boot_repr (sa_cons (se_callB (lfn_lenX (ownOk_one (e.xb 23 rfl) (fn_Condition_len (L := L') e (hL'.trans hL))) (hr.mono (by decide)) tk) rfl (e.free 4 rfl) boot_len (sa_cons (se_var (i := 5) rfl (.inl rfl)) sa_nil)) sa_nil)) (se_callB (lfn_repr hr.gd hr.hu) rfl (e.free 43 rfl) boot_repr (sa_cons (se_callB lfn_len rfl (e.free 4 rfl) boot_len (sa_cons (se_var (i := 3) rfl (.inr (.inl rfl))) sa_nil)) sa_nil)) (nomark _)) (sw_or1 (st_cmp lf_notBl (se_callTy (lfn_boolX (ownOk_one (e.xb 25 rfl) (fn_Condition_bool (L := L') e (hL'.trans hL))) (hr.mono (by decide)) tk) rfl (e.free 48 rfl) boot_bool (sa_cons (se_var (i := 5) rfl (.inl rfl)) sa_nil)) se_bl (nomark _))))))) (ss_one (sp_ret se_bl)) ss_nil)
    (ss_cons (sp_set (i := 8) sc_law.nd rfl (.inl rfl) (.inl rfl) (se_bin lf_add (se_var (i := 3) rfl (.inr (.inl rfl))) (se_lc1 [("at", 13), ("pair", 7)] rfl sc_law.nd (si_enum rfl (e.free 17 rfl) (sa_cons (se_var (i := 4) rfl (.inl rfl)) sa_nil)) (blkOk_by (by kernel_rfl)) (fun _ _ _ _ _ => (sgv_any rfl (sgvs_cons (sgv_name (i := 13) sc_law.nd rfl (.inl rfl) (.inr rfl) (by decide)) (sgvs_cons (sgv_name (i := 7) sc_law.nd rfl (.inl rfl) (.inr rfl) (by decide)) sgvs_nil)))) (fun _ _ _ _ _ => (st_cmp (lf_notIn hr.hu1) (se_var (i := 7) rfl (.inl rfl)) (se_var (i := 3) rfl (.inr (.inl rfl))) (by rfl))) (fun _ _ _ _ _ => (se_var (i := 7) rfl (.inl rfl))))))
    (ss_cons (sp_par (i := 9) (j := 10) rfl sc_law.nd rfl rfl (by decide) rfl rfl (sa_cons (se_bin (lf_binX (op := .BitAnd) (kitT (e.xb 0 rfl)) (ownOk_one (e.xb 20 rfl) (fn_Condition_and (L := L') e (hL'.trans hL))) (bin_one (e.xb 21 rfl)) (hr.mono (by decide)) tk) (se_var (i := 5) rfl (.inl rfl)) (se_var (i := 6) rfl (.inl rfl))) (sa_cons (se_lst sa_nil) sa_nil)) rfl)
    (ss_cons (sp_for (passes_of rfl) rfl (si_val (se_var (i := 4) rfl (.inl rfl))) (sg_name (i := 7) sc_law.nd rfl (.inl rfl) (.inl rfl)) (ss_one (sp_set (i := 10) sc_law.nd rfl (.inl rfl) (.inl rfl) (se_bin lf_add (se_var (i := 10) rfl (.inl rfl)) (se_bin lf_mul (se_lst (sa_cons (se_var (i := 7) rfl (.inl rfl)) sa_nil)) (se_callTy lfn_int rfl (e.free 30 rfl) boot_int (sa_cons (se_cmp (lf_notIn hr.hu1) (se_var (i := 7) rfl (.inl rfl)) (se_var (i := 10) rfl (.inl rfl)) (by rfl)) sa_nil)))))))
    (ss_cons (sp_if (st_w (sw_or (st_cmp (lf_ne hr.hu) (se_callTy lfn_list rfl (e.free 11 rfl) boot_list (sa_cons (se_attr (fdB_ok (e.xb 10 rfl)) (se_var (i := 6) rfl (.inl rfl))) sa_nil)) (se_var (i := 10) rfl (.inl rfl)) (nomark _)) (sw_or (st_cmp (lf_ne hr.hu) (se_callTy lfn_list rfl (e.free 11 rfl) boot_list (sa_cons (se_attr (fdB_ok (e.xb 10 rfl)) (se_var (i := 9) rfl (.inl rfl))) sa_nil)) (se_bin lf_add (se_var (i := 3) rfl (.inr (.inl rfl))) (se_lc1 [("pair", 7)] rfl sc_law.nd (si_val (se_var (i := 10) rfl (.inl rfl))) (blkOk_by (by kernel_rfl)) (fun _ _ _ _ _ => (sgv_name (i := 7) sc_law.nd rfl (.inl rfl) (.inr rfl) (by decide))) (fun _ _ _ _ _ => (st_cmp (lf_notIn hr.hu1) (se_var (i := 7) rfl (.inl rfl)) (se_var (i := 3) rfl (.inr (.inl rfl))) (by rfl))) (fun _ _ _ _ _ => (se_var (i := 7) rfl (.inl rfl))))) (nomark _)) (sw_or (st_cmp lf_lt (se_callB lfn_len rfl (e.free 4 rfl) boot_len (sa_cons (se_var (i := 8) rfl (.inl rfl)) sa_nil)) (se_callB (lfn_lenX (ownOk_one (e.xb 23 rfl) (fn_Condition_len (L := L') e (hL'.trans hL))) (hr.mono (by decide)) tk) rfl (e.free 4 rfl) boot_len (sa_cons (se_var (i := 9) rfl (.inl rfl)) sa_nil)) (nomark _)) (sw_or1 (st_cmp (lf_ne hr.hu) (se_callTy lfn_list rfl (e.free 11 rfl) boot_list (sa_cons (se_attr (fdB_ok (e.xb 10 rfl)) (se_var (i := 5) rfl (.inl rfl))) sa_nil)) (se_var (i := 3) rfl (.inr (.inl rfl))) (nomark _))))))) (ss_one (sp_ret se_bl)) ss_nil)
    (ss_cons (sp_if (st_w (sw_or (st_cmp (lf_ne hr.hu) (se_cmp (lf_eqX (kitT (e.xb 0 rfl)) (ownOk_one (e.xb 24 rfl) (fn_Condition_eq (L := L') e (hL'.trans hL))) (hr.mono (by decide)) tk) (se_var (i := 5) rfl (.inl rfl)) (se_var (i := 6) rfl (.inl rfl)) (nomark _)) (se_cmp (lf_eq hr.hu) (se_var (i := 3) rfl (.inr (.inl rfl))) (se_var (i := 10) rfl (.inl rfl)) (nomark _)) (nomark _)) (sw_or (st_cmp (lf_eqX (kitT (e.xb 0 rfl)) (ownOk_one (e.xb 24 rfl) (fn_Condition_eq (L := L') e (hL'.trans hL))) (hr.mono (by decide)) tk) (se_var (i := 5) rfl (.inl rfl)) (se_var (i := 3) rfl (.inr (.inl rfl))) (nomark _)) (sw_or (st_cmp (lf_eqX (kitT (e.xb 0 rfl)) (ownOk_one (e.xb 24 rfl) (fn_Condition_eq (L := L') e (hL'.trans hL))) (hr.mono (by decide)) tk) (se_var (i := 5) rfl (.inl rfl)) (se_callTy (lfn_strX (ownOk_one (e.xb 22 rfl) (fn_Condition_str (L := L') e (hL'.trans hL))) (hr.mono (by decide)) tk) rfl (e.free 2 rfl) boot_str (sa_cons (se_var (i := 5) rfl (.inl rfl)) sa_nil)) (nomark _)) (sw_or1 (st_cmp (lf_neX (kitT (e.xb 0 rfl)) (ownOk_one (e.xb 24 rfl) (fn_Condition_eq (L := L') e (hL'.trans hL))) (ne_one (e.xb 26 rfl)) (hr.mono (by decide)) tk) (se_callG (lfn_make (mkB_ok (e.xb 11 rfl)) (fn_Condition_init (L := L') e (hL'.trans hL)) (hr.mono (by decide)) tk) rfl (e.glo 29 rfl) (e.keep 26 rfl) (sa_cons (se_lst (sa_cons se_str (sa_cons se_str sa_nil))) sa_nil)) (se_callG (lfn_make (mkB_ok (e.xb 11 rfl)) (fn_Condition_init (L := L') e (hL'.trans hL)) (hr.mono (by decide)) tk) rfl (e.glo 29 rfl) (e.keep 26 rfl) (sa_cons (se_tup (sa_cons se_str (sa_cons se_str sa_nil))) sa_nil)) (nomark _))))))) (ss_one (sp_ret se_bl)) ss_nil)
    (ss_one (sp_if (st_w (sw_or (st_not (st_val lf_truth (se_call (fn__law_texts_right (L := L') e (hL'.trans hL)) (hr.mono (by decide)) tk rfl (e.glo 49 rfl) (e.keep 50 rfl) (sa_cons (se_var (i := 1) rfl (.inl rfl)) (sa_cons (se_var (i := 3) rfl (.inr (.inl rfl))) sa_nil))))) (sw_or1 (st_not (st_val lf_truth (se_call (fn__law_refused_right (L := L') e (hL'.trans hL)) (hr.mono (by decide)) tk rfl (e.glo 51 rfl) (e.keep 52 rfl) (sa_cons (se_var (i := 1) rfl (.inl rfl)) sa_nil))))))) (ss_one (sp_ret se_bl)) ss_nil)))))))))))
    (ss_cons (sp_set (i := 11) sc_law.nd rfl (.inl rfl) (.inl rfl) (se_lst (sa_cons se_str (sa_cons se_str sa_nil))))
    (ss_cons (sp_set (i := 12) sc_law.nd rfl (.inl rfl) (.inl rfl) (se_callG (lfn_make (mkB_ok (e.xb 11 rfl)) (fn_Condition_init (L := L') e (hL'.trans hL)) (hr.mono (by decide)) tk) rfl (e.glo 29 rfl) (e.keep 26 rfl) (sa_cons (se_var (i := 11) rfl (.inl rfl)) sa_nil)))
    (ss_cons (sp_expr (se_bm PySem.F.plainAttrs_list PySem.F.slot_list_append PySem.F.type_list_append lfm_append (se_var (i := 11) rfl (.inl rfl)) (sa_cons se_str sa_nil)))
    (ss_one (sp_ret (se_and (se_cmp (lf_eq hr.hu) (se_attr (fdB_ok (e.xb 10 rfl)) (se_var (i := 12) rfl (.inl rfl))) (se_tup (sa_cons (se_tup (sa_cons se_str (sa_cons se_str sa_nil))) sa_nil)) (nomark _)) (se_and (se_cmp (lf_eq hr.hu) (se_callTy (lfn_strX (ownOk_one (e.xb 22 rfl) (fn_Condition_str (L := L') e (hL'.trans hL))) (hr.mono (by decide)) tk) rfl (e.free 2 rfl) boot_str (sa_cons (se_callG0 (lfn_make (mkB_ok (e.xb 11 rfl)) (fn_Condition_init (L := L') e (hL'.trans hL)) (hr.mono (by decide)) tk) rfl (e.glo 29 rfl) (e.keep 26 rfl)) sa_nil)) se_str (nomark _)) (se_and (se_callTy (lfn_boolX (ownOk_one (e.xb 25 rfl) (fn_Condition_bool (L := L') e (hL'.trans hL))) (hr.mono (by decide)) tk) rfl (e.free 48 rfl) boot_bool (sa_cons (se_callG0 (lfn_make (mkB_ok (e.xb 11 rfl)) (fn_Condition_init (L := L') e (hL'.trans hL)) (hr.mono (by decide)) tk) rfl (e.glo 29 rfl) (e.keep 26 rfl)) sa_nil)) (se_one (se_cmp (lf_eq hr.hu) (se_callB (lfn_lenX (ownOk_one (e.xb 23 rfl) (fn_Condition_len (L := L') e (hL'.trans hL))) (hr.mono (by decide)) tk) rfl (e.free 4 rfl) boot_len (sa_cons (se_callG0 (lfn_make (mkB_ok (e.xb 11 rfl)) (fn_Condition_init (L := L') e (hL'.trans hL)) (hr.mono (by decide)) tk) rfl (e.glo 29 rfl) (e.keep 26 rfl)) sa_nil)) se_int (nomark _)))))))))))))
end K31

namespace K31
open PySem PySem.Spec PyProof.Rows L2 MM
abbrev signs : Str := "abcdefghijklmnopqrstuvwxyz0123456789?!@="
theorem isi_str {a : Ad} {x : Str} {st : S} : wIsi (isP a) [.str x, .ty "str"] st = .ok (.bl true) st := by
  simp [wIsi, isP, IsP.has, tgOf, tgC, Tg.beq]
def kind (a : Ad) (w : W) (st : S) (t : Tg) : Prop := (isP a).has w st = some t
theorem isi_ty {a : Ad} {w : W} {st : S} {t : Tg} {n : String} (h : kind a w st t) (hn : n ∈ ["str", "list", "tuple"]) : wIsi (isP a) [w, .ty n] st = .ok (.bl (Tg.beq t (.ty n))) st := by
  have hc : Tg.ty n ∈ (isP a).Cs := by
    simp only [List.mem_cons, List.not_mem_nil, or_false] at hn
    rcases hn with rfl | rfl | rfl <;> simp [isP]
  show (match (isP a).has w st, tgC (.ty n) with | some t, some c => if c ∈ (isP a).Cs then R.ok (W.bl ((isP a).f t c)) st else R.bad | _, _ => R.bad) = _
  rw [h]
  show (if Tg.ty n ∈ (isP a).Cs then R.ok (W.bl ((isP a).f t (.ty n))) st else R.bad) = _
  rw [if_pos hc]
  rfl
def eventS (x : Str) : Bool := decide (1 ≤ x.length) && decide (x.length ≤ 24) && x.cps.toList.all fun c => decide (c ∈ signs.cps.toList)
def wordS (x : Str) : Bool := eventS x || decide (x = "*") || decide (x = "-")
def inSigns (c : Nat) : Bool := decide (c ∈ signs.cps.toList)
theorem signsW_eq (x : Str) : signsW x = x.cps.toList.map fun c => W.str ⟨#[c]⟩ := rfl
theorem bls_map {α : Type} (f : α → Bool) : ∀ l : List α, blsW (l.map fun c => W.bl (f c)) = some (l.map f)
  | [] => rfl
  | c :: l => by
    show (blsW (l.map fun c => W.bl (f c))).map _ = _
    rw [bls_map f l]
    rfl
theorem all_signs {env : MM.Env} {st : S} {x : Str} {i : Nat} (hv : env[i]? = some (some (.str x))) (hi : 1 < env.length) (hne : i ≠ 1) (hx : x.length ≤ 1000000) :
    ∃ st', mLc (mIter (mVar i)) (gN 1) mYes (m2 wIn (mVar 1) (mC (W.str signs))) [1] env st = .ok (.ref st.sz) st' ∧ LeX [] st st' ∧ Has st' st.sz (.lst (x.cps.toList.map fun c => W.bl (inSigns c))) := by
  obtain ⟨s', h1, h2, h3⟩ := lc_pure (mi := mIter (mVar i)) (g := gN 1) (mt := mYes) (me := m2 wIn (mVar 1) (mC (W.str signs))) (vs := [1]) (env := env) (st := st) (st0 := st) (src := srcV (signsW x)) (ws := signsW x) (fun _ => true)
    (fun w => match w with | .str y => .bl (inStr y signs) | _ => .non) (by rw [ev_iter (ev_var hv)]; rfl) rfl (by rw [signsW_eq, List.length_map]; exact hx) (fun _ _ => rfl) (fun _ _ _ => rfl) (by
      intro w hw s le
      rw [signsW_eq] at hw
      obtain ⟨c, hc, rfl⟩ := List.mem_map.mp hw
      refine ⟨_, rfl, s, rfl, .refl, fun s4 _ _ _ => ⟨s4, ?_, .refl⟩⟩
      have hl : 1 < (wipeE env [1]).length := by simpa [wipeE] using hi
      simp [hl])
  refine ⟨s', h1, h2, ?_⟩
  rw [List.filter_eq_self.mpr (fun _ _ => rfl), signsW_eq, List.map_map] at h3
  have e : ((fun w => match w with | .str y => W.bl (inStr y signs) | _ => .non) ∘ fun c : Nat => W.str ⟨#[c]⟩) = fun c => W.bl (inSigns c) := by
    funext c
    show W.bl (inStr ⟨#[c]⟩ signs) = _
    rw [in_one]
    rfl
  rw [e] at h3
  exact h3
theorem event_str (a : Ad) (x : Str) (st : S) (hx : x.length ≤ 1000000) : ∃ st', M_is_event a [.str x] st = .ok (.bl (eventS x)) st' ∧ LeX [] st st' := by
  by_cases h1 : 1 ≤ x.length
  · by_cases h2 : x.length ≤ 24
    · obtain ⟨st', e1, e2, e3⟩ := all_signs (env := [some (.str x), none]) (st := st) (x := x) (i := 0) rfl (by simp) (by simp) hx
      refine ⟨st', ?_, e2⟩
      have h1' : (1 : Int) ≤ (x.length : Int) := by omega
      have h2' : (x.length : Int) ≤ 24 := by omega
      have ev : eventS x = (x.cps.toList.map inSigns).all id := by
        unfold eventS inSigns
        simp [h1, h2, List.all_map, Function.comp_def]
      have hal : wAll [.ref st.sz] st' = .ok (.bl ((x.cps.toList.map inSigns).all id)) st' := by
        show (match (lst? st' st.sz).bind blsW with | some bs => R.ok (W.bl (bs.all id)) st' | none => R.bad) = _
        rw [e3.lst]
        show (match blsW _ with | some bs => R.ok (W.bl (bs.all id)) st' | none => R.bad) = _
        rw [bls_map]
      simp [M_is_event, b_is_event, startE, isi_str, hx, h1', h2', e1, hal, ev]
    · refine ⟨st, ?_, .refl⟩
      have h1' : (1 : Int) ≤ (x.length : Int) := by omega
      have h2' : ¬ (x.length : Int) ≤ 24 := by omega
      simp [M_is_event, b_is_event, startE, isi_str, hx, h1', h2', eventS, h2]
  · refine ⟨st, ?_, .refl⟩
    have h1' : ¬ (1 : Int) ≤ (x.length : Int) := by omega
    simp [M_is_event, b_is_event, startE, isi_str, hx, h1', eventS, h1]
theorem event_no (a : Ad) {w : W} {t : Tg} (st : S) (h : kind a w st t) (ht : Tg.beq t (.ty "str") = false) : M_is_event a [w] st = .ok (.bl false) st := by
  have := isi_ty h (n := "str") (by simp)
  simp [M_is_event, b_is_event, startE, this, ht]
end K31

namespace K31
open PySem PySem.Spec PyProof.Rows L2 MM
theorem okStar : okS "*" := by unfold okS; decide +kernel
theorem okDash : okS "-" := by unfold okS; decide +kernel
theorem in_two {x p q : Str} {st : S} (h : okS x) (hp : okS p) (hq : okS q) : wIn (.str x) (.tup [.str p, .str q]) st = .ok (.bl (decide (x = p) || decide (x = q))) st := by
  have e : wInB (.str x) (.tup [.str p, .str q]) st = .ok (hasIn (.str x) [.str p, .str q]) st := by
    show (if SeqAt.shaped (.str x) && SeqAt.shaped (.tuple [.str p, .str q]) then R.ok (hasIn (.str x) [.str p, .str q]) st else R.bad) = _
    rw [shaped_str h, show SeqAt.shaped (.tuple [.str p, .str q]) = true from shaped_pair (p := (p, q)) hp hq]
    rfl
  unfold wIn
  rw [e]
  simp only [R.bind_ok, hasIn, List.any_cons, List.any_nil, eqv_str, Bool.or_false]
  have e1 : decide (p = x) = decide (x = p) := by by_cases z : x = p <;> simp [z, eq_comm]
  have e2 : decide (q = x) = decide (x = q) := by by_cases z : x = q <;> simp [z, eq_comm]
  rw [e1, e2]
theorem word_str (a : Ad) (x : Str) (st : S) (hx : x.length ≤ 1000000) (ho : okS x) : ∃ st', M_is_word a [.str x] st = .ok (.bl (wordS x)) st' ∧ LeX [] st st' := by
  obtain ⟨st', e, le⟩ := event_str a x st hx
  refine ⟨st', ?_, le⟩
  cases h : eventS x with
  | true =>
    rw [h] at e
    simp [M_is_word, b_is_word, startE, e, wordS, h]
  | false =>
    rw [h] at e
    have := in_two (st := st') ho okStar okDash
    simp [M_is_word, b_is_word, startE, e, isi_str, this, wordS, h]
theorem word_no (a : Ad) {w : W} {t : Tg} (st : S) (h : kind a w st t) (ht : Tg.beq t (.ty "str") = false) : M_is_word a [w] st = .ok (.bl false) st := by
  have e := event_no a st h ht
  have := isi_ty h (n := "str") (by simp)
  simp [M_is_word, b_is_word, startE, this, ht, e]
theorem isi_lt {a : Ad} {w : W} {st : S} {t : Tg} (h : kind a w st t) : wIsi (isP a) [w, .tup [.ty "list", .ty "tuple"]] st = .ok (.bl (Tg.beq t (.ty "list") || Tg.beq t (.ty "tuple"))) st := by
  have e : (isP a).any t [.ty "list", .ty "tuple"] = some (Tg.beq t (.ty "list") || Tg.beq t (.ty "tuple")) := by
    simp [IsP.any, tgC, isP]
  unfold kind at h
  simp [wIsi, h, e]
theorem kind_tup {a : Ad} {ws : List W} {st : S} : kind a (.tup ws) st (.ty "tuple") := by simp [kind, IsP.has, tgOf, isP]
theorem kind_lst {a : Ad} {ws : List W} {st : S} {n : Nat} (h : Has st n (.lst ws)) : kind a (.ref n) st (.ty "list") := by
  simp [kind, IsP.has, isP, h.2]
theorem kind_non {a : Ad} {st : S} : kind a .non st (.ty "NoneType") := by simp [kind, IsP.has, tgOf, isP]
theorem kind_int {a : Ad} {st : S} {i : Int} : kind a (.int i) st (.ty "int") := by simp [kind, IsP.has, tgOf, isP]
theorem kind_bl {a : Ad} {st : S} {i : Bool} : kind a (.bl i) st (.ty "bool") := by simp [kind, IsP.has, tgOf, isP]
theorem kind_str {a : Ad} {st : S} {i : Str} : kind a (.str i) st (.ty "str") := by simp [kind, IsP.has, tgOf, isP]
theorem kind_dic {a : Ad} {st : S} {n : Nat} {kvs : List (Key × W)} (h : Has st n (.dic kvs)) : kind a (.ref n) st (.ty "dict") := by
  simp [kind, IsP.has, isP, h.2]
theorem kind_ins {a : Ad} {st : S} {n : Nat} {fs : List (Str × W)} (h : Has st n (.ins a.Condition fs)) : kind a (.ref n) st (.cl a.Condition) := by
  simp [kind, IsP.has, isP, h.2]
theorem at0 {α : Type} (x : α) (r : List α) : atI (x :: r) 0 = some x := atI_nat (xs := x :: r) (j := 0) rfl
theorem at1 {α : Type} (x y : α) (r : List α) : atI (x :: y :: r) 1 = some y := atI_nat (xs := x :: y :: r) (j := 1) rfl
@[simp] theorem ix_t0 {x : W} {r : List W} {st : S} : ixW (.tup (x :: r)) (.int 0) st = .ok x st := by simp [ixW, at0]
@[simp] theorem ix_t1 {x y : W} {r : List W} {st : S} : ixW (.tup (x :: y :: r)) (.int 1) st = .ok y st := by simp [ixW, at1]
theorem ix_l0 {x : W} {r : List W} {st : S} {n : Nat} (h : Has st n (.lst (x :: r))) : ixW (.ref n) (.int 0) st = .ok x st := by
  simp [ixW, h.lst, at0]
theorem ix_l1 {x y : W} {r : List W} {st : S} {n : Nat} (h : Has st n (.lst (x :: y :: r))) : ixW (.ref n) (.int 1) st = .ok y st := by
  simp [ixW, h.lst, at1]
theorem pair_tup (a : Ad) (x y : Str) (st : S) (hx : x.length ≤ 1000000) (hox : okS x) (hy : y.length ≤ 1000000) (hoy : okS y) : ∃ st', M_is_pair a [.tup [.str x, .str y]] st = .ok (.bl (wordS x && wordS y)) st' ∧ LeX [] st st' := by
  obtain ⟨s1, e1, l1⟩ := word_str a x st hx hox
  obtain ⟨s2, e2, l2⟩ := word_str a y s1 hy hoy
  have i := isi_lt (a := a) (kind_tup (a := a) (ws := [.str x, .str y]) (st := st))
  cases h : wordS x with
  | true =>
    rw [h] at e1
    exact ⟨s2, by simp [M_is_pair, b_is_pair, startE, i, Tg.beq, ev_eqI, e1, e2], l1.trans l2⟩
  | false =>
    rw [h] at e1
    exact ⟨s1, by simp [M_is_pair, b_is_pair, startE, i, Tg.beq, ev_eqI, e1], l1⟩
theorem pair_lst (a : Ad) (x y : Str) (st : S) {n : Nat} (hn : Has st n (.lst [.str x, .str y])) (hx : x.length ≤ 1000000) (hox : okS x) (hy : y.length ≤ 1000000) (hoy : okS y) : ∃ st', M_is_pair a [.ref n] st = .ok (.bl (wordS x && wordS y)) st' ∧ LeX [] st st' := by
  obtain ⟨s1, e1, l1⟩ := word_str a x st hx hox
  obtain ⟨s2, e2, l2⟩ := word_str a y s1 hy hoy
  have i := isi_lt (a := a) (kind_lst (a := a) hn)
  have le := ev_lenL hn
  have i0 := ix_l0 hn
  have i1 := ix_l1 (l1.has0 hn)
  cases h : wordS x with
  | true =>
    rw [h] at e1
    exact ⟨s2, by simp [M_is_pair, b_is_pair, startE, i, Tg.beq, ev_eqI, le, i0, i1, e1, e2], l1.trans l2⟩
  | false =>
    rw [h] at e1
    exact ⟨s1, by simp [M_is_pair, b_is_pair, startE, i, Tg.beq, ev_eqI, le, i0, e1], l1⟩
theorem pair_no (a : Ad) {w : W} {t : Tg} (st : S) (h : kind a w st t) (h1 : Tg.beq t (.ty "list") = false) (h2 : Tg.beq t (.ty "tuple") = false) : M_is_pair a [w] st = .ok (.bl false) st := by
  have i := isi_lt h
  simp [M_is_pair, b_is_pair, startE, i, h1, h2]
theorem pair_short (a : Ad) (ws : List W) (st : S) (h : ws.length ≠ 2) : M_is_pair a [.tup ws] st = .ok (.bl false) st := by
  have i := isi_lt (a := a) (kind_tup (a := a) (ws := ws) (st := st))
  have h' : ¬ ((ws.length : Int) = 2) := by omega
  simp [M_is_pair, b_is_pair, startE, i, Tg.beq, ev_eqI, h']
theorem pair_tup2 (a : Ad) (x : Str) {w : W} {t : Tg} (st : S) (hx : x.length ≤ 1000000) (hox : okS x) (hw : ∀ s, kind a w s t) (ht : Tg.beq t (.ty "str") = false) : ∃ st', M_is_pair a [.tup [.str x, w]] st = .ok (.bl false) st' ∧ LeX [] st st' := by
  obtain ⟨s1, e1, l1⟩ := word_str a x st hx hox
  have e2 := word_no a s1 (hw s1) ht
  have i := isi_lt (a := a) (kind_tup (a := a) (ws := [.str x, w]) (st := st))
  refine ⟨s1, ?_, l1⟩
  cases h : wordS x <;> rw [h] at e1 <;> simp [M_is_pair, b_is_pair, startE, i, Tg.beq, ev_eqI, e1, e2]
theorem pair_lst2 (a : Ad) (x : Str) {w : W} {t : Tg} (st : S) {n : Nat} (hn : Has st n (.lst [.str x, w])) (hx : x.length ≤ 1000000) (hox : okS x) (hw : ∀ s, kind a w s t) (ht : Tg.beq t (.ty "str") = false) : ∃ st', M_is_pair a [.ref n] st = .ok (.bl false) st' ∧ LeX [] st st' := by
  obtain ⟨s1, e1, l1⟩ := word_str a x st hx hox
  have e2 := word_no a s1 (hw s1) ht
  have i := isi_lt (a := a) (kind_lst (a := a) hn)
  have le := ev_lenL hn
  have i0 := ix_l0 hn
  have i1 := ix_l1 (l1.has0 hn)
  refine ⟨s1, ?_, l1⟩
  cases h : wordS x <;> rw [h] at e1 <;> simp [M_is_pair, b_is_pair, startE, i, Tg.beq, ev_eqI, le, i0, i1, e1, e2]
end K31

namespace K31
open PySem PySem.Spec PyProof.Rows L2 MM
def ArgIs (a : Ad) (st : S) (w : W) (b : Bool) : Prop := ∀ s, LeX [] st s → ∃ s', M_is_pair a [w] s = .ok (.bl b) s' ∧ LeX [] s s'
structure Arg (a : Ad) (st : S) (w : W) (p : Str × Str) : Prop where
  is : ArgIs a st w true
  it : ∀ s, LeX [] st s → itemsW w s = some [.str p.1, .str p.2]
theorem ArgIs.mono {a : Ad} {st st' : S} {w : W} {b : Bool} (h : ArgIs a st w b) (l : LeX [] st st') : ArgIs a st' w b := fun s l2 => h s (l.trans l2)
theorem Arg.mono {a : Ad} {st st' : S} {w : W} {p : Str × Str} (h : Arg a st w p) (l : LeX [] st st') : Arg a st' w p := ⟨h.is.mono l, fun s l2 => h.it s (l.trans l2)⟩
def Cond (a : Ad) (ps : List (Str × Str)) : O := .ins a.Condition [("pairs", .tup (ps.map pairW))]
theorem enum_tup {ws : List W} {env : MM.Env} {st : S} {i : Nat} (h : env[i]? = some (some (.tup ws))) : mSrc enumW (mLCons (mVar i) mLNil) env st = .ok (srcEV ws) st := by
  simp [mSrc, h, enumW]
def loopBody (a : Ad) : MS := (mIfS (mNotB (mT truth (mN (M_is_pair a) (mLCons (mVar 3) mLNil)))) (mRaise a.BadCondition ["at"] 1 0 [0] (mLCons (mVar 2) mLNil) mLNil) mNext)
def initLoop (a : Ad) : MS := mFor (mSrc enumW (mLCons (mVar 1) mLNil)) (gT 2 (gsCons (gN 2) (gsCons (gN 3) gsNil))) (loopBody a)
def initRest (a : Ad) : MS := (mSeq (mIfS (mT asB (m2 wGt (mN wLen (mLCons (mVar 1) mLNil)) (mC (.int 40)))) (mRaise a.TooMany ["what", "most"] 2 0 [0, 1] (mLCons (mC (.str "pairs")) (mLCons (mC (.int 40)) mLNil)) mLNil) mNext)
    (mSetF [a.Condition] "pairs" (mN wTuple (mLCons (mLc (mIter (mVar 1)) (gA 2 (gsCons (gN 4) (gsCons (gN 5) gsNil))) mYes (mN newTup (mLCons (mVar 4) (mLCons (mVar 5) mLNil))) [4, 5]) mLNil)) (mVar 0)))
theorem init_split (a : Ad) : b_Condition_init a = mSeq (initLoop a) (initRest a) := rfl
def ienv (n : Nat) (ws : List W) (x y : Option W) : MM.Env := [some (.ref n), some (.tup ws), x, y, none, none]
theorem loop_all (a : Ad) (n : Nat) (ws : List W) (st : S) (h : ∀ w ∈ ws, ArgIs a st w true) : ∃ x y s, initLoop a (ienv n ws none none) st = .nx (ienv n ws x y) s ∧ LeX [] st s := by
  refine for_ok (I := fun i env s => (∃ x y, env = ienv n ws x y) ∧ LeX [] st s) (Q := fun r => ∃ x y s, r = .nx (ienv n ws x y) s ∧ LeX [] st s) (enum_tup (i := 1) rfl) ⟨⟨none, none, rfl⟩, .refl⟩ ?_ ?_
  · rintro i env s hi ⟨⟨x, y, rfl⟩, le⟩
    have hi : i < ws.length := hi
    obtain ⟨s', e1, l1⟩ := h ws[i] (List.getElem_mem hi) s le
    refine ⟨rfl, .tup [.int i, ws[i]], ienv n ws (some (.int i)) (some ws[i]), s, ?_, rfl, .inl ⟨_, s', ?_, ⟨some (.int i), some ws[i], rfl⟩, le.trans l1⟩⟩
    · show (ws[i]?).map _ = _
      rw [List.getElem?_eq_getElem hi]
      rfl
    · simp [loopBody, ienv, e1]
  · rintro env s ⟨⟨x, y, rfl⟩, le⟩
    exact ⟨rfl, x, y, s, rfl, le⟩
theorem loop_bad (a : Ad) (n : Nat) (ws : List W) (st : S) (j : Nat) (hj : j < ws.length) (h : ∀ i (hi : i < ws.length), i < j → ArgIs a st ws[i] true) (hb : ArgIs a st ws[j] false) : ∃ e s, initLoop a (ienv n ws none none) st = .exc a.BadCondition [("at", .int j)] e s ∧ LeX [] st s := by
  refine for_ok (I := fun i env s => i ≤ j ∧ (∃ x y, env = ienv n ws x y) ∧ LeX [] st s) (Q := fun r => ∃ e s, r = .exc a.BadCondition [("at", .int j)] e s ∧ LeX [] st s) (enum_tup (i := 1) rfl) ⟨Nat.zero_le _, ⟨none, none, rfl⟩, .refl⟩ ?_ ?_
  · rintro i env s hi ⟨hij, ⟨x, y, rfl⟩, le⟩
    have hi : i < ws.length := hi
    refine ⟨rfl, .tup [.int i, ws[i]], ienv n ws (some (.int i)) (some ws[i]), s, ?_, rfl, ?_⟩
    · show (ws[i]?).map _ = _
      rw [List.getElem?_eq_getElem hi]
      rfl
    · by_cases e : i = j
      · subst e
        obtain ⟨s', e1, l1⟩ := hb s le
        have key : loopBody a (ienv n ws (some (.int i)) (some ws[i])) s = .exc a.BadCondition [("at", .int i)] (ienv n ws (some (.int i)) (some ws[i])) s' := by
          simp [loopBody, ienv, e1, mRaise, permL]
        exact .inr ⟨⟨_, s', key, le.trans l1⟩, .inr ⟨_, _, _, _, key⟩⟩
      · obtain ⟨s', e1, l1⟩ := h i hi (by omega) s le
        exact .inl ⟨_, s', by simp [loopBody, ienv, e1], by omega, ⟨some (.int i), some ws[i], rfl⟩, le.trans l1⟩
  · rintro env s ⟨hij, _⟩
    have : ws.length ≤ j := hij
    omega
theorem init_bad (a : Ad) (n : Nat) (ws : List W) (st : S) (j : Nat) (hl : ws.length ≤ 100000) (hj : j < ws.length) (h : ∀ i (hi : i < ws.length), i < j → ArgIs a st ws[i] true) (hb : ArgIs a st ws[j] false) : ∃ s, M_Condition_init a (.ref n :: ws) st = .exc a.BadCondition [("at", .int j)] s ∧ LeX [] st s := by
  obtain ⟨e, s, h1, h2⟩ := loop_bad a n ws st j hj h hb
  refine ⟨s, ?_, h2⟩
  unfold M_Condition_init mStar
  rw [if_pos (by simp; omega)]
  simp only [ev_def, init_split]
  show ((mSeq (initLoop a) (initRest a)) (ienv n ws none none) st).call = _
  simp only [ev_seq, h1, ev_callX]
theorem init_many (a : Ad) (n : Nat) (ws : List W) (st : S) (hl : ws.length ≤ 100000) (h40 : 40 < ws.length) (h : ∀ w ∈ ws, ArgIs a st w true) : ∃ s, M_Condition_init a (.ref n :: ws) st = .exc a.TooMany [("most", .int 40), ("what", .str "pairs")] s ∧ LeX [] st s := by
  obtain ⟨x, y, s, h1, h2⟩ := loop_all a n ws st h
  refine ⟨s, ?_, h2⟩
  unfold M_Condition_init mStar
  rw [if_pos (by simp; omega)]
  simp only [ev_def, init_split]
  show ((mSeq (initLoop a) (initRest a)) (ienv n ws none none) st).call = _
  have h40' : (40 : Int) < (ws.length : Int) := by omega
  simp only [ev_seq, h1]
  simp [initRest, ienv, h40', mRaise, permL]
theorem init_ok (a : Ad) (n : Nat) (args : List (W × Str × Str)) (st : S) (h40 : args.length ≤ 40) (hn : Has st n (.ins a.Condition [])) (h : ∀ x ∈ args, Arg a st x.1 x.2) :
    ∃ s, M_Condition_init a (.ref n :: args.map (·.1)) st = .ok .non s ∧ LeX [n] st s ∧ Has s n (Cond a (args.map (·.2))) := by
  obtain ⟨x, y, s, h1, h2⟩ := loop_all a n (args.map (·.1)) st (fun w hw => by
    obtain ⟨q, hq, rfl⟩ := List.mem_map.mp hw
    exact (h q hq).is)
  have lc := lc_pure (mi := mIter (mVar 1)) (g := gA 2 (gsCons (gN 4) (gsCons (gN 5) gsNil))) (mt := mYes) (me := mN newTup (mLCons (mVar 4) (mLCons (mVar 5) mLNil))) (vs := [4, 5]) (env := ienv n (args.map (·.1)) x y) (st := s) (st0 := s) (src := srcV (args.map (·.1))) (ws := args.map (·.1)) (fun _ => true)
    (fun w => match itemsW w s with | some l => .tup l | none => .non) (by rw [ev_iter (ev_var rfl)]; rfl) rfl (by rw [List.length_map]; omega) (fun _ _ => rfl) (fun _ _ _ => rfl) (by
      intro w hw s2 le
      obtain ⟨q, hq, rfl⟩ := List.mem_map.mp hw
      have e1 := (h q hq).it s2 (h2.trans le)
      have e2 := (h q hq).it s h2
      refine ⟨[some (.ref n), some (.tup (args.map (·.1))), x, y, some (.str q.2.1), some (.str q.2.2)], ?_, s2, rfl, .refl, fun s4 _ e4 _ => ⟨s4, ?_, .refl⟩⟩
      · unfold gA
        rw [e1]
        rfl
      · rw [e2]
        simp)
  obtain ⟨s3, e3, l3, hs3⟩ := lc
  rw [List.filter_eq_self.mpr (fun _ _ => rfl), List.map_map] at hs3
  have em : args.map ((fun w => match itemsW w s with | some l => W.tup l | none => W.non) ∘ (·.1)) = (args.map (·.2)).map pairW := by
    rw [List.map_map]
    refine List.map_congr_left fun q hq => ?_
    show (match itemsW q.1 s with | some l => W.tup l | none => W.non) = pairW q.2
    rw [(h q hq).it s h2]
    rfl
  rw [em] at hs3
  have hn3 : Has s3 n (.ins a.Condition []) := l3.has0 (h2.has0 hn)
  refine ⟨s3.put n (Cond a (args.map (·.2))), ?_, le_put (.inl (by simp)) (h2.trans l3).of0, has_put hn3.1⟩
  unfold M_Condition_init mStar
  rw [if_pos (by simp; omega)]
  simp only [ev_def, init_split]
  show ((mSeq (initLoop a) (initRest a)) (ienv n (args.map (·.1)) none none) st).call = _
  have h40' : ¬ (40 : Int) < (args.length : Int) := by omega
  have et : wTuple [.ref s.sz] s3 = .ok (.tup ((args.map (·.2)).map pairW)) s3 := by
    show (match itemsW (.ref s.sz) s3 with | some ws => R.ok (W.tup ws) s3 | none => R.bad) = _
    rw [hs3.items]
  have e3' : mLc (mIter (mVar 1)) (gA 2 (gsCons (gN 4) (gsCons (gN 5) gsNil))) mYes (mN newTup (mLCons (mVar 4) (mLCons (mVar 5) mLNil))) [4, 5] [some (.ref n), some (.tup (args.map (·.1))), x, y, none, none] s = .ok (.ref s.sz) s3 := e3
  simp only [ev_seq, h1]
  simp [initRest, ienv, h40', mSetF, e3', et, hn3.2, putW, Cond]
theorem make_bad (a : Ad) (ws : List W) (st : S) (j : Nat) (hl : ws.length ≤ 100000) (hj : j < ws.length) (h : ∀ i (hi : i < ws.length), i < j → ArgIs a st ws[i] true) (hb : ArgIs a st ws[j] false) : ∃ s, mMake a.Condition (M_Condition_init a) ws st = .exc a.BadCondition [("at", .int j)] s ∧ LeX [] st s := by
  obtain ⟨s, e, l⟩ := init_bad a st.sz ws (st.add (.ins a.Condition [])) j hl hj (fun i hi hij => (h i hi hij).mono le_add) (hb.mono le_add)
  exact ⟨s, by simp [mMake, e], le_add.trans l⟩
theorem make_many (a : Ad) (ws : List W) (st : S) (hl : ws.length ≤ 100000) (h40 : 40 < ws.length) (h : ∀ w ∈ ws, ArgIs a st w true) : ∃ s, mMake a.Condition (M_Condition_init a) ws st = .exc a.TooMany [("most", .int 40), ("what", .str "pairs")] s ∧ LeX [] st s := by
  obtain ⟨s, e, l⟩ := init_many a st.sz ws (st.add (.ins a.Condition [])) hl h40 (fun w hw => (h w hw).mono le_add)
  exact ⟨s, by simp [mMake, e], le_add.trans l⟩
theorem make_ok (a : Ad) (args : List (W × Str × Str)) (st : S) (h40 : args.length ≤ 40) (h : ∀ x ∈ args, Arg a st x.1 x.2) :
    ∃ s, mMake a.Condition (M_Condition_init a) (args.map (·.1)) st = .ok (.ref st.sz) s ∧ LeX [] st s ∧ Has s st.sz (Cond a (args.map (·.2))) := by
  obtain ⟨s, e, l, hs⟩ := init_ok a st.sz args (st.add (.ins a.Condition [])) h40 has_add (fun x hx => (h x hx).mono le_add)
  refine ⟨s, by simp [mMake, e], ⟨by have := l.1; have := add_sz (s := st) (o := .ins a.Condition []); omega, fun n hn _ => ?_⟩, hs⟩
  rw [l.2 n (by have := add_sz (s := st) (o := .ins a.Condition []); omega) (by simp; omega)]
  exact (le_add (X := []) (s := st) (o := .ins a.Condition [])).2 n hn (by simp)
end K31

namespace K31
open PySem PySem.Spec PyProof.Rows L2 MM
theorem signs_ok : ∀ c ∈ signs.cps.toList, c < 0x110000 ∧ c ≠ 32 := by decide +kernel
theorem star_len : ("*" : Str).length = 1 ∧ ("-" : Str).length = 1 ∧ noSp "*" ∧ noSp "-" := by
  unfold noSp
  decide +kernel
theorem okS_of {x : Str} (h : ∀ c ∈ x.cps.toList, c < 0x110000) : okS x := by
  unfold okS PyData.strOk
  rw [← Array.all_toList, List.all_eq_true]
  exact fun c hc => decide_eq_true (h c hc)
theorem word_ok {x : Str} (h : wordS x = true) : okS x ∧ x.length ≤ 24 ∧ noSp x ∧ 1 ≤ x.length := by
  unfold wordS at h
  simp only [Bool.or_eq_true, decide_eq_true_eq] at h
  rcases h with (h | rfl) | rfl
  · unfold eventS at h
    simp only [Bool.and_eq_true, decide_eq_true_eq, List.all_eq_true] at h
    obtain ⟨⟨h1, h2⟩, h3⟩ := h
    exact ⟨okS_of fun c hc => (signs_ok c (h3 c hc)).1, h2, fun z => (signs_ok 32 (h3 32 z)).2 rfl, h1⟩
  · exact ⟨okStar, by rw [star_len.1]; decide, star_len.2.2.1, by rw [star_len.1]; decide⟩
  · exact ⟨okDash, by rw [star_len.2.1]; decide, star_len.2.2.2, by rw [star_len.2.1]; decide⟩
def WordsOk (ps : List (Str × Str)) : Prop := ∀ p ∈ ps, wordS p.1 = true ∧ wordS p.2 = true
theorem arg_pair (a : Ad) {p : Str × Str} (st : S) (h : wordS p.1 = true ∧ wordS p.2 = true) : Arg a st (pairW p) p := by
  obtain ⟨o1, l1, _⟩ := word_ok h.1
  obtain ⟨o2, l2, _⟩ := word_ok h.2
  refine ⟨fun s _ => ?_, fun s _ => rfl⟩
  obtain ⟨s', e, l⟩ := pair_tup a p.1 p.2 s (by omega) o1 (by omega) o2
  rw [h.1, h.2] at e
  exact ⟨s', e, l⟩
theorem make_pairs (a : Ad) (ps : List (Str × Str)) (st : S) (h40 : ps.length ≤ 40) (h : WordsOk ps) : ∃ s, mMake a.Condition (M_Condition_init a) (ps.map pairW) st = .ok (.ref st.sz) s ∧ LeX [] st s ∧ Has s st.sz (Cond a ps) := by
  have := make_ok a (ps.map fun p => (pairW p, p)) st (by rw [List.length_map]; exact h40) (fun x hx => by
    obtain ⟨p, hp, rfl⟩ := List.mem_map.mp hx
    exact arg_pair a st (h p hp))
  rw [List.map_map, List.map_map] at this
  have e1 : ((fun x : W × Str × Str => x.1) ∘ fun p => (pairW p, p)) = pairW := rfl
  have e2 : ((fun x : W × Str × Str => x.2) ∘ fun p => (pairW p, p)) = id := rfl
  rw [e1, e2, List.map_id] at this
  exact this
theorem make_pairs_many (a : Ad) (ps : List (Str × Str)) (st : S) (h40 : 40 < ps.length) (hl : ps.length ≤ 100000) (h : WordsOk ps) : ∃ s, mMake a.Condition (M_Condition_init a) (ps.map pairW) st = .exc a.TooMany [("most", .int 40), ("what", .str "pairs")] s ∧ LeX [] st s :=
  make_many a (ps.map pairW) st (by rw [List.length_map]; exact hl) (by rw [List.length_map]; exact h40) fun w hw => by
    obtain ⟨p, hp, rfl⟩ := List.mem_map.mp hw
    exact (arg_pair a st (h p hp)).is
theorem get_pairs {a : Ad} {n : Nat} {ps : List (Str × Str)} {st : S} (h : Has st n (Cond a ps)) : getA [a.Condition] [] "pairs" (.ref n) st = .ok (.tup (ps.map pairW)) st := by
  unfold getA
  simp only
  rw [h.2]
  simp [Cond, List.lookup]
theorem isi_cl {a : Ad} {w : W} {st : S} {t : Tg} {C : Addr} (h : kind a w st t) (hc : Tg.cl C ∈ (isP a).Cs) : wIsi (isP a) [w, .glo C] st = .ok (.bl (Tg.beq t (.cl C))) st := by
  unfold kind at h
  simp [wIsi, h, tgC, hc]
  simp [isP]
theorem clCond {a : Ad} : Tg.cl a.Condition ∈ (isP a).Cs := by simp [isP]
theorem kind_cond {a : Ad} {n : Nat} {ps : List (Str × Str)} {st : S} (h : Has st n (Cond a ps)) : kind a (.ref n) st (.cl a.Condition) := kind_ins h
theorem cond_len (a : Ad) {n : Nat} {ps : List (Str × Str)} {st : S} (h : Has st n (Cond a ps)) : M_Condition_len a [.ref n] st = .ok (.int ps.length) st := by
  simp [M_Condition_len, b_Condition_len, startE, get_pairs h]
theorem cond_bool (a : Ad) {w : W} {st : S} : M_Condition_bool a [w] st = .ok (.bl true) st := by
  simp [M_Condition_bool, b_Condition_bool, startE]
theorem rd_pairs {s : S} {k : Nat} (ps : List (Str × Str)) : rd (k + 3) s (.tup (ps.map pairW)) = some (.tuple (ps.map MM.pairD)) := rd_tupM fun p _ => rd_pair p
theorem rd_pairsL {s : S} {k n : Nat} {ps : List (Str × Str)} (h : Has s n (.lst (ps.map pairW))) : rd (k + 3) s (.ref n) = some (.list (ps.map MM.pairD)) := rd_lstM h fun p _ => rd_pair p
theorem lay_ps {ps : List (Str × Str)} (h : WordsOk ps) : ∀ p ∈ ps, PyData.canLay0 (MM.pairD p) = true := fun p hp => lay_pair (word_ok (h p hp).1).1 (word_ok (h p hp).2).1
theorem shaped_ps {ps : List (Str × Str)} (h : WordsOk ps) : SeqAt.shaped (.tuple (ps.map MM.pairD)) = true := shaped_tuple (lay_ps h) fun p _ => by rw [depth_pair]; decide
theorem shaped_psL {ps : List (Str × Str)} (h : WordsOk ps) : SeqAt.shaped (.list (ps.map MM.pairD)) = true := shaped_list (lay_ps h) fun p _ => by rw [depth_pair]; decide
theorem eq_pairs {ps qs : List (Str × Str)} {st : S} (h1 : WordsOk ps) (h2 : WordsOk qs) : wEq (.tup (ps.map pairW)) (.tup (qs.map pairW)) st = .ok (.bl (decide (ps = qs))) st := by
  rw [ev_eq (rd_pairs ps) (rd_pairs qs) (shaped_ps h1) (shaped_ps h2), eqv_tuples eqv_pair]
theorem cond_eq (a : Ad) {n m : Nat} {ps qs : List (Str × Str)} {st : S} (h1 : Has st n (Cond a ps)) (h2 : Has st m (Cond a qs)) (o1 : WordsOk ps) (o2 : WordsOk qs) : M_Condition_eq a [.ref n, .ref m] st = .ok (.bl (decide (ps = qs))) st := by
  have i := isi_cl (kind_cond h2) clCond
  simp [M_Condition_eq, b_Condition_eq, startE, i, Tg.beq, get_pairs h1, get_pairs h2, eq_pairs o1 o2]
theorem cond_eq_no (a : Ad) {n : Nat} {w : W} {t : Tg} {st : S} (h : kind a w st t) (ht : Tg.beq t (.cl a.Condition) = false) : M_Condition_eq a [.ref n, w] st = .ok (.bl false) st := by
  have i := isi_cl h (clCond (a := a))
  simp [M_Condition_eq, b_Condition_eq, startE, i, ht]
def lineS (p : Str × Str) : Str := p.1 ++ " > " ++ p.2
def textS (ps : List (Str × Str)) : Str := Txt.join " ; " (ps.map lineS)
def showS (ps : List (Str × Str)) : Str := if ps = [] then "free" else textS ps
theorem empty_app (x : Str) : Str.empty ++ x = x := TL.ext_tl (by
  show ((Str.empty ++ x).cps).toList = x.cps.toList
  rw [app_toList]
  rfl)
theorem len3 : (" > " : Str).length = 3 ∧ (" ; " : Str).length = 3 ∧ okS " > " ∧ okS " ; " ∧ okS "free" := by
  unfold okS
  decide +kernel
theorem line_len {p : Str × Str} (h : wordS p.1 = true ∧ wordS p.2 = true) : (lineS p).length ≤ 51 := by
  have := (word_ok h.1).2.1
  have := (word_ok h.2).2.1
  unfold lineS
  rw [len_app, len_app, len3.1]
  omega
theorem sum_le {α : Type} {f : α → Nat} {k : Nat} : ∀ {l : List α}, (∀ x ∈ l, f x ≤ k) → (l.map f).sum ≤ l.length * k
  | [], _ => by simp
  | x :: l, h => by
    have h1 := h x List.mem_cons_self
    have h2 := sum_le (f := f) fun y hy => h y (List.mem_cons_of_mem _ hy)
    simp only [List.map_cons, List.sum_cons, List.length_cons, Nat.succ_mul]
    omega
theorem join_lines {ps : List (Str × Str)} {st : S} {n : Nat} (hn : Has st n (.lst ((ps.map lineS).map W.str))) (h : WordsOk ps) (hl : ps.length ≤ 1000) : gJoin (.str " ; ") [.ref n] st = .ok (.str (textS ps)) st := by
  have hs : ∀ l : List Str, strsW (l.map W.str) = some l := fun l => by
    induction l with
    | nil => rfl
    | cons x l ih =>
      show (strsW (l.map W.str)).map _ = _
      rw [ih]
      rfl
  have h1 : ((ps.map lineS).map (·.length)).sum ≤ ps.length * 51 := by
    rw [List.map_map]
    exact sum_le fun p hp => line_len (h p hp)
  unfold gJoin
  simp only [hn.items, Option.bind_some, hs]
  rw [if_pos (by rw [List.length_map, len3.2.1]; omega)]
  rfl
theorem cond_str (a : Ad) {n : Nat} {ps : List (Str × Str)} {st : S} (h : Has st n (Cond a ps)) (o : WordsOk ps) (hl : ps.length ≤ 1000) : ∃ s, M_Condition_str a [.ref n] st = .ok (.str (showS ps)) s ∧ LeX [] st s := by
  have e0 : wEq (.tup (ps.map pairW)) (.tup []) st = .ok (.bl (decide (ps = []))) st := eq_pairs (qs := []) o (fun _ h => nomatch h)
  by_cases hp : ps = []
  · refine ⟨st, ?_, .refl⟩
    subst hp
    have e0' : wEq (.tup []) (.tup []) st = .ok (.bl true) st := e0
    have g := get_pairs h
    rw [List.map_nil] at g
    simp [M_Condition_str, b_Condition_str, startE, g, e0', showS]
  · have lc := lc_pure (mi := mIter (m1 (getA [a.Condition] [] "pairs") (mVar 0))) (g := gA 2 (gsCons (gN 1) (gsCons (gN 2) gsNil))) (mt := mYes) (me := mJs [(m1 wFmt (mVar 1)), (mC (.str " > ")), (m1 wFmt (mVar 2))] Str.empty) (vs := [1, 2]) (env := [some (.ref n), none, none]) (st := st) (st0 := st) (src := srcV (ps.map pairW)) (ws := ps.map pairW) (fun _ => true)
      (fun w => match w with | .tup [.str x, .str y] => .str (x ++ " > " ++ y) | _ => .non) (by simp [mIter, get_pairs h]; rfl) rfl (by rw [List.length_map]; omega) (fun _ _ => rfl) (fun _ _ _ => rfl) (by
        intro w hw s le
        obtain ⟨p, hp, rfl⟩ := List.mem_map.mp hw
        obtain ⟨_, l1, _⟩ := word_ok (o p hp).1
        obtain ⟨_, l2, _⟩ := word_ok (o p hp).2
        refine ⟨[some (.ref n), some (.str p.1), some (.str p.2)], rfl, s, rfl, .refl, fun s4 _ _ _ => ⟨s4, ?_, .refl⟩⟩
        have f1 : wFmt (.str p.1) s4 = .ok (.str p.1) s4 := if_pos (by omega)
        have f2 : wFmt (.str p.2) s4 = .ok (.str p.2) s4 := if_pos (by omega)
        have c1 : p.1.length ≤ 1000000 := by omega
        have c2 : (p.1 ++ " > ").length ≤ 1000000 := by rw [len_app, len3.1]; omega
        have c3 : (p.1 ++ " > " ++ p.2).length ≤ 1000000 := by rw [len_app, len_app, len3.1]; omega
        simp only [mJs, ev_m1, ev_var (show ([some (W.ref n), some (W.str p.1), some (W.str p.2)] : MM.Env)[1]? = some (some (.str p.1)) from rfl), ev_var (show ([some (W.ref n), some (W.str p.1), some (W.str p.2)] : MM.Env)[2]? = some (some (.str p.2)) from rfl), R.bind_ok, f1, f2, ev_c, c1, c2, c3, if_true, pairW, empty_app])
    obtain ⟨s3, e3, l3, hs3⟩ := lc
    rw [List.filter_eq_self.mpr (fun _ _ => rfl), List.map_map] at hs3
    have em : ps.map ((fun w => match w with | .tup [.str x, .str y] => W.str (x ++ " > " ++ y) | _ => .non) ∘ pairW) = (ps.map lineS).map W.str := by
      rw [List.map_map]
      rfl
    rw [em] at hs3
    have ej := join_lines hs3 o hl
    have e0' : wEq (.tup (ps.map pairW)) (.tup []) st = .ok (.bl false) st := by rw [e0]; simp [hp]
    refine ⟨s3, ?_, l3⟩
    simp [M_Condition_str, b_Condition_str, startE, get_pairs h, e0', mBM, tyW, e3, ej, showS, hp]
end K31

namespace K31
open PySem PySem.Spec PyProof.Rows L2 MM
theorem hasIn_pairs (q : Str × Str) : ∀ ps : List (Str × Str), hasIn (MM.pairD q) (ps.map MM.pairD) = decide (q ∈ ps)
  | [] => rfl
  | p :: ps => by
    have ih := hasIn_pairs q ps
    unfold hasIn at ih ⊢
    rw [List.map_cons, List.any_cons, ih, eqv_pair]
    by_cases e : p = q
    · simp [e]
    · have e' : ¬ q = p := fun z => e z.symm
      simp [e, e']
theorem notIn_pairs {q : Str × Str} {ps : List (Str × Str)} {st : S} (hq : wordS q.1 = true ∧ wordS q.2 = true) (h : WordsOk ps) : wNotIn (pairW q) (.tup (ps.map pairW)) st = .ok (.bl (!decide (q ∈ ps))) st := by
  have e : wInB (pairW q) (.tup (ps.map pairW)) st = .ok (decide (q ∈ ps)) st := by
    unfold wInB
    simp only [pairW]
    rw [show rd 60 st (.tup [.str q.1, .str q.2]) = some (MM.pairD q) from rfl, show rd 60 st (.tup (ps.map pairW)) = some (.tuple (ps.map MM.pairD)) from rd_pairs ps]
    simp only [shaped_pair (word_ok hq.1).1 (word_ok hq.2).1, shaped_ps h, Bool.and_true, if_true, hasIn_pairs]
  unfold wNotIn
  rw [e]
  rfl
theorem notIn_pairsL {q : Str × Str} {ps : List (Str × Str)} {st : S} {n : Nat} (hn : Has st n (.lst (ps.map pairW))) (hq : wordS q.1 = true ∧ wordS q.2 = true) (h : WordsOk ps) : wNotIn (pairW q) (.ref n) st = .ok (.bl (!decide (q ∈ ps))) st := by
  have e : wInB (pairW q) (.ref n) st = .ok (decide (q ∈ ps)) st := by
    unfold wInB
    simp only [pairW]
    rw [show rd 60 st (.tup [.str q.1, .str q.2]) = some (MM.pairD q) from rfl, show rd 60 st (.ref n) = some (.list (ps.map MM.pairD)) from rd_pairsL hn]
    simp only [shaped_pair (word_ok hq.1).1 (word_ok hq.2).1, shaped_psL h, Bool.and_true, if_true, hasIn_pairs]
  unfold wNotIn
  rw [e]
  rfl
def andS (ps qs : List (Str × Str)) : List (Str × Str) := ps ++ qs.filter fun q => !decide (q ∈ ps)
theorem words_and {ps qs : List (Str × Str)} (h1 : WordsOk ps) (h2 : WordsOk qs) : WordsOk (andS ps qs) := fun p hp => by
  rcases List.mem_append.mp hp with z | z
  · exact h1 p z
  · exact h2 p (List.mem_filter.mp z).1
theorem and_run (a : Ad) {n m : Nat} {ps qs : List (Str × Str)} {st : S} (h1 : Has st n (Cond a ps)) (h2 : Has st m (Cond a qs)) (o1 : WordsOk ps) (o2 : WordsOk qs) (hl : qs.length ≤ 1000) :
    ∃ s, LeX [] st s ∧ M_Condition_and a [.ref n, .ref m] st = mMake a.Condition (M_Condition_init a) ((andS ps qs).map pairW) s := by
  have lc := lc_pure (mi := mIter (m1 (getA [a.Condition] [] "pairs") (mVar 1))) (g := gN 3) (mt := mT asB (m2 wNotIn (mVar 3) (m1 (getA [a.Condition] [] "pairs") (mVar 0)))) (me := mVar 3) (vs := [3]) (env := [some (.ref n), some (.ref m), none, none]) (st := st) (st0 := st) (src := srcV (qs.map pairW)) (ws := qs.map pairW)
    (fun w => match w with | .tup [.str x, .str y] => !decide ((x, y) ∈ ps) | _ => false) id (by simp [mIter, get_pairs h2]; rfl) rfl (by rw [List.length_map]; omega) (fun _ _ => rfl) (fun _ _ _ => rfl) (by
      intro w hw s le
      obtain ⟨p, hp, rfl⟩ := List.mem_map.mp hw
      refine ⟨[some (.ref n), some (.ref m), none, some (pairW p)], rfl, s, ?_, .refl, fun s4 _ _ _ => ⟨s4, by simp, .refl⟩⟩
      have g := get_pairs (le.has0 h1)
      have e := notIn_pairs (st := s) (o2 p hp) o1
      simp [g, e]
      simp [pairW])
  obtain ⟨s3, e3, l3, hs3⟩ := lc
  have em : ((qs.map pairW).filter fun w => match w with | .tup [.str x, .str y] => !decide ((x, y) ∈ ps) | _ => false) = (qs.filter fun q => !decide (q ∈ ps)).map pairW := by
    rw [List.filter_map]
    rfl
  rw [em, List.map_id] at hs3
  have i := isi_cl (kind_cond h2) clCond
  have g1 := get_pairs (l3.has0 h1)
  refine ⟨s3, l3, ?_⟩
  have ec : mSeq mNext (mSeq (mAsg (mLc (mIter (m1 (getA [a.Condition] [] "pairs") (mVar 1))) (gN 3) (mT asB (m2 wNotIn (mVar 3) (m1 (getA [a.Condition] [] "pairs") (mVar 0)))) (mVar 3) [3]) (gN 2)) (mRet (mN (mMake a.Condition (M_Condition_init a)) (mLStar (m1 (getA [a.Condition] [] "pairs") (mVar 0)) (mLStar (mVar 2) mLNil))))) [some (.ref n), some (.ref m), none, none] st = (mMake a.Condition (M_Condition_init a) ((andS ps qs).map pairW) s3).toS [some (.ref n), some (.ref m), some (.ref st.sz), none] fun w s => .rt w s := by
    simp [e3, mLStar, g1, itemsW, hs3.lst, andS]
  have e : M_Condition_and a [.ref n, .ref m] st = ((mMake a.Condition (M_Condition_init a) ((andS ps qs).map pairW) s3).toS [some (.ref n), some (.ref m), some (.ref st.sz), none] fun w s => .rt w s).call := by
    rw [← ec]
    simp [M_Condition_and, b_Condition_and, startE, i, Tg.beq]
  rw [e]
  cases mMake a.Condition (M_Condition_init a) ((andS ps qs).map pairW) s3 <;> rfl
theorem cond_and (a : Ad) {n m : Nat} {ps qs : List (Str × Str)} {st : S} (h1 : Has st n (Cond a ps)) (h2 : Has st m (Cond a qs)) (o1 : WordsOk ps) (o2 : WordsOk qs) (hl : qs.length ≤ 1000) (h40 : (andS ps qs).length ≤ 40) :
    ∃ k s, M_Condition_and a [.ref n, .ref m] st = .ok (.ref k) s ∧ LeX [] st s ∧ Has s k (Cond a (andS ps qs)) := by
  obtain ⟨s, l, e⟩ := and_run a h1 h2 o1 o2 hl
  obtain ⟨s2, e2, l2, h⟩ := make_pairs a (andS ps qs) s h40 (words_and o1 o2)
  exact ⟨_, s2, e.trans e2, l.trans l2, h⟩
theorem cond_and_many (a : Ad) {n m : Nat} {ps qs : List (Str × Str)} {st : S} (h1 : Has st n (Cond a ps)) (h2 : Has st m (Cond a qs)) (o1 : WordsOk ps) (o2 : WordsOk qs) (hl : qs.length ≤ 1000) (h40 : 40 < (andS ps qs).length) (hl2 : (andS ps qs).length ≤ 100000) :
    ∃ s, M_Condition_and a [.ref n, .ref m] st = .exc a.TooMany [("most", .int 40), ("what", .str "pairs")] s ∧ LeX [] st s := by
  obtain ⟨s, l, e⟩ := and_run a h1 h2 o1 o2 hl
  obtain ⟨s2, e2, l2⟩ := make_pairs_many a (andS ps qs) s h40 hl2 (words_and o1 o2)
  exact ⟨s2, e.trans e2, l.trans l2⟩
theorem cond_and_no (a : Ad) {n : Nat} {w : W} {t : Tg} {st : S} (h : kind a w st t) (ht : Tg.beq t (.cl a.Condition) = false) : M_Condition_and a [.ref n, w] st = .exc a.BadCondition [("at", .str "other")] st := by
  have i := isi_cl h (clCond (a := a))
  simp [M_Condition_and, b_Condition_and, startE, i, ht, mRaise, permL]
theorem own_cond {a : Ad} {n : Nat} {ps : List (Str × Str)} {st : S} {g : List W → S → R W} (h : Has st n (Cond a ps)) : ownOf (mt1 a.Condition g) (.ref n) st = some (a.Condition, g) := by
  unfold MM.ownOf
  simp only
  rw [h.2]
  show (mt1 a.Condition g a.Condition).map _ = _
  rw [mt1_at]
  rfl
theorem beq_self (t : Tg) : Tg.beq t t = true := by cases t <;> simp [Tg.beq]
theorem first_kind {a : Ad} {w : W} {st : S} {t : Tg} (h : kind a w st t) : firstOk (isP a) a.Condition w st = true := by
  unfold kind at h
  unfold firstOk
  rw [h]
  have hc : decide (Tg.cl a.Condition ∈ (isP a).Cs) = true := decide_eq_true clCond
  rw [hc, Bool.true_and]
  show (decide (t = .cl a.Condition) || !Tg.beq t (.cl a.Condition)) = true
  cases t with
  | ty n => rfl
  | cl C =>
    by_cases e : C = a.Condition
    · simp [e]
    · simp [Tg.beq, e]
theorem bin_cond {a : Ad} {n : Nat} {ps : List (Str × Str)} {st : S} {w : W} {t : Tg} {g : List W → S → R W} (h : Has st n (Cond a ps)) (hw : kind a w st t) (ht : (∃ x, t = .ty x) ∨ t = .cl a.Condition) : wBinX (isP a) (mt1 a.Condition g) (.ref n) w st = g [.ref n, w] st := by
  unfold wBinX
  rw [own_cond h]
  simp only
  rw [first_kind hw]
  unfold kind at hw
  rw [hw]
  rcases ht with ⟨x, rfl⟩ | rfl
  · simp
  · simp
theorem eqX_cond {a : Ad} {n : Nat} {ps : List (Str × Str)} {st : S} {w : W} {t : Tg} {g : List W → S → R W} (h : Has st n (Cond a ps)) (hw : kind a w st t) : wEqX (isP a) (mt1 a.Condition g) (.ref n) w st = boolR false (g [.ref n, w] st) := by
  unfold wEqX
  rw [own_cond h]
  simp only
  rw [first_kind hw]
  rfl
theorem neX_cond {a : Ad} {n : Nat} {ps : List (Str × Str)} {st : S} {w : W} {t : Tg} {g : List W → S → R W} (h : Has st n (Cond a ps)) (hw : kind a w st t) : wNeX (isP a) (mt1 a.Condition g) (.ref n) w st = boolR true (g [.ref n, w] st) := by
  unfold wNeX
  rw [own_cond h]
  simp only
  rw [first_kind hw]
  rfl
theorem isLen_iff {n : Int} : isLen (.int n) = (decide (0 ≤ n) && decide (n < 2 ^ 63)) := by
  unfold isLen
  exact Eq.refl _
theorem isLen_ok {n : Int} (h1 : 0 ≤ n) (h2 : n < 2 ^ 63) : isLen (.int n) = true := by
  have a : decide (0 ≤ n) = true := decide_eq_true h1
  have b : decide (n < 2 ^ 63) = true := decide_eq_true h2
  rw [isLen_iff, a, b, Bool.and_self]
theorem lenX_cond {a : Ad} {n : Nat} {ps : List (Str × Str)} {st : S} (h : Has st n (Cond a ps)) (hl : ps.length ≤ 1000) : wLenX (mt1 a.Condition (M_Condition_len a)) [.ref n] st = .ok (.int ps.length) st := by
  unfold wLenX
  simp only
  rw [own_cond h]
  have h1 : (0 : Int) ≤ (ps.length : Int) := by omega
  have h2 : (ps.length : Int) < 2 ^ 63 := Int.lt_of_le_of_lt (by omega : (ps.length : Int) ≤ 1000) (by decide +kernel)
  have h3 : isLen (.int (ps.length : Int)) = true := isLen_ok h1 h2
  show (M_Condition_len a [.ref n] st).bind (fun w s => if isLen w = true then R.ok w s else R.bad) = _
  rw [cond_len a h, R.bind_ok, if_pos h3]
theorem strX_cond {a : Ad} {n : Nat} {ps : List (Str × Str)} {st : S} (h : Has st n (Cond a ps)) (o : WordsOk ps) (hl : ps.length ≤ 1000) : ∃ s, wStrX (mt1 a.Condition (M_Condition_str a)) [.ref n] st = .ok (.str (showS ps)) s ∧ LeX [] st s := by
  obtain ⟨s, e, l⟩ := cond_str a h o hl
  refine ⟨s, ?_, l⟩
  unfold wStrX
  simp only
  rw [own_cond h]
  simp only [e, formR, R.bind_ok, isStrW, if_true]
theorem boolX_cond {a : Ad} {n : Nat} {ps : List (Str × Str)} {st : S} (h : Has st n (Cond a ps)) : wBoolX (mt1 a.Condition (M_Condition_bool a)) [.ref n] st = .ok (.bl true) st := by
  unfold wBoolX
  simp only
  rw [own_cond h]
  simp only [cond_bool, formR, R.bind_ok, isBlW, if_true]
end K31

namespace K31
open PySem PySem.Spec PyProof.Rows L2 MM
theorem mem_join {c : Nat} {a w : Str} : ∀ {ws : List Str}, w ∈ ws → c ∈ w.cps.toList → c ∈ (Txt.join a ws).cps.toList
  | [], h, _ => nomatch h
  | [x], h, hc => by
    rw [MM.join_one]
    rcases List.mem_cons.mp h with rfl | h
    · exact hc
    · exact nomatch h
  | x :: y :: r, h, hc => by
    rw [join_cons2, app_toList, app_toList]
    rcases List.mem_cons.mp h with rfl | h
    · exact List.mem_append.mpr (.inl (List.mem_append.mpr (.inl hc)))
    · exact List.mem_append.mpr (.inr (mem_join h hc))
theorem okS_all {x : Str} (h : okS x) : ∀ c ∈ x.cps.toList, c < 0x110000 := by
  unfold okS PyData.strOk at h
  rw [← Array.all_toList, List.all_eq_true] at h
  exact fun c hc => of_decide_eq_true (h c hc)
theorem split_ok {x w : Str} (h : okS x) (hw : w ∈ Txt.split x spc) : okS w := okS_of fun c hc => okS_all h c (by
  have := mem_join (a := spc) hw hc
  rw [join_split] at this
  exact this)
def rightAt (i : Nat) (w : Str) : Bool := if i % 2 = 1 then (if i % 4 = 1 then decide (w = ">") else decide (w = ";")) else wordS w
theorem okGt : okS ">" ∧ okS ";" := by
  unfold okS
  decide +kernel
def pinEnv (x : Str) (m : Nat) (p q r : Option W) : MM.Env := [some (.str x), some (.ref m), p, q, r]
def pinBody (a : Ad) : MS := (mSeq (mAsg (mIf (mT asB (m2 wEq (m2 wMod (mVar 2) (mC (.int 2))) (mC (.int 1)))) (m2 wEq (mVar 3) (mIf (mT asB (m2 wEq (m2 wMod (mVar 2) (mC (.int 4))) (mC (.int 1)))) (mC (.str ">")) (mC (.str ";")))) (mN (M_is_word a) (mLCons (mVar 3) mLNil))) (gN 4))
    (mIfS (mNotB (mT truth (mVar 4))) (mRaise a.BadText ["line", "word"] 2 0 [0, 1] (mLCons (mC (.int 0)) (mLCons (mVar 2) mLNil)) mLNil) mNext))
theorem mod_nat (i k : Nat) (hk : k ≠ 0) {st : S} : wMod (.int (i : Int)) (.int (k : Int)) st = .ok (.int ((i % k : Nat) : Int)) st := by
  have h : ((k : Int)) ≠ 0 := by omega
  show (if (k : Int) ≠ 0 then R.ok (W.int ((i : Int).fmod k)) st else R.bad) = _
  rw [if_pos h, Int.fmod_eq_emod_of_nonneg _ (by omega), ← Int.natCast_emod]
theorem pin_body (a : Ad) (x w : Str) (m i : Nat) (q : Option W) (st : S) (hw : w.length ≤ 1000000) (ho : okS w) : ∃ s, LeX [] st s ∧ pinBody a (pinEnv x m (some (.int i)) (some (.str w)) q) st =
    if rightAt i w then .nx (pinEnv x m (some (.int i)) (some (.str w)) (some (.bl true))) s else .exc a.BadText [("word", .int i), ("line", .int 0)] (pinEnv x m (some (.int i)) (some (.str w)) (some (.bl false))) s := by
  have m2' := mod_nat i 2 (by decide) (st := st)
  have m4' := mod_nat i 4 (by decide) (st := st)
  have key : ∃ s, LeX [] st s ∧ (mIf (mT asB (m2 wEq (m2 wMod (mVar 2) (mC (.int 2))) (mC (.int 1)))) (m2 wEq (mVar 3) (mIf (mT asB (m2 wEq (m2 wMod (mVar 2) (mC (.int 4))) (mC (.int 1)))) (mC (.str ">")) (mC (.str ";")))) (mN (M_is_word a) (mLCons (mVar 3) mLNil))) (pinEnv x m (some (.int i)) (some (.str w)) q) st = .ok (.bl (rightAt i w)) s := by
    by_cases h2 : i % 2 = 1
    · refine ⟨st, .refl, ?_⟩
      have h2' : ((i % 2 : Nat) : Int) = 1 := by omega
      rw [h2'] at m2'
      by_cases h4 : i % 4 = 1
      · have h4' : ((i % 4 : Nat) : Int) = 1 := by omega
        rw [h4'] at m4'
        have m2'' : wMod (.int (i : Int)) (.int 2) st = .ok (.int 1) st := m2'
        have m4'' : wMod (.int (i : Int)) (.int 4) st = .ok (.int 1) st := m4'
        simp [pinEnv, m2'', m4'', ev_eqI, ev_eqS ho okGt.1, rightAt, h2, h4]
      · have h4' : ¬ ((i % 4 : Nat) : Int) = 1 := by omega
        have m2'' : wMod (.int (i : Int)) (.int 2) st = .ok (.int 1) st := m2'
        have m4'' : wMod (.int (i : Int)) (.int 4) st = .ok (.int ((i % 4 : Nat) : Int)) st := m4'
        simp only [pinEnv, ev_if, ev_T, ev_m2, ev_c, ev_var (show ([some (W.str x), some (W.ref m), some (W.int i), some (W.str w), q] : MM.Env)[2]? = some (some (.int i)) from rfl), ev_var (show ([some (W.str x), some (W.ref m), some (W.int i), some (W.str w), q] : MM.Env)[3]? = some (some (.str w)) from rfl), R.bind_ok, m2'', m4'', ev_eqI, ev_asB, h4', decide_false, decide_true, if_true, Bool.false_eq_true, if_false, ev_eqS ho okGt.2, rightAt, h2, h4]
    · obtain ⟨s, e, l⟩ := word_str a w st hw ho
      refine ⟨s, l, ?_⟩
      have h2' : ¬ ((i % 2 : Nat) : Int) = 1 := by omega
      have m2'' : wMod (.int (i : Int)) (.int 2) st = .ok (.int ((i % 2 : Nat) : Int)) st := m2'
      simp only [pinEnv, ev_if, ev_T, ev_m2, ev_mN, ev_cons, ev_nil, ev_c, ev_var (show ([some (W.str x), some (W.ref m), some (W.int i), some (W.str w), q] : MM.Env)[2]? = some (some (.int i)) from rfl), ev_var (show ([some (W.str x), some (W.ref m), some (W.int i), some (W.str w), q] : MM.Env)[3]? = some (some (.str w)) from rfl), R.bind_ok, m2'', ev_eqI, ev_asB, h2', decide_false, Bool.false_eq_true, if_false, e, rightAt, h2]
  obtain ⟨s, l, e⟩ := key
  refine ⟨s, l, ?_⟩
  have e1 : (mAsg (mIf (mT asB (m2 wEq (m2 wMod (mVar 2) (mC (.int 2))) (mC (.int 1)))) (m2 wEq (mVar 3) (mIf (mT asB (m2 wEq (m2 wMod (mVar 2) (mC (.int 4))) (mC (.int 1)))) (mC (.str ">")) (mC (.str ";")))) (mN (M_is_word a) (mLCons (mVar 3) mLNil))) (gN 4)) (pinEnv x m (some (.int i)) (some (.str w)) q) st = .nx (pinEnv x m (some (.int i)) (some (.str w)) (some (.bl (rightAt i w)))) s := by
    rw [ev_asgN, e]
    rfl
  unfold pinBody
  rw [ev_seq, e1]
  cases h : rightAt i w <;> simp [pinEnv, mRaise, permL]
end K31

namespace K31
open PySem PySem.Spec PyProof.Rows L2 MM
theorem lst_at {st0 s : S} {m : Nat} {ws : List W} (h : Has st0 m (.lst ws)) (l : LeX [] st0 s) : (srcEL m ws.length).ok s = true ∧ ∀ i (hi : i < ws.length), (srcEL m ws.length).at_ i s = some (.tup [.int i, ws[i]]) := by
  have h' := (l.has0 h).lst
  refine ⟨?_, fun i hi => ?_⟩
  · show (match lst? s m with | some ws' => ws'.length == ws.length | none => false) = true
    rw [h']
    exact beq_self_eq_true _
  · show ((lst? s m).bind fun ws' => ws'[i]?).map _ = _
    rw [h']
    show (ws[i]?).map _ = _
    rw [List.getElem?_eq_getElem hi]
    rfl
theorem enum_lst {ws : List W} {env : MM.Env} {st : S} {i m : Nat} (h : env[i]? = some (some (.ref m))) (hm : Has st m (.lst ws)) : mSrc enumW (mLCons (mVar i) mLNil) env st = .ok (srcEL m ws.length) st := by
  simp [mSrc, h, enumW, hm.lst]
def pinLoop (a : Ad) : MS := mFor (mSrc enumW (mLCons (mVar 1) mLNil)) (gT 2 (gsCons (gN 2) (gsCons (gN 3) gsNil))) (pinBody a)
section
variable (a : Ad) (x : Str) (m : Nat) (ws : List Str) (st : S) (hm : Has st m (.lst (ws.map W.str))) (hw : ∀ w ∈ ws, w.length ≤ 1000000 ∧ okS w)
include hm hw
theorem pin_all (h : ∀ i (hi : i < ws.length), rightAt i ws[i] = true) : ∃ p q r s, pinLoop a (pinEnv x m none none none) st = .nx (pinEnv x m p q r) s ∧ LeX [] st s := by
  refine for_ok (I := fun i env s => (∃ p q r, env = pinEnv x m p q r) ∧ LeX [] st s) (Q := fun r => ∃ p q r' s, r = .nx (pinEnv x m p q r') s ∧ LeX [] st s) (enum_lst (i := 1) rfl hm) ⟨⟨none, none, none, rfl⟩, .refl⟩ ?_ ?_
  · rintro i env s hi ⟨⟨p, q, r, rfl⟩, le⟩
    obtain ⟨ok, at_⟩ := lst_at hm le
    have hi' : i < (ws.map W.str).length := hi
    have hi2 : i < ws.length := by rw [List.length_map] at hi'; exact hi'
    obtain ⟨s', l', e⟩ := pin_body a x ws[i] m i r s (hw _ (List.getElem_mem hi2)).1 (hw _ (List.getElem_mem hi2)).2
    rw [h i hi2] at e
    refine ⟨ok, _, pinEnv x m (some (.int i)) (some (.str ws[i])) r, s, at_ i hi', ?_, .inl ⟨_, s', e, ⟨_, _, _, rfl⟩, le.trans l'⟩⟩
    rw [List.getElem_map]
    rfl
  · rintro env s ⟨⟨p, q, r, rfl⟩, le⟩
    exact ⟨(lst_at hm le).1, p, q, r, s, rfl, le⟩
theorem pin_bad (j : Nat) (hj : j < ws.length) (h : ∀ i (hi : i < ws.length), i < j → rightAt i ws[i] = true) (hb : rightAt j ws[j] = false) : ∃ e s, pinLoop a (pinEnv x m none none none) st = .exc a.BadText [("word", .int j), ("line", .int 0)] e s ∧ LeX [] st s := by
  refine for_ok (I := fun i env s => i ≤ j ∧ (∃ p q r, env = pinEnv x m p q r) ∧ LeX [] st s) (Q := fun r => ∃ e s, r = .exc a.BadText [("word", .int j), ("line", .int 0)] e s ∧ LeX [] st s) (enum_lst (i := 1) rfl hm) ⟨Nat.zero_le _, ⟨none, none, none, rfl⟩, .refl⟩ ?_ ?_
  · rintro i env s hi ⟨hij, ⟨p, q, r, rfl⟩, le⟩
    obtain ⟨ok, at_⟩ := lst_at hm le
    have hi' : i < (ws.map W.str).length := hi
    have hi2 : i < ws.length := by rw [List.length_map] at hi'; exact hi'
    obtain ⟨s', l', e⟩ := pin_body a x ws[i] m i r s (hw _ (List.getElem_mem hi2)).1 (hw _ (List.getElem_mem hi2)).2
    refine ⟨ok, _, pinEnv x m (some (.int i)) (some (.str ws[i])) r, s, at_ i hi', by rw [List.getElem_map]; rfl, ?_⟩
    by_cases z : i = j
    · subst z
      rw [hb] at e
      exact .inr ⟨⟨_, s', e, le.trans l'⟩, .inr ⟨_, _, _, _, e⟩⟩
    · rw [h i hi2 (by omega)] at e
      exact .inl ⟨_, s', e, by omega, ⟨_, _, _, rfl⟩, le.trans l'⟩
  · rintro env s ⟨hij, _⟩
    have : (ws.map W.str).length ≤ j := hij
    rw [List.length_map] at this
    omega
end
end K31

namespace K31
open PySem PySem.Spec PyProof.Rows L2 MM
theorem fits {i : Int} (h1 : -1000000000 ≤ i) (h2 : i ≤ 1000000000) : Builtin.Range.rangeFitsLong i = true := by
  have a : decide (-(2 ^ 63) ≤ i) = true := decide_eq_true (Int.le_trans (by decide +kernel) h1)
  have b : decide (i < 2 ^ 63) = true := decide_eq_true (Int.lt_of_le_of_lt h2 (by decide +kernel))
  unfold Builtin.Range.rangeFitsLong
  rw [a, b]
  all_goals rfl
theorem inW_fits {i : Int} (h1 : -1000000000 ≤ i) (h2 : i ≤ 1000000000) : inW i = true := by
  have a : decide (-(2 ^ 62) ≤ i) = true := decide_eq_true (Int.le_trans (by decide +kernel) h1)
  have b : decide (i < 2 ^ 62) = true := decide_eq_true (Int.lt_of_le_of_lt h2 (by decide +kernel))
  unfold inW
  rw [a, b]
  all_goals rfl
theorem size4 (n : Nat) : Builtin.Range.rangeSize 0 (n : Int) 4 = (((n + 3) / 4 : Nat) : Int) := by
  unfold Builtin.Range.rangeSize
  by_cases h : 0 < n
  · have h' : (0 : Int) < (n : Int) := by omega
    simp only [show (4 : Int) > 0 from by decide, if_true, h']
    omega
  · have : n = 0 := by omega
    subst this
    rfl
theorem turns4 (n : Nat) : turns 0 (n : Int) 4 = (n + 3) / 4 := by
  unfold turns
  simp only [show (0 : Int) < 4 from by decide, if_true]
  omega
theorem rng_four {n : Nat} (h : n ≤ 1000000) (s : S) : rng3 [.int 0, .int n, .int 4] s = .ok (srcR 0 4 ((n + 3) / 4)) s := by
  have sm : Builtin.Range.small 0 (n : Int) 4 = true := by
    unfold Builtin.Range.small
    rw [size4, fits (i := 0) (by decide) (by decide), fits (i := (n : Int)) (by omega) (by omega), fits (i := 4) (by decide) (by decide), fits (i := (((n + 3) / 4 : Nat) : Int)) (by omega) (by omega), if_pos (by decide), fits (by omega) (by omega)]
    simp
  have dz : decide (Builtin.Range.rangeSize 0 (n : Int) 4 = ((turns 0 (n : Int) 4 : Nat) : Int)) = true := decide_eq_true (by rw [size4, turns4])
  have c : (inW 0 && inW (n : Int) && decide ((4 : Int) ≠ 0) && decide ((4 : Int).natAbs < 1073741824) && Builtin.Range.small 0 (n : Int) 4 && decide (Builtin.Range.rangeSize 0 (n : Int) 4 = ((turns 0 (n : Int) 4 : Nat) : Int))) = true := by
    rw [dz, sm, inW_fits (i := (n : Int)) (by omega) (by omega), inW_fits (i := 0) (by decide) (by decide)]
    decide
  unfold rng3
  dsimp only
  rw [if_pos c, turns4]
end K31

namespace K31
open PySem PySem.Spec PyProof.Rows L2 MM
def pairsOf (ws : List Str) : List (Str × Str) := (List.range ((ws.length + 3) / 4)).map fun k => (ws.getD (4 * k) Str.empty, ws.getD (4 * k + 2) Str.empty)
theorem getD_at {ws : List Str} {i : Nat} (h : i < ws.length) : ws.getD i Str.empty = ws[i] := by
  rw [List.getD_eq_getElem?_getD, List.getElem?_eq_getElem h]
  rfl
theorem ix_lst {st : S} {m i : Nat} {ws : List W} (h : Has st m (.lst ws)) (hi : i < ws.length) : ixW (.ref m) (.int (i : Int)) st = .ok ws[i] st := by
  have e : atI ws (i : Int) = some ws[i] := atI_nat (List.getElem?_eq_getElem hi)
  simp only [ixW, h.lst, e]
theorem mSrc_ok {k : List W → S → R Src} {m : MA} {env : MM.Env} {st s : S} {ws : List W} (h : m env st = .ok ws s) : mSrc k m env st = k ws s := by
  unfold mSrc
  rw [h]
  rfl
theorem pin_src {x : Str} {m : Nat} {ws : List Str} {st : S} {p q r : Option W} (hm : Has st m (.lst (ws.map W.str))) (hl : ws.length ≤ 1000000) :
    mSrc rng3 (mLCons (mC (.int 0)) (mLCons (mN wLen (mLCons (mVar 1) mLNil)) (mLCons (mC (.int 4)) mLNil))) (pinEnv x m p q r) st = .ok (srcR 0 4 ((ws.length + 3) / 4)) st := by
  have e := ev_lenL hm
  rw [List.length_map] at e
  have v : mVar 1 (pinEnv x m p q r) st = .ok (.ref m) st := ev_var rfl
  have h : (mLCons (mC (.int 0)) (mLCons (mN wLen (mLCons (mVar 1) mLNil)) (mLCons (mC (.int 4)) mLNil))) (pinEnv x m p q r) st = .ok [.int 0, .int ws.length, .int 4] st := by
    simp only [ev_cons, ev_nil, ev_c, ev_mN, v, R.bind_ok, e]
  exact (mSrc_ok h).trans (rng_four hl st)
theorem pin_elt {x : Str} {m k : Nat} {ws : List Str} {st : S} {q r : Option W} (hm : Has st m (.lst (ws.map W.str))) (hk : 4 * k + 2 < ws.length) :
    (mN newTup (mLCons (m2 ixW (mVar 1) (mVar 2)) (mLCons (m2 ixW (mVar 1) (m2 wAdd (mVar 2) (mC (.int 2)))) mLNil))) (pinEnv x m (some (.int ((4 * k : Nat) : Int))) q r) st = .ok (pairW (ws.getD (4 * k) Str.empty, ws.getD (4 * k + 2) Str.empty)) st := by
  have e0 := ix_lst (i := 4 * k) hm (by rw [List.length_map]; omega)
  have e2 := ix_lst (i := 4 * k + 2) hm (by rw [List.length_map]; omega)
  have z2 : ((4 * k : Nat) : Int) + 2 = ((4 * k + 2 : Nat) : Int) := by omega
  have v1 : mVar 1 (pinEnv x m (some (.int ((4 * k : Nat) : Int))) q r) st = .ok (.ref m) st := ev_var rfl
  have v2 : mVar 2 (pinEnv x m (some (.int ((4 * k : Nat) : Int))) q r) st = .ok (.int ((4 * k : Nat) : Int)) st := ev_var rfl
  simp only [ev_mN, ev_cons, ev_nil, ev_m2, ev_c, v1, v2, R.bind_ok, e0, ev_add, z2, e2]
  rw [ev_newTup (by simp only [List.length_cons, List.length_nil]; omega), getD_at (by omega), getD_at (by omega), List.getElem_map, List.getElem_map]
  rfl
end K31

namespace K31
open PySem PySem.Spec PyProof.Rows L2 MM
def pinComp : ME := mLc (mSrc rng3 (mLCons (mC (.int 0)) (mLCons (mN wLen (mLCons (mVar 1) mLNil)) (mLCons (mC (.int 4)) mLNil)))) (gN 2) mYes (mN newTup (mLCons (m2 ixW (mVar 1) (mVar 2)) (mLCons (m2 ixW (mVar 1) (m2 wAdd (mVar 2) (mC (.int 2)))) mLNil))) [2]
theorem pin_comp {x : Str} {m : Nat} {ws : List Str} {st : S} {p q r : Option W} (hm : Has st m (.lst (ws.map W.str))) (h3 : ws.length % 4 = 3) (hl : ws.length ≤ 1000000) :
    ∃ s, pinComp (pinEnv x m p q r) st = .ok (.ref st.sz) s ∧ LeX [] st s ∧ Has s st.sz (.lst ((pairsOf ws).map pairW)) := by
  have hk : ∀ k, k < (ws.length + 3) / 4 → 4 * k + 2 < ws.length := fun k hk => by omega
  have lc := lc_pureB (mi := mSrc rng3 (mLCons (mC (.int 0)) (mLCons (mN wLen (mLCons (mVar 1) mLNil)) (mLCons (mC (.int 4)) mLNil)))) (g := gN 2) (mt := mYes) (me := mN newTup (mLCons (m2 ixW (mVar 1) (mVar 2)) (mLCons (m2 ixW (mVar 1) (m2 wAdd (mVar 2) (mC (.int 2)))) mLNil))) (vs := [2]) (env := pinEnv x m p q r) (st := st) (st0 := st) (src := srcR 0 4 ((ws.length + 3) / 4)) (ws := (List.range ((ws.length + 3) / 4)).map fun (k : Nat) => W.int (((4 * k : Nat)) : Int)) (fun _ => true)
    (fun w => match w with | .int i => pairW (ws.getD i.toNat Str.empty, ws.getD (i.toNat + 2) Str.empty) | _ => .non) (pin_src hm hl) (by rw [List.length_map, List.length_range]; rfl) (by rw [List.length_map, List.length_range]; omega) (fun _ _ => rfl) (fun i s hi _ => by
      rw [List.length_map, List.length_range] at hi
      rw [List.getElem?_map, List.getElem?_range hi]
      show some (W.int (0 + (i : Int) * 4)) = some (W.int ((4 * i : Nat) : Int))
      rw [show (0 + (i : Int) * 4) = ((4 * i : Nat) : Int) by omega]) (by
      intro w hw s le
      obtain ⟨k, hk', rfl⟩ := List.mem_map.mp hw
      have hk2 := hk k (List.mem_range.mp hk')
      refine ⟨pinEnv x m (some (.int ((4 * k : Nat) : Int))) q r, rfl, s, rfl, .refl, fun s4 _ e4 _ => ⟨s4, ?_, .refl⟩⟩
      subst e4
      exact pin_elt (le.has0 hm) hk2)
  obtain ⟨s, e, l, h⟩ := lc
  refine ⟨s, e, l, ?_⟩
  rw [List.filter_eq_self.mpr (fun _ _ => rfl), List.map_map] at h
  have em : (pairsOf ws).map pairW = (List.range ((ws.length + 3) / 4)).map ((fun w => match w with | .int i => pairW (ws.getD i.toNat Str.empty, ws.getD (i.toNat + 2) Str.empty) | _ => .non) ∘ fun (k : Nat) => W.int (((4 * k : Nat)) : Int)) := by
    unfold pairsOf
    rw [List.map_map]
    rfl
  rw [em]
  exact h
theorem okFree : okS "free" := len3.2.2.2.2
def wordsOf (x : Str) : List Str := Txt.split x spc
theorem words_len (x : Str) : (wordsOf x).length ≤ x.length + 1 := by
  have := MM.split_weight x
  unfold wordsOf
  omega
theorem split_run {x : Str} {st : S} {env : MM.Env} {i : Nat} (hv : env[i]? = some (some (.str x))) (hx : x.length ≤ 1000000) : mBM "str" gSplit (mVar i) (mLCons (mC (.str " ")) mLNil) env st = .ok (.ref st.sz) (st.add (.lst ((wordsOf x).map W.str))) := by
  have e : gSplit (.str x) [.str " "] st = .ok (.ref st.sz) (st.add (.lst ((wordsOf x).map W.str))) := by
    rw [spc_eq]
    unfold gSplit
    dsimp only
    rw [if_pos ⟨by decide, hx⟩]
    rfl
  unfold mBM
  rw [ev_var hv]
  simp only [R.bind_ok, tyW, ev_cons, ev_nil, ev_c, e]
  rfl
inductive Due where
  | none
  | at_ (i : Nat)
def badAt (ws : List Str) (j : Nat) : Prop := (∀ i (hi : i < ws.length), i < j → rightAt i ws[i] = true) ∧ ((∃ hj : j < ws.length, rightAt j ws[j] = false) ∨ (j = ws.length ∧ ws.length % 4 ≠ 3))
def allRight (ws : List Str) : Prop := (∀ i (hi : i < ws.length), rightAt i ws[i] = true) ∧ ws.length % 4 = 3
end K31

namespace K31
open PySem PySem.Spec PyProof.Rows L2 MM
def pinRest (a : Ad) : MS := (mSeq (mIfS (mT asB (m2 wNe (m2 wMod (mN wLen (mLCons (mVar 1) mLNil)) (mC (.int 4))) (mC (.int 3)))) (mRaise a.BadText ["line", "word"] 2 0 [0, 1] (mLCons (mC (.int 0)) (mLCons (mN wLen (mLCons (mVar 1) mLNil)) mLNil)) mLNil) mNext)
    (mRet pinComp))
def pinHead (a : Ad) : MS := mIfS (mNotB (mT truth (mN (wIsi (isP a)) (mLCons (mVar 0) (mLCons (mC (.ty "str")) mLNil))))) (mRaise a.BadText ["line", "word"] 2 0 [0, 1] (mLCons (mC (.int 0)) (mLCons (mC (.int 0)) mLNil)) mLNil) mNext
def pinFree : MS := mIfS (mT asB (m2 wEq (mVar 0) (mC (.str "free")))) (mRet (mN newLst mLNil)) mNext
def pinSplit : MS := mAsg (mBM "str" gSplit (mVar 0) (mLCons (mC (.str " ")) mLNil)) (gN 1)
theorem pin_parts (a : Ad) : b_pairs_in a = mSeq (pinHead a) (mSeq pinFree (mSeq pinSplit (mSeq (pinLoop a) (pinRest a)))) := rfl
theorem pin_no (a : Ad) {w : W} {t : Tg} {st : S} (h : kind a w st t) (ht : Tg.beq t (.ty "str") = false) : M_pairs_in a [w] st = .exc a.BadText [("word", .int 0), ("line", .int 0)] st := by
  have i := isi_ty h (n := "str") (by simp)
  have e : pinHead a [some w, none, none, none, none] st = .exc a.BadText [("word", .int 0), ("line", .int 0)] [some w, none, none, none, none] st := by
    simp [pinHead, i, ht, mRaise, permL]
  unfold M_pairs_in
  rw [ev_fill (by simp), ev_def, pin_parts]
  show (mSeq (pinHead a) _ [some w, none, none, none, none] st).call = _
  rw [ev_seq, e]
  rfl
theorem pin_start (a : Ad) (x : Str) (st : S) : pinHead a [some (.str x), none, none, none, none] st = .nx [some (.str x), none, none, none, none] st := by
  simp [pinHead, isi_str]
theorem pin_free (a : Ad) (st : S) : M_pairs_in a [.str "free"] st = .ok (.ref st.sz) (st.add (.lst [])) := by
  have e : pinFree [some (.str "free"), none, none, none, none] st = .rt (.ref st.sz) (st.add (.lst [])) := by
    simp [pinFree, ev_eqS okFree okFree]
  unfold M_pairs_in
  rw [ev_fill (by simp), ev_def, pin_parts]
  show (mSeq (pinHead a) _ [some (.str "free"), none, none, none, none] st).call = _
  rw [ev_seq, pin_start]
  show (mSeq pinFree _ [some (.str "free"), none, none, none, none] st).call = _
  rw [ev_seq, e]
  rfl
theorem pin_run (a : Ad) {x : Str} {st : S} (hx : x.length ≤ 100000) (ho : okS x) (hf : x ≠ "free") : M_pairs_in a [.str x] st = ((mSeq (pinLoop a) (pinRest a)) (pinEnv x st.sz none none none) (st.add (.lst ((wordsOf x).map W.str)))).call := by
  have e : pinFree [some (.str x), none, none, none, none] st = .nx [some (.str x), none, none, none, none] st := by
    simp [pinFree, ev_eqS ho okFree, hf]
  have e2 : pinSplit [some (.str x), none, none, none, none] st = .nx (pinEnv x st.sz none none none) (st.add (.lst ((wordsOf x).map W.str))) := by
    unfold pinSplit
    rw [ev_asgN, split_run (x := x) rfl (by omega)]
    rfl
  unfold M_pairs_in
  rw [ev_fill (by simp), ev_def, pin_parts]
  show (mSeq (pinHead a) _ [some (.str x), none, none, none, none] st).call = _
  rw [ev_seq, pin_start]
  show (mSeq pinFree _ [some (.str x), none, none, none, none] st).call = _
  rw [ev_seq, e]
  show (mSeq pinSplit _ [some (.str x), none, none, none, none] st).call = _
  rw [ev_seq, e2]
end K31

namespace K31
open PySem PySem.Spec PyProof.Rows L2 MM
theorem words_ok {x : Str} (hx : x.length ≤ 100000) (ho : okS x) : ∀ w ∈ wordsOf x, w.length ≤ 1000000 ∧ okS w := fun w hw => ⟨by have := split_mem_le hw; omega, split_ok ho hw⟩
theorem pin_test {x : Str} {m : Nat} {ws : List Str} {st : S} {p q r : Option W} (hm : Has st m (.lst (ws.map W.str))) :
    mT asB (m2 wNe (m2 wMod (mN wLen (mLCons (mVar 1) mLNil)) (mC (.int 4))) (mC (.int 3))) (pinEnv x m p q r) st = .ok (!decide (ws.length % 4 = 3)) st := by
  have e := ev_lenL hm
  rw [List.length_map] at e
  have v : mVar 1 (pinEnv x m p q r) st = .ok (.ref m) st := ev_var rfl
  have md : wMod (.int (ws.length : Int)) (.int 4) st = .ok (.int ((ws.length % 4 : Nat) : Int)) st := mod_nat ws.length 4 (by decide)
  simp only [ev_T, ev_m2, ev_mN, ev_cons, ev_nil, ev_c, v, R.bind_ok, e, md, ev_neI, ev_asB]
  by_cases h : ws.length % 4 = 3
  · have h' : ((ws.length % 4 : Nat) : Int) = 3 := by omega
    rw [decide_eq_true h, decide_eq_true h']
  · have h' : ¬ ((ws.length % 4 : Nat) : Int) = 3 := by omega
    rw [decide_eq_false h, decide_eq_false h']
theorem pin_raise (a : Ad) {x : Str} {j : Nat} {st : S} (hx : x.length ≤ 100000) (ho : okS x) (hf : x ≠ "free") (hb : badAt (wordsOf x) j) : ∃ s, M_pairs_in a [.str x] st = .exc a.BadText [("word", .int j), ("line", .int 0)] s ∧ LeX [] st s := by
  have hm : Has (st.add (.lst ((wordsOf x).map W.str))) st.sz (.lst ((wordsOf x).map W.str)) := has_add
  rw [pin_run a hx ho hf]
  obtain ⟨h1, ⟨hj, h2⟩ | ⟨rfl, h2⟩⟩ := hb
  · obtain ⟨e, s, e1, l⟩ := pin_bad a x st.sz (wordsOf x) _ hm (words_ok hx ho) j hj h1 h2
    exact ⟨s, by rw [ev_seq, e1]; rfl, le_add.trans l⟩
  · obtain ⟨p, q, r, s, e1, l⟩ := pin_all a x st.sz (wordsOf x) _ hm (words_ok hx ho) (fun i hi => h1 i hi hi)
    refine ⟨s, ?_, le_add.trans l⟩
    have t := pin_test (x := x) (p := p) (q := q) (r := r) (l.has0 hm)
    rw [decide_eq_false h2] at t
    have e := ev_lenL (l.has0 hm)
    rw [List.length_map] at e
    have v : mVar 1 (pinEnv x st.sz p q r) s = .ok (.ref st.sz) s := ev_var rfl
    rw [ev_seq, e1]
    show (pinRest a (pinEnv x st.sz p q r) s).call = _
    unfold pinRest
    rw [ev_seq, ev_ifS, t]
    simp [mRaise, v, e, permL]
theorem pin_ok (a : Ad) {x : Str} {st : S} (hx : x.length ≤ 100000) (ho : okS x) (hf : x ≠ "free") (hb : allRight (wordsOf x)) : ∃ n s, M_pairs_in a [.str x] st = .ok (.ref n) s ∧ LeX [] st s ∧ Has s n (.lst ((pairsOf (wordsOf x)).map pairW)) := by
  have hm : Has (st.add (.lst ((wordsOf x).map W.str))) st.sz (.lst ((wordsOf x).map W.str)) := has_add
  rw [pin_run a hx ho hf]
  obtain ⟨p, q, r, s, e1, l⟩ := pin_all a x st.sz (wordsOf x) _ hm (words_ok hx ho) hb.1
  have t := pin_test (x := x) (p := p) (q := q) (r := r) (l.has0 hm)
  rw [decide_eq_true hb.2] at t
  obtain ⟨s2, e2, l2, h2⟩ := pin_comp (x := x) (p := p) (q := q) (r := r) (l.has0 hm) hb.2 (by have := words_len x; omega)
  refine ⟨s.sz, s2, ?_, (le_add.trans l).trans l2, h2⟩
  rw [ev_seq, e1]
  show (pinRest a (pinEnv x st.sz p q r) s).call = _
  unfold pinRest
  rw [ev_seq, ev_ifS, t]
  show (mRet pinComp (pinEnv x st.sz p q r) s).call = _
  rw [ev_ret, e2]
  rfl
end K31

namespace K31
open PySem PySem.Spec PyProof.Rows L2 MM
theorem ft_eq (a : Ad) (w : W) (st : S) : M_Condition_from_text a [.glo a.Condition, w] st = (M_pairs_in a [w] st).bind fun v s => match itemsW v s with
    | some xs => mMake a.Condition (M_Condition_init a) xs s
    | none => .bad := by
  unfold M_Condition_from_text
  rw [ev_fill (by simp), ev_def]
  unfold b_Condition_from_text
  show (mSeq (mAsg (mN (M_pairs_in a) (mLCons (mVar 1) mLNil)) (gN 2)) _ [some (.glo a.Condition), some w, none] st).call = _
  have e : (mAsg (mN (M_pairs_in a) (mLCons (mVar 1) mLNil)) (gN 2)) [some (.glo a.Condition), some w, none] st = (M_pairs_in a [w] st).toS [some (.glo a.Condition), some w, none] fun v s => .nx [some (.glo a.Condition), some w, some v] s := by
    simp
  rw [ev_seq, e]
  cases M_pairs_in a [w] st with
  | ok v s =>
    simp [mVS1, mt1_at]
    cases itemsW v s with
    | none => rfl
    | some xs =>
      simp only
      cases mMake a.Condition (M_Condition_init a) xs s <;> rfl
  | exc C fs s => rfl
  | bad => rfl
end K31

namespace K31
open PySem PySem.Spec PyProof.Rows L2 MM
theorem right_even {i : Nat} {w : Str} (h : rightAt i w = true) (h2 : i % 2 = 0) : wordS w = true := by
  unfold rightAt at h
  rw [if_neg (by omega)] at h
  exact h
theorem words_pairs {ws : List Str} (h : allRight ws) : WordsOk (pairsOf ws) := fun p hp => by
  obtain ⟨k, hk, rfl⟩ := List.mem_map.mp hp
  have hk := List.mem_range.mp hk
  have h3 := h.2
  have h1 : 4 * k < ws.length := by omega
  have h2 : 4 * k + 2 < ws.length := by omega
  refine ⟨?_, ?_⟩
  · show wordS (ws.getD (4 * k) Str.empty) = true
    rw [getD_at h1]
    exact right_even (h.1 _ h1) (by omega)
  · show wordS (ws.getD (4 * k + 2) Str.empty) = true
    rw [getD_at h2]
    exact right_even (h.1 _ h2) (by omega)
theorem ft_no (a : Ad) {w : W} {t : Tg} {st : S} (h : kind a w st t) (ht : Tg.beq t (.ty "str") = false) : M_Condition_from_text a [.glo a.Condition, w] st = .exc a.BadText [("word", .int 0), ("line", .int 0)] st := by
  rw [ft_eq, pin_no a h ht]
  rfl
theorem ft_bad (a : Ad) {x : Str} {j : Nat} {st : S} (hx : x.length ≤ 100000) (ho : okS x) (hf : x ≠ "free") (hb : badAt (wordsOf x) j) : ∃ s, M_Condition_from_text a [.glo a.Condition, .str x] st = .exc a.BadText [("word", .int j), ("line", .int 0)] s ∧ LeX [] st s := by
  obtain ⟨s, e, l⟩ := pin_raise a hx ho hf hb (st := st)
  exact ⟨s, by rw [ft_eq, e]; rfl, l⟩
theorem ft_free (a : Ad) (st : S) : ∃ n s, M_Condition_from_text a [.glo a.Condition, .str "free"] st = .ok (.ref n) s ∧ LeX [] st s ∧ Has s n (Cond a []) := by
  obtain ⟨s, e, l, h⟩ := make_pairs a [] (st.add (.lst [])) (by simp) (fun _ h => nomatch h)
  refine ⟨_, s, ?_, le_add.trans l, h⟩
  have hi : itemsW (.ref st.sz) (st.add (.lst [])) = some [] := (has_add (s := st) (o := .lst [])).items
  rw [ft_eq, pin_free, R.bind_ok, hi]
  exact e
theorem ft_ok (a : Ad) {x : Str} {st : S} (hx : x.length ≤ 100000) (ho : okS x) (hf : x ≠ "free") (hb : allRight (wordsOf x)) (h40 : (pairsOf (wordsOf x)).length ≤ 40) : ∃ n s, M_Condition_from_text a [.glo a.Condition, .str x] st = .ok (.ref n) s ∧ LeX [] st s ∧ Has s n (Cond a (pairsOf (wordsOf x))) := by
  obtain ⟨m, s, e, l, h⟩ := pin_ok a hx ho hf hb (st := st)
  obtain ⟨s2, e2, l2, h2⟩ := make_pairs a (pairsOf (wordsOf x)) s h40 (words_pairs hb)
  refine ⟨_, s2, ?_, l.trans l2, h2⟩
  rw [ft_eq, e, R.bind_ok, h.items]
  exact e2
theorem ft_many (a : Ad) {x : Str} {st : S} (hx : x.length ≤ 100000) (ho : okS x) (hf : x ≠ "free") (hb : allRight (wordsOf x)) (h40 : 40 < (pairsOf (wordsOf x)).length) : ∃ s, M_Condition_from_text a [.glo a.Condition, .str x] st = .exc a.TooMany [("most", .int 40), ("what", .str "pairs")] s ∧ LeX [] st s := by
  obtain ⟨m, s, e, l, h⟩ := pin_ok a hx ho hf hb (st := st)
  have hl : (pairsOf (wordsOf x)).length ≤ 100000 := by
    have := words_len x
    unfold pairsOf
    rw [List.length_map, List.length_range]
    omega
  obtain ⟨s2, e2, l2⟩ := make_pairs_many a (pairsOf (wordsOf x)) s h40 hl (words_pairs hb)
  refine ⟨s2, ?_, l.trans l2⟩
  rw [ft_eq, e, R.bind_ok, h.items]
  exact e2
end K31

namespace K31
open PySem PySem.Spec PyProof.Rows L2 MM
structure Pen (st : S) (n m k : Nat) : Prop where
  ex : ∃ (at_ : Nat) (gr : Int) (xs : List Int), Has st n (.lst [.ref m, .int at_, .int gr]) ∧ Has st m (.lst (xs.map W.int)) ∧ at_ ≤ k ∧ 0 ≤ gr
  ne : m ≠ n
theorem ix_l2 {x y z : W} {r : List W} {st : S} {n : Nat} (h : Has st n (.lst (x :: y :: z :: r))) : ixW (.ref n) (.int 2) st = .ok z st := by
  have e : atI (x :: y :: z :: r) 2 = some z := atI_nat (xs := x :: y :: z :: r) (j := 2) rfl
  simp [ixW, h.lst, e]
theorem Pen.mono {st st' : S} {n m k : Nat} (h : Pen st n m k) (l : LeX [] st st') : Pen st' n m k := by
  obtain ⟨at_, gr, xs, h1, h2, h3, h4⟩ := h.ex
  exact ⟨⟨at_, gr, xs, l.has0 h1, l.has0 h2, h3, h4⟩, h.ne⟩
theorem Pen.up {st : S} {n m k k' : Nat} (h : Pen st n m k) (l : k ≤ k') : Pen st n m k' := by
  obtain ⟨at_, gr, xs, h1, h2, h3, h4⟩ := h.ex
  exact ⟨⟨at_, gr, xs, h1, h2, Nat.le_trans h3 l, h4⟩, h.ne⟩
theorem Pen.lt {st : S} {n m k : Nat} (h : Pen st n m k) : n < st.sz ∧ m < st.sz := by
  obtain ⟨at_, gr, xs, h1, h2, h3, h4⟩ := h.ex
  exact ⟨h1.1, h2.1⟩
theorem Pen.put {st : S} {n m k d : Nat} {o : O} (h : Pen st n m k) (h1 : d ≠ n) (h2 : d ≠ m) : Pen (st.put d o) n m k := by
  obtain ⟨at_, gr, xs, e1, e2, h3, h4⟩ := h.ex
  exact ⟨⟨at_, gr, xs, e1.put h1.symm, e2.put h2.symm, h3, h4⟩, h.ne⟩
theorem Pen.ins {st : S} {n m k d : Nat} {C : Addr} {fs : List (Str × W)} (h : Pen st n m k) (hd : Has st d (.ins C fs)) : d ≠ n := by
  obtain ⟨at_, gr, xs, e1, e2, h3, h4⟩ := h.ex
  rintro rfl
  cases hd.inj e1
theorem Pen.pairs {st : S} {n m k d : Nat} {ps : List (Str × Str)} (h : Pen st n m k) (hd : Has st d (.lst (ps.map pairW))) : d ≠ n := by
  obtain ⟨at_, gr, xs, e1, e2, h3, h4⟩ := h.ex
  rintro rfl
  have := hd.inj e1
  cases ps with
  | nil => cases this
  | cons p ps => cases this
theorem fmod_nat {i : Int} {j : Nat} (hi : 0 ≤ i) (hj : 0 < j) : ∃ d : Nat, d < j ∧ i.fmod j = (d : Int) := by
  refine ⟨(i.fmod j).toNat, ?_, ?_⟩
  · have h1 := Int.fmod_nonneg hi (by omega : (0 : Int) ≤ j)
    have h2 := Int.fmod_lt_of_pos i (by omega : (0 : Int) < j)
    omega
  · have h1 := Int.fmod_nonneg hi (by omega : (0 : Int) ≤ j)
    omega
end K31

namespace K31
open PySem PySem.Spec PyProof.Rows L2 MM
theorem asg_item {m : ME} {env : MM.Env} {st s : S} {w : W} {n j : Nat} {ws : List W} {mi : ME} (hm : m env st = .ok w s) (hv : env[0]? = some (some (.ref n))) (hi : mi env s = .ok (.int (j : Int)) s) (hn : Has s n (.lst ws)) (hj : j < ws.length) : mAsg m (gI (mVar 0) mi) env st = .nx env (s.put n (.lst (ws.set j w))) := by
  have e : ixN ws.length (j : Int) = some j := by
    unfold ixN
    rw [if_pos (by omega), if_pos (by omega)]
    simp
  unfold mAsg
  rw [hm]
  show (match gI (mVar 0) mi w env s with | some (env', s') => RS.nx env' s' | none => RS.bad) = _
  unfold gI
  rw [ev_var hv]
  simp only [hi, hn.lst, e]
end K31

namespace K31
open PySem PySem.Spec PyProof.Rows L2 MM
def drawFirst : MS := (mSeq (mAsg (m2 wMod (mN wInt (mLCons (m2 ixW (mVar 0) (mC (.int 2))) mLNil)) (mVar 1)) (gN 2))
    (mSeq (mAsg (m2 wDiv (mN wInt (mLCons (m2 ixW (mVar 0) (mC (.int 2))) mLNil)) (mVar 1)) (gI (mVar 0) (mC (.int 2))))
    (mRet (mVar 2))))
theorem draw_first {n m : Nat} {at_ gr many : Int} {st : S} {o3 o4 o5 o6 : Option W} (hn : Has st n (.lst [.ref m, .int at_, .int gr])) (h1 : many ≠ 0) (h2 : many.natAbs < 1073741824) :
    drawFirst [some (.ref n), some (.int many), none, o3, o4, o5, o6] st = .rt (.int (gr.fmod many)) (st.put n (.lst [.ref m, .int at_, .int (gr.fdiv many)])) := by
  have i2 := ix_l2 hn
  have e1 : (mAsg (m2 wMod (mN wInt (mLCons (m2 ixW (mVar 0) (mC (.int 2))) mLNil)) (mVar 1)) (gN 2)) [some (.ref n), some (.int many), none, o3, o4, o5, o6] st = .nx [some (.ref n), some (.int many), some (.int (gr.fmod many)), o3, o4, o5, o6] st := by
    simp [i2, ev_modI h1]
  have e2 := asg_item (m := m2 wDiv (mN wInt (mLCons (m2 ixW (mVar 0) (mC (.int 2))) mLNil)) (mVar 1)) (env := [some (.ref n), some (.int many), some (.int (gr.fmod many)), o3, o4, o5, o6]) (st := st) (s := st) (w := .int (gr.fdiv many)) (n := n) (j := 2) (mi := mC (.int 2)) (by simp [i2, ev_divI h1 h2]) rfl rfl hn (by simp)
  unfold drawFirst
  rw [ev_seq, e1]
  show mSeq _ _ [some (.ref n), some (.int many), some (.int (gr.fmod many)), o3, o4, o5, o6] st = _
  rw [ev_seq, e2]
  rfl
end K31

namespace K31
open PySem PySem.Spec PyProof.Rows L2 MM
theorem rd_ints {s : S} {k n : Nat} {xs : List Int} (h : Has s n (.lst (xs.map W.int))) : rd (k + 2) s (.ref n) = some (.list (xs.map PyData.int)) := rd_lstM h fun _ _ => rfl
theorem shaped_ints (xs : List Int) : SeqAt.shaped (.list (xs.map PyData.int)) = true := shaped_list (fun _ _ => by simp [PyData.canLay0]) fun _ _ => by simp [PyData.depth]
theorem ne_empty {s : S} {n e : Nat} {xs : List Int} (h : Has s n (.lst (xs.map W.int))) (he : Has s e (.lst [])) : wNe (.ref n) (.ref e) s = .ok (.bl (!decide (xs = []))) s := by
  have r2 : rd 60 s (.ref e) = some (.list (([] : List Int).map PyData.int)) := rd_ints (xs := []) he
  rw [ev_ne (rd_ints h) r2 (shaped_ints xs) (shaped_ints []), eqv_lists eqv_int]
end K31

namespace K31
open PySem PySem.Spec PyProof.Rows L2 MM
def drawMix : MS := (mSeq (mAsg (m2 wMod (mN wInt (mLCons (m2 wPow (m2 wAdd (m2 wAdd (m2 wMod (mN wInt (mLCons (mVar 4) mLNil)) (mC (.int 2147483549))) (m2 wMul (mC (.int 9419)) (mVar 3))) (mC (.int 733))) (mC (.int 5))) mLNil)) (mC (.int 2147483629))) (gN 6))
    (mSeq (mAsg (m2 wMod (mN wInt (mLCons (m2 wPow (m2 wAdd (m2 wAdd (m2 wMul (mVar 6) (m2 wAdd (m2 wMul (mC (.int 2)) (mVar 3)) (mC (.int 373)))) (m2 wMul (m2 wMul (mC (.int 9419)) (mVar 3)) (mVar 3))) (mC (.int 97))) (mC (.int 3))) mLNil)) (mC (.int 2147483587))) (gN 6))
    (mRet (m2 wMod (mN wInt (mLCons (m2 wDiv (mVar 6) (mC (.int 32))) mLNil)) (mVar 1)))))
end K31

namespace K31
open PySem PySem.Spec PyProof.Rows L2 MM
theorem draw_mix {n k : Nat} {many cell : Int} {st : S} {o2 o5 o6 : Option W} (hk : k ≤ 100000) (h1 : 0 < many) :
    ∃ d : Int, 0 ≤ d ∧ d < many ∧ drawMix [some (.ref n), some (.int many), o2, some (.int (k : Int)), some (.int cell), o5, o6] st = .rt (.int d) st := by
  have hm : many ≠ 0 := by omega
  have c0 := Int.fmod_nonneg_of_pos cell (show (0 : Int) < 2147483549 by decide)
  have c1 := Int.fmod_lt_of_pos cell (show (0 : Int) < 2147483549 by decide)
  generalize hc : cell.fmod 2147483549 = c at c0 c1
  have mc : wMod (.int cell) (.int 2147483549) st = .ok (.int c) st := by rw [ev_modI (by decide), hc]
  have m1' : wMul (.int 9419) (.int (k : Int)) st = .ok (.int (9419 * (k : Int))) st := ev_mulL (by decide) (by decide)
  have p5 : wPow (.int (c + 9419 * (k : Int) + 733)) (.int 5) st = .ok (.int ((c + 9419 * (k : Int) + 733) ^ 5)) st := ev_powI (j := 5) (by decide) (by omega)
  generalize hx : (c + 9419 * (k : Int) + 733) ^ 5 = x at p5
  have x0 := Int.fmod_nonneg_of_pos x (show (0 : Int) < 2147483629 by decide)
  have x1 := Int.fmod_lt_of_pos x (show (0 : Int) < 2147483629 by decide)
  generalize hy : x.fmod 2147483629 = y at x0 x1
  have mx : wMod (.int x) (.int 2147483629) st = .ok (.int y) st := by rw [ev_modI (by decide), hy]
  have a1 : wMul (.int 2) (.int (k : Int)) st = .ok (.int (2 * (k : Int))) st := ev_mulL (by decide) (by decide)
  have a2 : wMul (.int y) (.int (2 * (k : Int) + 373)) st = .ok (.int (y * (2 * (k : Int) + 373))) st := ev_mulL (by omega) (by omega)
  have a3 : wMul (.int (9419 * (k : Int))) (.int (k : Int)) st = .ok (.int (9419 * (k : Int) * (k : Int))) st := ev_mulL (by omega) (by omega)
  have b1 : 0 ≤ y * (2 * (k : Int) + 373) := Int.mul_nonneg x0 (by omega)
  have b2 : y * (2 * (k : Int) + 373) ≤ 2147483629 * 200373 := Int.mul_le_mul (by omega) (by omega) (by omega) (by decide)
  have b3 : 0 ≤ 9419 * (k : Int) * (k : Int) := Int.mul_nonneg (by omega) (by omega)
  have b4 : 9419 * (k : Int) * (k : Int) ≤ 941900000 * 100000 := Int.mul_le_mul (by omega) (by omega) (by omega) (by decide)
  generalize hu : y * (2 * (k : Int) + 373) = u at a2 b1 b2
  generalize hv : 9419 * (k : Int) * (k : Int) = v at a3 b3 b4
  have p3 : wPow (.int (u + v + 97)) (.int 3) st = .ok (.int ((u + v + 97) ^ 3)) st := ev_powI (j := 3) (by decide) (by omega)
  generalize hz : (u + v + 97) ^ 3 = z at p3
  have z0 := Int.fmod_nonneg_of_pos z (show (0 : Int) < 2147483587 by decide)
  generalize hq : z.fmod 2147483587 = q at z0
  have mz : wMod (.int z) (.int 2147483587) st = .ok (.int q) st := by rw [ev_modI (by decide), hq]
  have dq : wDiv (.int q) (.int 32) st = .ok (.int (q.fdiv 32)) st := ev_divI (by decide) (by decide)
  refine ⟨(q.fdiv 32).fmod many, Int.fmod_nonneg_of_pos _ h1, Int.fmod_lt_of_pos _ h1, ?_⟩
  have e1 : (mAsg (m2 wMod (mN wInt (mLCons (m2 wPow (m2 wAdd (m2 wAdd (m2 wMod (mN wInt (mLCons (mVar 4) mLNil)) (mC (.int 2147483549))) (m2 wMul (mC (.int 9419)) (mVar 3))) (mC (.int 733))) (mC (.int 5))) mLNil)) (mC (.int 2147483629))) (gN 6)) [some (.ref n), some (.int many), o2, some (.int (k : Int)), some (.int cell), o5, o6] st = .nx [some (.ref n), some (.int many), o2, some (.int (k : Int)), some (.int cell), o5, some (.int y)] st := by
    simp [mc, m1', p5, mx]
  have e2 : (mAsg (m2 wMod (mN wInt (mLCons (m2 wPow (m2 wAdd (m2 wAdd (m2 wMul (mVar 6) (m2 wAdd (m2 wMul (mC (.int 2)) (mVar 3)) (mC (.int 373)))) (m2 wMul (m2 wMul (mC (.int 9419)) (mVar 3)) (mVar 3))) (mC (.int 97))) (mC (.int 3))) mLNil)) (mC (.int 2147483587))) (gN 6)) [some (.ref n), some (.int many), o2, some (.int (k : Int)), some (.int cell), o5, some (.int y)] st = .nx [some (.ref n), some (.int many), o2, some (.int (k : Int)), some (.int cell), o5, some (.int q)] st := by
    simp [a1, a2, m1', a3, p3, mz]
  unfold drawMix
  rw [ev_seq, e1]
  show mSeq _ _ [some (.ref n), some (.int many), o2, some (.int (k : Int)), some (.int cell), o5, some (.int y)] st = _
  rw [ev_seq, e2]
  simp [dq, ev_modI hm]
end K31

namespace K31
open PySem PySem.Spec PyProof.Rows L2 MM
abbrev dLen : ME := mN wLen (mLCons (m2 ixW (mVar 0) (mC (.int 0))) mLNil)
def dT1 : MB := mT asB (m2 wGt (m2 ixW (mVar 0) (mC (.int 2))) (mC (.int 0)))
def dA3 : MS := mAsg (m2 ixW (mVar 0) (mC (.int 1))) (gN 3)
def dA1 : MS := mAsg (m2 wAdd (mVar 3) (mC (.int 1))) (gI (mVar 0) (mC (.int 1)))
def dA4 : MS := mAsg (m2 wAdd (m2 wMul (mC (.int 9419)) (mVar 3)) (mC (.int 733))) (gN 4)
def dIfc : MS := mIfS (mT asB (m2 wNe (m2 ixW (mVar 0) (mC (.int 0))) (mN newLst mLNil))) (mAsg (m2 ixW (m2 ixW (mVar 0) (mC (.int 0))) (m2 wMod (mN wInt (mLCons (mVar 3) mLNil)) dLen)) (gN 4)) mNext
def dGr : MS := (mSeq (mAsg (m2 wAdd (m2 wMul (mC (.int 2)) (m2 wSub (mN wAbs (mLCons (mVar 4) mLNil)) (m2 wPow (mC (.int 10)) (mC (.int 18))))) (mN wInt (mLCons (m2 wLt (mVar 4) (mC (.int 0))) mLNil))) (gN 5))
    (mSeq (mAsg (m2 wDiv (mN wInt (mLCons (mVar 5) mLNil)) (mVar 1)) (gI (mVar 0) (mC (.int 2))))
    (mRet (m2 wMod (mN wInt (mLCons (mVar 5) mLNil)) (mVar 1)))))
def dIfg : MS := mIfS (mAndB (mT asB (m2 wLt (mVar 3) dLen)) (mT asB (m2 wGe (mN wAbs (mLCons (mVar 4) mLNil)) (m2 wPow (mC (.int 10)) (mC (.int 18)))))) dGr mNext
theorem draw_parts (a : Ad) : b__law_draw a = mSeq (mIfS dT1 drawFirst mNext) (mSeq dA3 (mSeq dA1 (mSeq dA4 (mSeq dIfc (mSeq dIfg drawMix))))) := rfl
section
variable {n m at_ : Nat} {gr many b : Int} {st : S} {xs : List Int} {o3 o4 o5 o6 : Option W}
theorem d_t1 (hn : Has st n (.lst [.ref m, .int at_, .int gr])) : dT1 [some (.ref n), some (.int many), none, o3, o4, o5, o6] st = .ok (decide (0 < gr)) st :=
  (mT_ok ((m2_ok ((m2_ok (v_ok rfl) c_ok).trans (ix_l2 hn)) c_ok).trans ev_gt)).trans asB_ok
theorem d_a3 (hn : Has st n (.lst [.ref m, .int at_, .int gr])) : dA3 [some (.ref n), some (.int many), none, o3, o4, o5, o6] st = .nx [some (.ref n), some (.int many), none, some (.int at_), o4, o5, o6] st :=
  nm_ok ((m2_ok (v_ok rfl) c_ok).trans (ix_l1 hn))
theorem d_a1 (hn : Has st n (.lst [.ref m, .int at_, .int gr])) : dA1 [some (.ref n), some (.int many), none, some (.int at_), o4, o5, o6] st = .nx [some (.ref n), some (.int many), none, some (.int at_), o4, o5, o6] (st.put n (.lst [.ref m, .int ((at_ + 1 : Nat) : Int), .int gr])) :=
  asg_item (env := [some (.ref n), some (.int many), none, some (.int at_), o4, o5, o6]) (s := st) (w := .int ((at_ : Int) + 1)) (j := 1) ((m2_ok (v_ok rfl) c_ok).trans ev_add) rfl c_ok hn (by simp)
theorem d_a4 : dA4 [some (.ref n), some (.int many), none, some (.int at_), o4, o5, o6] st = .nx [some (.ref n), some (.int many), none, some (.int at_), some (.int (9419 * (at_ : Int) + 733)), o5, o6] st :=
  nm_ok ((m2_ok ((m2_ok c_ok (v_ok rfl)).trans (ev_mulL (by decide) (by decide))) c_ok).trans ev_add)
theorem d_cells (hn : Has st n (.lst [.ref m, .int b, .int gr])) {env : MM.Env} (he : env[0]? = some (some (.ref n))) : m2 ixW (mVar 0) (mC (.int 0)) env st = .ok (.ref m) st := (m2_ok (v_ok he) c_ok).trans (ix_l0 hn)
theorem d_len (hn : Has st n (.lst [.ref m, .int b, .int gr])) (hm : Has st m (.lst (xs.map W.int))) {env : MM.Env} (he : env[0]? = some (some (.ref n))) : dLen env st = .ok (.int xs.length) st :=
  (mN_ok (l_one (d_cells hn he))).trans (by rw [ev_lenL hm, List.length_map])
theorem d_ifc {c : Int} (hn : Has st n (.lst [.ref m, .int b, .int gr])) (hm : Has st m (.lst (xs.map W.int))) : ∃ cell s, dIfc [some (.ref n), some (.int many), none, some (.int at_), some (.int c), o5, o6] st = .nx [some (.ref n), some (.int many), none, some (.int at_), some (.int cell), o5, o6] s ∧ LeX [] st s := by
  have hl : LeX [] st (st.add (.lst [])) := le_add
  have e1 : mN newLst mLNil [some (.ref n), some (.int many), none, some (.int at_), some (.int c), o5, o6] st = .ok (.ref st.sz) (st.add (.lst [])) := (mN_ok l_nil).trans (ev_newLst (by simp))
  have e2 : wNe (.ref m) (.ref st.sz) (st.add (.lst [])) = .ok (.bl (!decide (xs = []))) (st.add (.lst [])) := ne_empty (hl.has0 hm) has_add
  have e3 := (mT_ok (f := asB) ((m2_ok (f := wNe) (d_cells hn (env := [some (.ref n), some (.int many), none, some (.int at_), some (.int c), o5, o6]) rfl) e1).trans e2)).trans asB_ok
  by_cases hx : xs = []
  · refine ⟨c, _, ?_, hl⟩
    rw [decide_eq_true hx] at e3
    exact if_f e3
  · rw [decide_eq_false hx] at e3
    have hp : 0 < xs.length := List.length_pos_iff.mpr hx
    have hi : at_ % xs.length < (xs.map W.int).length := by rw [List.length_map]; exact Nat.mod_lt _ hp
    have e4 := (m2_ok (f := wMod) ((mN_ok (f := wInt) (l_one (m := mVar 3) (env := [some (.ref n), some (.int many), none, some (.int at_), some (.int c), o5, o6]) (v_ok rfl))).trans ev_intI) (d_len (hl.has0 hn) (hl.has0 hm) rfl)).trans (mod_nat at_ xs.length (by omega))
    have e5 := (m2_ok (d_cells (hl.has0 hn) (env := [some (.ref n), some (.int many), none, some (.int at_), some (.int c), o5, o6]) rfl) e4).trans (ix_lst (hl.has0 hm) hi)
    rw [List.getElem_map] at e5
    exact ⟨_, _, (if_t e3).trans (nm_ok e5), hl⟩
theorem p1018 {env : MM.Env} : m2 wPow (mC (.int 10)) (mC (.int 18)) env st = .ok (.int 1000000000000000000) st := (m2_ok c_ok c_ok).trans (ev_powI (i := 10) (j := 18) (by decide) (by decide))
theorem d_ifg {cell : Int} (hn : Has st n (.lst [.ref m, .int b, .int gr])) (hm : Has st m (.lst (xs.map W.int))) (h1 : many ≠ 0) (h2 : many.natAbs < 1073741824) (h0 : 0 < many) :
    dIfg [some (.ref n), some (.int many), none, some (.int at_), some (.int cell), none, none] st = .nx [some (.ref n), some (.int many), none, some (.int at_), some (.int cell), none, none] st ∨
    ∃ great : Int, 0 ≤ great ∧ dIfg [some (.ref n), some (.int many), none, some (.int at_), some (.int cell), none, none] st = .rt (.int (great.fmod many)) (st.put n (.lst [.ref m, .int b, .int (great.fdiv many)])) := by
  have e1 := (mT_ok (f := asB) ((m2_ok (f := wLt) (v_ok (i := 3) (env := [some (.ref n), some (.int many), none, some (.int at_), some (.int cell), none, none]) rfl) (d_len hn hm rfl)).trans ev_lt)).trans asB_ok
  have eabs := (mN_ok (f := wAbs) (l_one (v_ok (i := 4) (st := st) (env := [some (.ref n), some (.int many), none, some (.int at_), some (.int cell), none, none]) rfl))).trans ev_absI
  by_cases hl : (at_ : Int) < (xs.length : Int)
  · rw [decide_eq_true hl] at e1
    have e2 := (mT_ok (f := asB) ((m2_ok (f := wGe) eabs p1018).trans ev_ge)).trans asB_ok
    by_cases hg : (1000000000000000000 : Int) ≤ (if cell < 0 then -cell else cell)
    · rw [decide_eq_true hg] at e2
      right
      generalize hv : (if cell < 0 then -cell else cell) = v at *
      have g1 := (m2_ok (f := wSub) eabs p1018).trans ev_sub
      have g2 := (m2_ok (f := wMul) c_ok g1).trans (ev_mulL (i := 2) (by decide) (by decide))
      have g3 := (mN_ok (f := wInt) (l_one ((m2_ok (f := wLt) (v_ok (i := 4) (st := st) (env := [some (.ref n), some (.int many), none, some (.int at_), some (.int cell), none, none]) rfl) (c_ok (w := .int 0))).trans ev_lt))).trans ev_intB
      have g4 := nm_ok (i := 5) ((m2_ok (f := wAdd) g2 g3).trans ev_add)
      generalize hgr : 2 * (v - 1000000000000000000) + (if decide (cell < 0) = true then (1 : Int) else 0) = great at g4
      have h3 : 0 ≤ great := by
        rw [← hgr]
        split <;> omega
      refine ⟨great, h3, ?_⟩
      refine (if_t (and_t e1 e2)).trans ?_
      unfold dGr
      refine (seq_nx g4).trans ?_
      have g5 := asg_item (m := m2 wDiv (mN wInt (mLCons (mVar 5) mLNil)) (mVar 1)) (env := [some (.ref n), some (.int many), none, some (.int at_), some (.int cell), some (.int great), none]) (st := st) (s := st) (w := .int (great.fdiv many)) (n := n) (j := 2) (mi := mC (.int 2)) ((m2_ok ((mN_ok (l_one (v_ok rfl))).trans ev_intI) (v_ok rfl)).trans (ev_divI h1 h2)) rfl c_ok hn (by simp)
      refine (seq_nx g5).trans ?_
      exact ret_ok ((m2_ok ((mN_ok (l_one (v_ok rfl))).trans ev_intI) (v_ok rfl)).trans (ev_modI h1))
    · rw [decide_eq_false hg] at e2
      exact .inl (if_f (and_t e1 e2))
  · rw [decide_eq_false hl] at e1
    exact .inl (if_f (and_f e1))
end
end K31

namespace K31
open PySem PySem.Spec PyProof.Rows L2 MM
theorem draw_run (a : Ad) {n m k : Nat} {many : Int} {st : S} (hp : Pen st n m k) (hk : k ≤ 90000) (h0 : 0 < many) (h2 : many < 1073741824) :
    ∃ d s, M__law_draw a [.ref n, .int many] st = .ok (.int d) s ∧ 0 ≤ d ∧ d < many ∧ LeX [n] st s ∧ Pen s n m (k + 1) := by
  obtain ⟨at_, gr, xs, hn, hm, hat, hgr⟩ := hp.ex
  have h1 : many ≠ 0 := by omega
  have h2' : many.natAbs < 1073741824 := by omega
  have start : M__law_draw a [.ref n, .int many] st = ((mSeq (mIfS dT1 drawFirst mNext) (mSeq dA3 (mSeq dA1 (mSeq dA4 (mSeq dIfc (mSeq dIfg drawMix)))))) [some (.ref n), some (.int many), none, none, none, none, none] st).call := fill_def (by simp)
  have t1 := d_t1 (many := many) (o3 := none) (o4 := none) (o5 := none) (o6 := none) hn
  by_cases hg : 0 < gr
  · rw [decide_eq_true hg] at t1
    refine ⟨gr.fmod many, _, start.trans (call_rt (seq_rt ((if_t t1).trans (draw_first hn h1 h2')))), Int.fmod_nonneg_of_pos _ h0, Int.fmod_lt_of_pos _ h0, le_put (.inl (by simp)) .refl, ⟨at_, gr.fdiv many, xs, has_put hn.1, hm.put hp.ne, by omega, Int.fdiv_nonneg hgr (by omega)⟩, hp.ne⟩
  · rw [decide_eq_false hg] at t1
    have e0 : (mIfS dT1 drawFirst mNext) [some (.ref n), some (.int many), none, none, none, none, none] st = .nx [some (.ref n), some (.int many), none, none, none, none, none] st := if_f t1
    have hn1 : Has (st.put n (.lst [.ref m, .int ((at_ + 1 : Nat) : Int), .int gr])) n (.lst [.ref m, .int ((at_ + 1 : Nat) : Int), .int gr]) := has_put hn.1
    have hm1 : Has (st.put n (.lst [.ref m, .int ((at_ + 1 : Nat) : Int), .int gr])) m (.lst (xs.map W.int)) := hm.put hp.ne
    have l1 : LeX [n] st (st.put n (.lst [.ref m, .int ((at_ + 1 : Nat) : Int), .int gr])) := le_put (.inl (by simp)) .refl
    have e3 := d_a3 (many := many) (o3 := none) (o4 := none) (o5 := none) (o6 := none) hn
    have e1 := d_a1 (many := many) (o4 := none) (o5 := none) (o6 := none) hn
    generalize st.put n (.lst [.ref m, .int ((at_ + 1 : Nat) : Int), .int gr]) = st1 at *
    have e4 := d_a4 (n := n) (at_ := at_) (many := many) (o4 := none) (o5 := none) (o6 := none) (st := st1)
    obtain ⟨cell, s2, e5, l2⟩ := d_ifc (c := 9419 * (at_ : Int) + 733) (at_ := at_) (many := many) (o5 := none) (o6 := none) hn1 hm1
    have hn2 := l2.has0 hn1
    have hm2 := l2.has0 hm1
    have l3 : LeX [n] st s2 := l1.trans l2.of0
    rcases d_ifg (cell := cell) (at_ := at_) hn2 hm2 h1 h2' h0 with e6 | ⟨great, g0, e6⟩
    · obtain ⟨d, q0, q1, e7⟩ := draw_mix (n := n) (k := at_) (many := many) (cell := cell) (st := s2) (o2 := none) (o5 := none) (o6 := none) (by omega) h0
      exact ⟨d, s2, start.trans (call_rt ((seq_nx e0).trans ((seq_nx e3).trans ((seq_nx e1).trans ((seq_nx e4).trans ((seq_nx e5).trans ((seq_nx e6).trans e7))))))), q0, q1, l3, ⟨at_ + 1, gr, xs, hn2, hm2, by omega, hgr⟩, hp.ne⟩
    · exact ⟨great.fmod many, _, start.trans (call_rt ((seq_nx e0).trans ((seq_nx e3).trans ((seq_nx e1).trans ((seq_nx e4).trans ((seq_nx e5).trans (seq_rt e6))))))), Int.fmod_nonneg_of_pos _ h0, Int.fmod_lt_of_pos _ h0, l3.trans (le_put (.inl (by simp)) .refl), ⟨at_ + 1, great.fdiv many, xs, has_put hn2.1, hm2.put hp.ne, by omega, Int.fdiv_nonneg g0 (by omega)⟩, hp.ne⟩
theorem atI_in {ws : List W} {d : Int} (h0 : 0 ≤ d) (h1 : d < ws.length) : ∃ (hi : d.toNat < ws.length), atI ws d = some ws[d.toNat] := by
  have hi : d.toNat < ws.length := by omega
  refine ⟨hi, ?_⟩
  have := atI_nat (xs := ws) (j := d.toNat) (List.getElem?_eq_getElem hi)
  rwa [show ((d.toNat : Nat) : Int) = d by omega] at this
theorem pick_run (a : Ad) {n m k q : Nat} {ws : List W} {st : S} (hp : Pen st n m k) (hk : k ≤ 90000) (hq : Has st q (.lst ws)) (ne : q ≠ n) (h0 : ws ≠ []) (hl : ws.length ≤ 1000) :
    ∃ (i : Nat) (hi : i < ws.length) (s : S), M__law_pick a [.ref n, .ref q] st = .ok ws[i] s ∧ LeX [n] st s ∧ Pen s n m (k + 1) := by
  have hpos := List.length_pos_iff.mpr h0
  obtain ⟨d, s, e, d0, d1, l, hp'⟩ := draw_run a (many := (ws.length : Int)) hp hk (by omega) (by omega)
  obtain ⟨hi, ea⟩ := atI_in d0 d1
  refine ⟨d.toNat, hi, s, ?_, l, hp'⟩
  have hq' : Has s q (.lst ws) := l.has hq (by simpa using ne)
  have e1 : ixW (.ref q) (.int d) s = .ok ws[d.toNat] s := by
    simp only [ixW, hq'.lst, ea]
  refine (fill_def (by simp)).trans (call_rt (ret_ok ((m2_ok (v_ok rfl) ((mN_ok (l_two (v_ok rfl) ((mN_ok (l_one (v_ok rfl))).trans (ev_lenL hq)))).trans e)).trans e1)))
end K31

namespace K31
open PySem PySem.Spec PyProof.Rows L2 MM
theorem rng_one {j : Nat} (h : j ≤ 1000000) (s : S) : rng1 [.int (j : Int)] s = .ok (srcR 0 1 j) s := by
  have hw : inW (j : Int) = true := inW_fits (by omega) (by omega)
  show (if inW (j : Int) = true then R.ok (srcR 0 1 (j : Int).toNat) s else R.bad) = _
  rw [if_pos hw, Int.toNat_natCast]
theorem rng_int {d : Int} (h0 : 0 ≤ d) (h : d ≤ 1000000) (s : S) : rng1 [.int d] s = .ok (srcR 0 1 d.toNat) s := by
  have := rng_one (j := d.toNat) (by omega) s
  rwa [show ((d.toNat : Nat) : Int) = d by omega] at this
theorem mulS {x : Str} {k : Nat} {st : S} (h : x.length * k ≤ 1000000) (hk : k ≤ 1000000) : wMulS (.str x) (.int (k : Int)) st = .ok (.str (Txt.mul x k)) st := by
  unfold wMulS
  dsimp only
  rw [if_pos ⟨by omega, by omega, by rw [Int.toNat_natCast]; exact h⟩]
def menuL : List Str := ["*", "-", "go", "a?", "0", "x!", Txt.mul "a" 24, "stay=2", "m@n"]
theorem menu_words : ∀ w ∈ menuL, wordS w = true := by decide +kernel
def MenuOk (ps : List (Str × Str)) : Prop := ∀ p ∈ ps, p.1 ∈ menuL ∧ p.2 ∈ menuL
theorem MenuOk.words {ps : List (Str × Str)} (h : MenuOk ps) : WordsOk ps := fun p hp => ⟨menu_words _ (h p hp).1, menu_words _ (h p hp).2⟩
def wdMenu : ME := (mN newLst (mLCons (mC (.str "*")) (mLCons (mC (.str "-")) (mLCons (mC (.str "go")) (mLCons (mC (.str "a?")) (mLCons (mC (.str "0")) (mLCons (mC (.str "x!")) (mLCons (m2 wMulS (mC (.str "a")) (mC (.int 24))) (mLCons (mC (.str "stay=2")) (mLCons (mC (.str "m@n")) mLNil))))))))))
theorem wd_menu {env : MM.Env} {st : S} : wdMenu env st = .ok (.ref st.sz) (st.add (.lst (menuL.map W.str))) := by
  have e : m2 wMulS (mC (.str "a")) (mC (.int 24)) env st = .ok (.str (Txt.mul "a" 24)) st := (m2_ok c_ok c_ok).trans (mulS (k := 24) (by decide) (by decide))
  exact (mN_ok (l_cons c_ok (l_cons c_ok (l_cons c_ok (l_cons c_ok (l_cons c_ok (l_cons c_ok (l_cons e (l_cons c_ok (l_one c_ok)))))))))).trans (ev_newLst (by simp))
def wdEl (a : Ad) : ME := (mN newTup (mLCons (mN (M__law_pick a) (mLCons (mVar 0) (mLCons (mVar 2) mLNil))) (mLCons (mN (M__law_pick a) (mLCons (mVar 0) (mLCons (mVar 2) mLNil))) mLNil)))
theorem wd_el (a : Ad) {n m k q : Nat} {st : S} {o1 o3 : Option W} (hp : Pen st n m k) (hk : k + 1 ≤ 90000) (hq : Has st q (.lst (menuL.map W.str))) (ne : q ≠ n) :
    ∃ (p : Str × Str) (s : S), wdEl a [some (.ref n), o1, some (.ref q), o3] st = .ok (pairW p) s ∧ p.1 ∈ menuL ∧ p.2 ∈ menuL ∧ LeX [n] st s ∧ Pen s n m (k + 2) := by
  obtain ⟨i, hi, s1, e1, l1, p1⟩ := pick_run a hp (by omega) hq ne (by simp [menuL]) (by simp [menuL])
  obtain ⟨j, hj, s2, e2, l2, p2⟩ := pick_run a p1 hk (l1.has hq (by simpa using ne)) ne (by simp [menuL]) (by simp [menuL])
  rw [List.getElem_map] at e1 e2
  have hi' : i < menuL.length := by rwa [List.length_map] at hi
  have hj' : j < menuL.length := by rwa [List.length_map] at hj
  refine ⟨(menuL[i], menuL[j]), s2, ?_, List.getElem_mem hi', List.getElem_mem hj', l1.trans l2, p2⟩
  exact (mN_ok (l_two ((mN_ok (l_two (v_ok rfl) (v_ok rfl))).trans e1) ((mN_ok (l_two (v_ok rfl) (v_ok rfl))).trans e2))).trans (ev_newTup (by simp))
theorem words_run (a : Ad) {n m k most : Nat} {st : S} (hp : Pen st n m k) (hm : most ≤ 100) (hk : k + 2 * most + 2 ≤ 90000) :
    ∃ (q : Nat) (ps : List (Str × Str)) (s : S), M__law_words a [.ref n, .int most] st = .ok (.ref q) s ∧ Has s q (.lst (ps.map pairW)) ∧ ps.length ≤ most ∧ MenuOk ps ∧ LeX [n] st s ∧ Pen s n m (k + 1 + 2 * most) ∧ q ≠ n := by
  have h0 : LeX [] st (st.add (.lst (menuL.map W.str))) := le_add
  have hq : Has (st.add (.lst (menuL.map W.str))) st.sz (.lst (menuL.map W.str)) := has_add
  have hlt := hp.lt
  have ne : st.sz ≠ n := by omega
  obtain ⟨d, s1, e1, d0, d1, l1, p1⟩ := draw_run a (many := (most : Int) + 1) (hp.mono h0) (by omega) (by omega) (by omega)
  have hq1 := l1.has hq (by simpa using ne)
  have l01 : LeX [n] st s1 := h0.of0.trans l1
  have hi : (mSrc rng1 (mLCons (mN (M__law_draw a) (mLCons (mVar 0) (mLCons (m2 wAdd (mVar 1) (mC (.int 1))) mLNil))) mLNil)) [some (.ref n), some (.int most), some (.ref st.sz), none] (st.add (.lst (menuL.map W.str))) = .ok (srcR 0 1 d.toNat) s1 :=
    (mSrc_ok (l_one ((mN_ok (l_two (v_ok rfl) ((m2_ok (v_ok rfl) c_ok).trans ev_add))).trans e1))).trans (rng_int d0 (by omega) s1)
  have key := lc_ok (mi := mSrc rng1 (mLCons (mN (M__law_draw a) (mLCons (mVar 0) (mLCons (m2 wAdd (mVar 1) (mC (.int 1))) mLNil))) mLNil)) (g := gN 3) (mt := mYes) (me := wdEl a) (vs := [3]) (env := [some (.ref n), some (.int most), some (.ref st.sz), none]) (st := st.add (.lst (menuL.map W.str))) (st0 := s1) (src := srcR 0 1 d.toNat)
    (fun i s acc => LeX [n] s1 s ∧ Pen s n m (k + 1 + 2 * i) ∧ ∃ ps : List (Str × Str), acc = ps.map pairW ∧ ps.length = i ∧ MenuOk ps) hi
    ⟨le_add, p1.mono le_add, [], rfl, rfl, fun _ h => nomatch h⟩ (by
      rintro i s acc hi ⟨le, hp', ps, rfl, hpl, ho⟩ hd
      have hi : i < d.toNat := hi
      have hqs := le.has hq1 (by simpa using ne)
      obtain ⟨p, s2, e2, w1, w2, l2, p2⟩ := wd_el a (o1 := some (.int most)) (o3 := some (.int (0 + (i : Nat) * 1))) hp' (by omega) hqs ne
      have hdn : s1.sz ≠ n := by have := p1.lt; omega
      have hdm : s1.sz ≠ m := by have := p1.lt; omega
      refine ⟨rfl, _, [some (.ref n), some (.int most), some (.ref st.sz), some (.int (0 + (i : Nat) * 1))], s, rfl, rfl, .inr ⟨s, pairW p, s2, rfl, e2, l2.has hd (by simpa using hdn), le_put (.inr (Nat.le_refl _)) (le.trans l2), ?_, ps ++ [p], by simp, by simp [hpl], ?_⟩⟩
      · exact (p2.up (by omega)).put hdn hdm
      · intro x hx
        rcases List.mem_append.mp hx with h | h
        · exact ho x h
        · rw [List.mem_singleton.mp h]
          exact ⟨w1, w2⟩) (fun _ _ _ _ => rfl) (by show d.toNat ≤ 1000000; omega)
  obtain ⟨s', acc', e3, ⟨l3, p3, ps, rfl, hpl, ho⟩, h3⟩ := key
  have hpl : ps.length = d.toNat := hpl
  refine ⟨s1.sz, ps, s', ?_, h3, by omega, ho, l01.trans l3, p3.up ?_, p3.pairs h3⟩
  · have start : M__law_words a [.ref n, .int most] st = ((mSeq (mAsg wdMenu (gN 2)) (mRet (mLc (mSrc rng1 (mLCons (mN (M__law_draw a) (mLCons (mVar 0) (mLCons (m2 wAdd (mVar 1) (mC (.int 1))) mLNil))) mLNil)) (gN 3) mYes (wdEl a) [3]))) [some (.ref n), some (.int most), none, none] st).call := fill_def (by simp)
    exact start.trans (call_rt ((seq_nx (nm_ok wd_menu)).trans (ret_ok e3)))
  · show k + 1 + 2 * d.toNat ≤ _
    omega
end K31

namespace K31
open PySem PySem.Spec PyProof.Rows L2 MM
structure Dis (a : Ad) : Prop where
  ct : a.BadCondition ≠ a.BadText
  cm : a.BadCondition ≠ a.TooMany
  tm : a.BadText ≠ a.TooMany
theorem kind_exc {a : Ad} {st : S} {n : Nat} {C : Addr} {fs : List (Str × W)} (h : Has st n (.exc C fs)) (hC : C ∈ (isP a).TX) : kind a (.ref n) st (.cl C) := by
  simp only [kind, IsP.has, h.2, hC, if_true]
section
variable {a : Ad} {s : S} {e l : Nat} {C D : Addr} {fs : List (Str × W)} {x y : Option W}
abbrev hTest (a : Ad) (D : Addr) : MB := mT truth (mN (wIsi (isP a)) (mLCons (mVar 1) (mLCons (mC (.glo D)) mLNil)))
theorem h_test (h : Has s e (.exc C fs)) (hC : C ∈ (isP a).TX) (hD : Tg.cl D ∈ (isP a).Cs) : hTest a D [none, some (.ref e), some (.ref l), none] s = .ok (decide (C = D)) s :=
  (mT_ok ((mN_ok (l_two (v_ok rfl) c_ok)).trans (isi_cl (kind_exc h hC) hD))).trans tr_ok
theorem h_app {m : ME} {w : W} (hm : m [none, some (.ref e), some (.ref l), none] s = .ok w s) (hl : Has s l (.lst [])) : (mExpr (mBM "list" gAppend (mVar 2) (mLCons m mLNil))) [none, some (.ref e), some (.ref l), none] s = .nx [none, some (.ref e), some (.ref l), none] (s.put l (.lst [w])) := by
  have ht : tyW "list" (.ref l) s = true := by
    simp [tyW, hl.2]
  refine expr_ok (w := .non) ((bm_ok (v_ok rfl) ht (l_one hm)).trans ?_)
  simp only [gAppend, hl.lst]
  rfl
theorem h_fin {w : W} (hl : Has s l (.lst [w])) : (mRet (mIf (mT asB (m2 wEq (mN wLen (mLCons (mVar 2) mLNil)) (mC (.int 1)))) (m2 ixW (mVar 2) (mC (.int 0))) (mN newTup (mLCons (mC (.str "odd")) mLNil)))) [none, some (.ref e), some (.ref l), none] s = .rt w s := by
  have e1 := (m2_ok (f := wEq) ((mN_ok (f := wLen) (l_one (v_ok (i := 2) (st := s) (env := [none, some (.ref e), some (.ref l), none]) rfl))).trans (ev_lenL hl)) (c_ok (w := .int 1))).trans ev_eqI
  exact ret_ok (ie_t ((mT_ok e1).trans asB_ok) ((m2_ok (v_ok rfl) c_ok).trans (ix_l0 hl)))
end
theorem get_x {TX : List Addr} {f : Str} {s : S} {e : Nat} {C : Addr} {fs : List (Str × W)} {w : W} (h : Has s e (.exc C fs)) (hC : C ∈ TX) (hf : fs.lookup f = some w) : getA [] TX f (.ref e) s = .ok w s := by
  unfold getA
  simp only [h.2, hC, hf, if_true]
section
variable {a : Ad} {s : S} {e l : Nat}
theorem tail_text (d : Dis a) {w1 w2 : W} (h : Has s e (.exc a.BadText [("word", w2), ("line", w1)])) (hl : Has s l (.lst [])) : heardTail a [none, some (.ref e), some (.ref l), none] s = .rt (.tup [.str "text", w1, w2]) (s.put l (.lst [.tup [.str "text", w1, w2]])) := by
  have ne : e ≠ l := by
    rintro rfl
    cases h.inj hl
  have t1 := h_test (a := a) (D := a.BadCondition) (l := l) h (by simp [isP]) (by simp [isP])
  rw [decide_eq_false d.ct.symm] at t1
  have t2 := h_test (a := a) (D := a.BadText) (l := l) h (by simp [isP]) (by simp [isP])
  rw [decide_eq_true rfl] at t2
  have t3 := h_test (a := a) (D := a.TooMany) (l := l) (h.put (o' := .lst [.tup [.str "text", w1, w2]]) ne) (by simp [isP]) (by simp [isP])
  rw [decide_eq_false d.tm] at t3
  unfold heardTail
  refine (seq_nx (if_f t1)).trans ((seq_nx ((if_t t2).trans (h_app ((mN_ok (l_cons c_ok (l_two ((m1_ok (v_ok rfl)).trans (get_x h (by simp) (by rfl))) ((m1_ok (v_ok rfl)).trans (get_x h (by simp) (by rfl)))))).trans (ev_newTup (by simp))) hl))).trans ((seq_nx (if_f t3)).trans (h_fin (has_put hl.1))))
theorem tail_cond (d : Dis a) {w1 : W} (h : Has s e (.exc a.BadCondition [("at", w1)])) (hl : Has s l (.lst [])) : heardTail a [none, some (.ref e), some (.ref l), none] s = .rt (.tup [.str "condition", w1]) (s.put l (.lst [.tup [.str "condition", w1]])) := by
  have ne : e ≠ l := by
    rintro rfl
    cases h.inj hl
  have t1 := h_test (a := a) (D := a.BadCondition) (l := l) h (by simp [isP]) (by simp [isP])
  rw [decide_eq_true rfl] at t1
  have h' := h.put (o' := .lst [.tup [.str "condition", w1]]) ne
  have t2 := h_test (a := a) (D := a.BadText) (l := l) h' (by simp [isP]) (by simp [isP])
  rw [decide_eq_false d.ct] at t2
  have t3 := h_test (a := a) (D := a.TooMany) (l := l) h' (by simp [isP]) (by simp [isP])
  rw [decide_eq_false d.cm] at t3
  unfold heardTail
  refine (seq_nx ((if_t t1).trans (h_app ((mN_ok (l_two c_ok ((m1_ok (v_ok rfl)).trans (get_x h (by simp) (by rfl))))).trans (ev_newTup (by simp))) hl))).trans ((seq_nx (if_f t2)).trans ((seq_nx (if_f t3)).trans (h_fin (has_put hl.1))))
theorem tail_many (d : Dis a) {w1 w2 : W} (h : Has s e (.exc a.TooMany [("most", w2), ("what", w1)])) (hl : Has s l (.lst [])) : heardTail a [none, some (.ref e), some (.ref l), none] s = .rt (.tup [.str "many", w1, w2]) (s.put l (.lst [.tup [.str "many", w1, w2]])) := by
  have ne : e ≠ l := by
    rintro rfl
    cases h.inj hl
  have t1 := h_test (a := a) (D := a.BadCondition) (l := l) h (by simp [isP]) (by simp [isP])
  rw [decide_eq_false d.cm.symm] at t1
  have t2 := h_test (a := a) (D := a.BadText) (l := l) h (by simp [isP]) (by simp [isP])
  rw [decide_eq_false d.tm.symm] at t2
  have t3 := h_test (a := a) (D := a.TooMany) (l := l) h (by simp [isP]) (by simp [isP])
  rw [decide_eq_true rfl] at t3
  unfold heardTail
  refine (seq_nx (if_f t1)).trans ((seq_nx (if_f t2)).trans ((seq_nx ((if_t t3).trans (h_app ((mN_ok (l_cons c_ok (l_two ((m1_ok (v_ok rfl)).trans (get_x h (by simp) (by rfl))) ((m1_ok (v_ok rfl)).trans (get_x h (by simp) (by rfl)))))).trans (ev_newTup (by simp))) hl))).trans (h_fin (has_put hl.1))))
end
section
variable {a : Ad} {f : Addr} {mc : S → R W} {st s : S}
theorem heard_x {C : Addr} {fs : List (Str × W)} {w : W} (hC : C ∈ [a.BadCondition, a.BadText, a.TooMany]) (e : mc (st.add (.lst [])) = .exc C fs s) (l : LeX [] (st.add (.lst [])) s)
    (ht : ∀ s1 : S, Has s1 s.sz (.exc C fs) → Has s1 st.sz (.lst []) → heardTail a [none, some (.ref s.sz), some (.ref st.sz), none] s1 = .rt w (s1.put st.sz (.lst [w]))) : ∃ s', L__law_heard a f mc st = .ok w s' ∧ LeX [] st s' := by
  have hl : Has s st.sz (.lst []) := l.has0 has_add
  have t := ht (s.add (.exc C fs)) has_add hl.add
  refine ⟨_, by rw [heard_eq, e]; simp only [hC, if_true]; rw [t]; rfl, ?_⟩
  exact le_put (.inr (Nat.le_refl _)) ((le_add.trans l).trans le_add)
theorem heard_text (d : Dis a) {w1 w2 : W} (e : mc (st.add (.lst [])) = .exc a.BadText [("word", w2), ("line", w1)] s) (l : LeX [] (st.add (.lst [])) s) : ∃ s', L__law_heard a f mc st = .ok (.tup [.str "text", w1, w2]) s' ∧ LeX [] st s' :=
  heard_x (by simp) e l fun s1 h1 h2 => tail_text d h1 h2
theorem heard_cond (d : Dis a) {w1 : W} (e : mc (st.add (.lst [])) = .exc a.BadCondition [("at", w1)] s) (l : LeX [] (st.add (.lst [])) s) : ∃ s', L__law_heard a f mc st = .ok (.tup [.str "condition", w1]) s' ∧ LeX [] st s' :=
  heard_x (by simp) e l fun s1 h1 h2 => tail_cond d h1 h2
theorem heard_many (d : Dis a) {w1 w2 : W} (e : mc (st.add (.lst [])) = .exc a.TooMany [("most", w2), ("what", w1)] s) (l : LeX [] (st.add (.lst [])) s) : ∃ s', L__law_heard a f mc st = .ok (.tup [.str "many", w1, w2]) s' ∧ LeX [] st s' :=
  heard_x (by simp) e l fun s1 h1 h2 => tail_many d h1 h2
theorem heard_ok {w : W} (e : mc (st.add (.lst [])) = .ok w s) (l : LeX [] (st.add (.lst [])) s) : ∃ q s', L__law_heard a f mc st = .ok (.ref q) s' ∧ LeX [] s s' ∧ LeX [] st s' ∧ Has s' q (.lst [w]) :=
  ⟨s.sz, s.add (.lst [w]), by rw [heard_eq, e], le_add, (le_add.trans l).trans le_add, has_add⟩
end
theorem ret_call {m : ME} {env : MM.Env} {st : S} : (mRet m env st).call = m env st := by
  unfold mRet
  cases m env st <;> rfl
theorem read_eq (a : Ad) (w : W) (st : S) : M__law_read a [w] st = L__law_heard a 0 (fun s => M_Condition_from_text a [.glo a.Condition, w] s) st := by
  have e : (mCM a.Condition (M_Condition_from_text a) (mLCons (mVar 0) mLNil) [some w]) = fun s => M_Condition_from_text a [.glo a.Condition, w] s := by
    funext s
    unfold mCM
    rw [l_one (v_ok (w := w) rfl)]
    rfl
  unfold M__law_read
  rw [fill_def (by simp)]
  unfold b__law_read
  rw [ret_call]
  show L__law_heard a 0 (mCM a.Condition (M_Condition_from_text a) (mLCons (mVar 0) mLNil) [some w]) st = _
  rw [e]
section
variable {a : Ad} {st : S}
theorem read_no (d : Dis a) {w : W} {t : Tg} (h : kind a w (st.add (.lst [])) t) (ht : Tg.beq t (.ty "str") = false) : ∃ s, M__law_read a [w] st = .ok (.tup [.str "text", .int 0, .int 0]) s ∧ LeX [] st s := by
  rw [read_eq]
  exact heard_text d (ft_no a h ht) .refl
theorem read_bad (d : Dis a) {x : Str} {j : Nat} (hx : x.length ≤ 100000) (ho : okS x) (hf : x ≠ "free") (hb : badAt (wordsOf x) j) : ∃ s, M__law_read a [.str x] st = .ok (.tup [.str "text", .int 0, .int j]) s ∧ LeX [] st s := by
  rw [read_eq]
  obtain ⟨s, e, l⟩ := ft_bad a hx ho hf hb (st := st.add (.lst []))
  exact heard_text d e l
theorem read_ok {x : Str} (hx : x.length ≤ 100000) (ho : okS x) (hf : x ≠ "free") (hb : allRight (wordsOf x)) (h40 : (pairsOf (wordsOf x)).length ≤ 40) : ∃ q c s, M__law_read a [.str x] st = .ok (.ref q) s ∧ LeX [] st s ∧ Has s q (.lst [.ref c]) ∧ Has s c (Cond a (pairsOf (wordsOf x))) := by
  rw [read_eq]
  obtain ⟨n, s, e, l, h⟩ := ft_ok a hx ho hf hb h40 (st := st.add (.lst []))
  obtain ⟨q, s', e2, l2, l3, h2⟩ := heard_ok (a := a) (f := 0) (mc := fun s => M_Condition_from_text a [.glo a.Condition, .str x] s) e l
  exact ⟨q, n, s', e2, l3, h2, l2.has0 h⟩
theorem read_free : ∃ q c s, M__law_read a [.str "free"] st = .ok (.ref q) s ∧ LeX [] st s ∧ Has s q (.lst [.ref c]) ∧ Has s c (Cond a []) := by
  rw [read_eq]
  obtain ⟨n, s, e, l, h⟩ := ft_free a (st.add (.lst []))
  obtain ⟨q, s', e2, l2, l3, h2⟩ := heard_ok (a := a) (f := 0) (mc := fun s => M_Condition_from_text a [.glo a.Condition, .str "free"] s) e l
  exact ⟨q, n, s', e2, l3, h2, l2.has0 h⟩
end
end K31

namespace K31
open PySem PySem.Spec PyProof.Rows L2 MM
theorem app_assoc (x y z : Str) : x ++ y ++ z = x ++ (y ++ z) := by
  show Str.mk (x.cps ++ y.cps ++ z.cps) = Str.mk (x.cps ++ (y.cps ++ z.cps))
  rw [Array.append_assoc]
def flat : List (Str × Str) → List Str
  | [] => []
  | [p] => [p.1, ">", p.2]
  | p :: q :: r => p.1 :: ">" :: p.2 :: ";" :: flat (q :: r)
theorem gt_eq : (" > " : Str) = spc ++ (">" ++ spc) ∧ (" ; " : Str) = spc ++ (";" ++ spc) := by decide +kernel
theorem flat_head (q : Str × Str) (r : List (Str × Str)) : ∃ t u, flat (q :: r) = t :: u := by
  cases r with
  | nil => exact ⟨_, _, rfl⟩
  | cons p r => exact ⟨_, _, rfl⟩
theorem text_flat : ∀ {ps : List (Str × Str)}, ps ≠ [] → textS ps = Txt.join spc (flat ps)
  | [], h => absurd rfl h
  | [p], _ => by
    show Txt.join " ; " [lineS p] = Txt.join spc [p.1, ">", p.2]
    rw [MM.join_one, join_cons2, join_cons2, MM.join_one]
    unfold lineS
    rw [gt_eq.1]
    simp only [app_assoc]
  | p :: q :: r, _ => by
    have ih := text_flat (ps := q :: r) (by simp)
    show Txt.join " ; " (lineS p :: lineS q :: r.map lineS) = Txt.join spc (p.1 :: ">" :: p.2 :: ";" :: flat (q :: r))
    have ih : Txt.join " ; " (lineS q :: r.map lineS) = Txt.join spc (flat (q :: r)) := ih
    rw [join_cons2, ih, join_cons2, join_cons2, join_cons2]
    obtain ⟨t, u, e⟩ := flat_head q r
    rw [e, join_cons2]
    unfold lineS
    rw [gt_eq.1, gt_eq.2]
    simp only [app_assoc]
theorem noSp_gt : noSp ">" ∧ noSp ";" := by
  unfold noSp
  decide +kernel
theorem flat_noSp : ∀ {ps : List (Str × Str)}, WordsOk ps → ∀ w ∈ flat ps, noSp w
  | [], _, _, h => nomatch h
  | [p], o, w, h => by
    have o := o p (by simp)
    simp only [flat, List.mem_cons, List.not_mem_nil, or_false] at h
    rcases h with rfl | rfl | rfl
    · exact (word_ok o.1).2.2.1
    · exact noSp_gt.1
    · exact (word_ok o.2).2.2.1
  | p :: q :: r, o, w, h => by
    have ih := flat_noSp (ps := q :: r) (fun x hx => o x (List.mem_cons_of_mem _ hx)) w
    have o := o p (by simp)
    rw [flat] at h
    simp only [List.mem_cons] at h
    rcases h with rfl | rfl | rfl | rfl | h
    · exact (word_ok o.1).2.2.1
    · exact noSp_gt.1
    · exact (word_ok o.2).2.2.1
    · exact noSp_gt.2
    · exact ih (by simpa using h)
theorem words_text {ps : List (Str × Str)} (h : ps ≠ []) (o : WordsOk ps) : wordsOf (textS ps) = flat ps := by
  unfold wordsOf
  rw [text_flat h, split_join _ (flat_noSp o)]
  cases ps with
  | nil => exact absurd rfl h
  | cons p r =>
    obtain ⟨t, u, e⟩ := flat_head p r
    rw [e]
    simp
theorem right4 (j : Nat) (w : Str) : rightAt (j + 4) w = rightAt j w := by
  unfold rightAt
  rw [show (j + 4) % 2 = j % 2 by omega, show (j + 4) % 4 = j % 4 by omega]
theorem right0 {w : Str} (h : wordS w = true) : rightAt 0 w = true ∧ rightAt 2 w = true := ⟨h, h⟩
theorem right1 : rightAt 1 ">" = true ∧ rightAt 3 ";" = true := by
  unfold rightAt
  decide +kernel
theorem flat_right : ∀ {ps : List (Str × Str)}, WordsOk ps → ∀ i (hi : i < (flat ps).length), rightAt i (flat ps)[i] = true
  | [], _, i, hi => by simp [flat] at hi
  | [p], o, i, hi => by
    have o := o p (by simp)
    have hi' : i < 3 := hi
    match i, hi' with
    | 0, _ => exact (right0 o.1).1
    | 1, _ => exact right1.1
    | 2, _ => exact (right0 o.2).2
  | p :: q :: r, o, i, hi => by
    have ih := flat_right (ps := q :: r) (fun x hx => o x (List.mem_cons_of_mem _ hx))
    have o := o p (by simp)
    match i, hi with
    | 0, _ => exact (right0 o.1).1
    | 1, _ => exact right1.1
    | 2, _ => exact (right0 o.2).2
    | 3, _ => exact right1.2
    | i + 4, hi =>
      rw [right4]
      exact ih i (by simpa [flat] using hi)
theorem flat_len : ∀ {ps : List (Str × Str)}, ps ≠ [] → (flat ps).length + 1 = 4 * ps.length
  | [], h => absurd rfl h
  | [p], _ => rfl
  | p :: q :: r, _ => by
    have ih := flat_len (ps := q :: r) (by simp)
    simp only [flat, List.length_cons] at ih ⊢
    omega
theorem flat_all {ps : List (Str × Str)} (h : ps ≠ []) (o : WordsOk ps) : allRight (flat ps) := ⟨flat_right o, by
  have := flat_len h
  have hp := List.length_pos_iff.mpr h
  omega⟩
theorem pairs4 (w0 w1 w2 w3 : Str) (r : List Str) : pairsOf (w0 :: w1 :: w2 :: w3 :: r) = (w0, w2) :: pairsOf r := by
  unfold pairsOf
  rw [show ((w0 :: w1 :: w2 :: w3 :: r).length + 3) / 4 = (r.length + 3) / 4 + 1 by simp only [List.length_cons]; omega, List.range_succ_eq_map, List.map_cons, List.map_map]
  rfl
theorem pairs3 (w0 w1 w2 : Str) : pairsOf [w0, w1, w2] = [(w0, w2)] := by
  unfold pairsOf
  rw [show (([w0, w1, w2] : List Str).length + 3) / 4 = 1 by simp]
  rfl
theorem pairs_flat : ∀ {ps : List (Str × Str)}, ps ≠ [] → pairsOf (flat ps) = ps
  | [], h => absurd rfl h
  | [p], _ => pairs3 _ _ _
  | p :: q :: r, _ => by
    have ih := pairs_flat (ps := q :: r) (by simp)
    rw [flat, pairs4, ih]
theorem flat_pairs : ∀ (k : Nat) {ws : List Str}, ws.length ≤ k → allRight ws → flat (pairsOf ws) = ws ∧ pairsOf ws ≠ []
  | k, [], _, h => absurd h.2 (by simp)
  | k, [_], _, h => absurd h.2 (by simp)
  | k, [_, _], _, h => absurd h.2 (by simp)
  | k, [w0, w1, w2], _, h => by
    have h1 := h.1 1 (by simp)
    have h1 : decide (w1 = ">") = true := h1
    have h1 := of_decide_eq_true h1
    subst h1
    rw [pairs3]
    exact ⟨rfl, by simp⟩
  | 0, _ :: _ :: _ :: _ :: _, hk, _ => by simp at hk
  | k + 1, w0 :: w1 :: w2 :: w3 :: r, hk, h => by
    have h1 : decide (w1 = ">") = true := h.1 1 (by simp)
    have h3 : decide (w3 = ";") = true := h.1 3 (by simp)
    have h1 := of_decide_eq_true h1
    have h3 := of_decide_eq_true h3
    subst h1
    subst h3
    have hr : allRight r := ⟨fun i hi => by
      have := h.1 (i + 4) (by simp only [List.length_cons]; omega)
      rw [right4] at this
      exact this, by have := h.2; simp only [List.length_cons] at this; omega⟩
    obtain ⟨e1, e2⟩ := flat_pairs k (by simp only [List.length_cons] at hk; omega) hr
    rw [pairs4]
    refine ⟨?_, by simp⟩
    cases hp : pairsOf r with
    | nil => exact absurd hp e2
    | cons p ps =>
      rw [flat, ← hp, e1]
theorem show_back {x : Str} (h : allRight (wordsOf x)) : showS (pairsOf (wordsOf x)) = x := by
  obtain ⟨e1, e2⟩ := flat_pairs _ (Nat.le_refl _) h
  unfold showS
  rw [if_neg e2, text_flat e2, e1]
  exact join_split x
theorem right_or (ws : List Str) : allRight ws ∨ ∃ j, badAt ws j := by
  by_cases h : ∃ j, ∃ hj : j < ws.length, rightAt j ws[j] = false
  · right
    have : ∃ j, (∃ hj : j < ws.length, rightAt j ws[j] = false) ∧ ∀ i, i < j → ¬ ∃ hj : i < ws.length, rightAt i ws[i] = false := by
      classical
      obtain ⟨j, hj⟩ := h
      induction j using Nat.strongRecOn with
      | ind j ih =>
        by_cases g : ∃ i, i < j ∧ ∃ hj : i < ws.length, rightAt i ws[i] = false
        · obtain ⟨i, hi, gi⟩ := g
          exact ih i hi gi
        · exact ⟨j, hj, fun i hi gi => g ⟨i, hi, gi⟩⟩
    obtain ⟨j, hj, hlt⟩ := this
    refine ⟨j, fun i hi hij => ?_, .inl hj⟩
    cases hb : rightAt i ws[i] with
    | true => rfl
    | false => exact absurd ⟨hi, hb⟩ (hlt i hij)
  · have hall : ∀ i (hi : i < ws.length), rightAt i ws[i] = true := fun i hi => by
      cases hb : rightAt i ws[i] with
      | true => rfl
      | false => exact absurd ⟨i, hi, hb⟩ h
    by_cases h3 : ws.length % 4 = 3
    · exact .inl ⟨hall, h3⟩
    · exact .inr ⟨ws.length, fun i hi _ => hall i hi, .inr ⟨rfl, h3⟩⟩
end K31

namespace K31
open PySem PySem.Spec PyProof.Rows L2 MM
def iwBad : ME := mLc (mIter (mVar 0)) (gN 1) (mT asB (m2 wNotIn (mVar 1) (mC (.str signs)))) (mVar 1) [1]
theorem okS_one {x : Str} (h : okS x) {c : Nat} (hc : c ∈ x.cps.toList) : okS ⟨#[c]⟩ := okS_of fun d hd => by
  have : d = c := by simpa using hd
  subst this
  exact okS_all h d hc
theorem iw_bad {x : Str} {st : S} (hx : x.length ≤ 1000000) : ∃ s, iwBad [some (.str x), none] st = .ok (.ref st.sz) s ∧ LeX [] st s ∧ Has s st.sz (.lst (((x.cps.toList.filter fun c => !inSigns c).map fun c => (⟨#[c]⟩ : Str)).map W.str)) := by
  obtain ⟨s', h1, h2, h3⟩ := lc_pure (mi := mIter (mVar 0)) (g := gN 1) (mt := mT asB (m2 wNotIn (mVar 1) (mC (.str signs)))) (me := mVar 1) (vs := [1]) (env := [some (.str x), none]) (st := st) (st0 := st) (src := srcV (signsW x)) (ws := signsW x)
    (fun w => match w with | .str y => !inStr y signs | _ => false) id (by rw [ev_iter (ev_var rfl)]; rfl) rfl (by rw [signsW_eq, List.length_map]; exact hx) (fun _ _ => rfl) (fun _ _ _ => rfl) (by
      intro w hw s le
      rw [signsW_eq] at hw
      obtain ⟨c, hc, rfl⟩ := List.mem_map.mp hw
      exact ⟨[some (.str x), some (.str ⟨#[c]⟩)], rfl, s, (mT_ok ((m2_ok (v_ok rfl) c_ok).trans ev_notInS)).trans asB_ok, .refl, fun s4 _ _ _ => ⟨s4, v_ok rfl, .refl⟩⟩)
  refine ⟨s', h1, h2, ?_⟩
  have e : (((x.cps.toList.filter fun c => !inSigns c).map fun c => (⟨#[c]⟩ : Str)).map W.str) = ((signsW x).filter fun w => match w with | .str y => !inStr y signs | _ => false).map id := by
    rw [signsW_eq, List.filter_map, List.map_map, List.map_id]
    congr 1
    refine List.filter_congr fun c _ => ?_
    show (!inSigns c) = !inStr ⟨#[c]⟩ signs
    rw [in_one]
    rfl
  rw [e]
  exact h3
theorem rd_strs {s : S} {k n : Nat} {ws : List Str} (h : Has s n (.lst (ws.map W.str))) : rd (k + 2) s (.ref n) = some (.list (ws.map PyData.str)) := rd_lstM h fun _ _ => rfl
theorem shaped_strs {ws : List Str} (h : ∀ w ∈ ws, okS w) : SeqAt.shaped (.list (ws.map PyData.str)) = true := shaped_list (fun w hw => by have := h w hw; unfold okS at this; simp [PyData.canLay0, this]) fun _ _ => by simp [PyData.depth]
theorem eq_strs {s : S} {n m : Nat} {ws us : List Str} (h : Has s n (.lst (ws.map W.str))) (h2 : Has s m (.lst (us.map W.str))) (o : ∀ w ∈ ws, okS w) (o2 : ∀ w ∈ us, okS w) : wEq (.ref n) (.ref m) s = .ok (.bl (decide (ws = us))) s := by
  rw [ev_eq (rd_strs h) (rd_strs h2) (shaped_strs o) (shaped_strs o2), eqv_lists eqv_str]
theorem own_word (a : Ad) {x : Str} {st : S} (hx : x.length ≤ 1000000) (ho : okS x) : ∃ s, M__law_is_word a [.str x] st = .ok (.bl (wordS x)) s ∧ LeX [] st s := by
  have start : M__law_is_word a [.str x] st = ((mSeq (mIfS (mT asB (m2 wIn (mVar 0) (mN newTup (mLCons (mC (.str "*")) (mLCons (mC (.str "-")) mLNil))))) (mRet (mC (.bl true))) mNext)
    (mRet (mAndV (mChain wLe wLe (mC (.int 1)) (mN wLen (mLCons (mVar 0) mLNil)) (mC (.int 24))) (m2 wEq iwBad (mN newLst mLNil))))) [some (.str x), none] st).call := fill_def (by simp)
  have t := (mT_ok (f := asB) ((m2_ok (f := wIn) (v_ok (i := 0) (st := st) (env := [some (.str x), none]) rfl) ((mN_ok (f := newTup) (l_two (c_ok (w := .str "*")) (c_ok (w := .str "-")))).trans (ev_newTup (by simp)))).trans (in_two ho okStar okDash))).trans asB_ok
  by_cases h1 : (decide (x = "*") || decide (x = "-")) = true
  · rw [h1] at t
    refine ⟨st, start.trans ((call_rt (seq_rt ((if_t t).trans (ret_ok c_ok)))).trans ?_), .refl⟩
    unfold wordS
    rw [Bool.or_assoc, h1, Bool.or_true]
  · have h1 : (decide (x = "*") || decide (x = "-")) = false := by simpa using h1
    rw [h1] at t
    have ew : wordS x = eventS x := by unfold wordS; rw [Bool.or_assoc, h1, Bool.or_false]
    rw [ew]
    have hlen := (mN_ok (f := wLen) (l_one (v_ok (i := 0) (st := st) (env := [some (.str x), none]) rfl))).trans (ev_lenS hx)
    have fin : ∀ {r : R W}, (mAndV (mChain wLe wLe (mC (.int 1)) (mN wLen (mLCons (mVar 0) mLNil)) (mC (.int 24))) (m2 wEq iwBad (mN newLst mLNil))) [some (.str x), none] st = r → M__law_is_word a [.str x] st = r := fun e => start.trans (by
      rw [seq_nx (if_fn t), ret_call]
      exact e)
    by_cases h2 : 1 ≤ x.length
    · by_cases h3 : x.length ≤ 24
      · have h2' : (1 : Int) ≤ (x.length : Int) := by omega
        have h3' : (x.length : Int) ≤ 24 := by omega
        have ch : (mChain wLe wLe (mC (.int 1)) (mN wLen (mLCons (mVar 0) mLNil)) (mC (.int 24))) [some (.str x), none] st = .ok (.bl true) st := by
          rw [chain_t c_ok hlen (ev_le.trans (by rw [decide_eq_true h2'])) c_ok, ev_le, decide_eq_true h3']
        obtain ⟨s1, e1, l1, hb⟩ := iw_bad (x := x) (st := st) hx
        have e2 := (mN_ok (f := newLst) (l_nil (env := [some (.str x), none]) (st := s1))).trans (ev_newLst (by simp))
        have hb2 : Has (s1.add (.lst [])) st.sz _ := hb.add (o' := .lst [])
        have q := eq_strs (ws := (x.cps.toList.filter fun c => !inSigns c).map fun c => (⟨#[c]⟩ : Str)) (us := []) hb2 (has_add (s := s1) (o := .lst [])) (fun w hw => by
          obtain ⟨c, hc, rfl⟩ := List.mem_map.mp hw
          exact okS_one ho (List.mem_filter.mp hc).1) (fun _ h => nomatch h)
        refine ⟨s1.add (.lst []), fin (andV_t ch ((m2_ok e1 e2).trans (q.trans ?_))), l1.trans le_add⟩
        have ee : decide ((x.cps.toList.filter fun c => !inSigns c).map (fun c => (⟨#[c]⟩ : Str)) = []) = eventS x := by
          unfold eventS
          rw [decide_eq_true h2, decide_eq_true h3]
          show _ = (x.cps.toList.all inSigns)
          rw [Bool.eq_iff_iff]
          constructor
          · intro h
            refine List.all_eq_true.mpr fun c hc => ?_
            have := List.filter_eq_nil_iff.mp (List.map_eq_nil_iff.mp (of_decide_eq_true h)) c hc
            simpa using this
          · intro h
            exact decide_eq_true (List.map_eq_nil_iff.mpr (List.filter_eq_nil_iff.mpr fun c hc => by
              have := List.all_eq_true.mp h c hc
              simp [this]))
        rw [ee]
      · have h2' : (1 : Int) ≤ (x.length : Int) := by omega
        have h3' : ¬ (x.length : Int) ≤ 24 := by omega
        have ch : (mChain wLe wLe (mC (.int 1)) (mN wLen (mLCons (mVar 0) mLNil)) (mC (.int 24))) [some (.str x), none] st = .ok (.bl false) st := by
          rw [chain_t c_ok hlen (ev_le.trans (by rw [decide_eq_true h2'])) c_ok, ev_le, decide_eq_false h3']
        refine ⟨st, fin ((andV_f ch).trans ?_), .refl⟩
        unfold eventS
        rw [decide_eq_false h3, Bool.and_false, Bool.false_and]
    · have h2' : ¬ (1 : Int) ≤ (x.length : Int) := by omega
      have ch : (mChain wLe wLe (mC (.int 1)) (mN wLen (mLCons (mVar 0) mLNil)) (mC (.int 24))) [some (.str x), none] st = .ok (.bl false) st := by
        exact chain_f c_ok hlen (ev_le.trans (by rw [decide_eq_false h2']))
      refine ⟨st, fin ((andV_f ch).trans ?_), .refl⟩
      unfold eventS
      rw [decide_eq_false h2, Bool.false_and, Bool.false_and]
end K31

namespace K31
open PySem PySem.Spec PyProof.Rows L2 MM
theorem place_lt {i n b c : Nat} (hc : 0 < c) (hb : b < c) (hi : i < n) : (Builtin.Range.rangePlace? (b : Int) (n : Int) (c : Int) (i : Int)).isSome = decide (b ≤ i ∧ (i - b) % c = 0) := by
  unfold Builtin.Range.rangePlace?
  have h1 : (c : Int) > 0 := by omega
  have h2 : decide ((i : Int) < (n : Int)) = true := decide_eq_true (by omega)
  simp only [h1, if_true, h2, Bool.and_true]
  by_cases h : b ≤ i
  · have h3 : decide ((b : Int) ≤ (i : Int)) = true := decide_eq_true (by omega)
    have h4 : ((i : Int) - (b : Int)) % (c : Int) = (((i - b) % c : Nat) : Int) := by
      rw [← Int.natCast_sub h, ← Int.natCast_emod]
    rw [h3, h4]
    generalize (i - b) % c = r
    by_cases h5 : r = 0
    · simp [h, h5]
    · have : ¬ ((r : Nat) : Int) = 0 := by omega
      simp [h5]
  · have h3 : decide ((b : Int) ≤ (i : Int)) = false := decide_eq_false (by omega)
    rw [h3]
    simp [h]
def duTest (a : Ad) : MB := (mOrB (mAndB (mInR (mVar 2) (mLCons (mC (.int 0)) (mLCons (mN wLen (mLCons (mVar 1) mLNil)) (mLCons (mC (.int 2)) mLNil)))) (mNotB (mT truth (mN (M__law_is_word a) (mLCons (mVar 3) mLNil))))) (mOrB (mAndB (mInR (mVar 2) (mLCons (mC (.int 1)) (mLCons (mN wLen (mLCons (mVar 1) mLNil)) (mLCons (mC (.int 4)) mLNil)))) (mT asB (m2 wNe (mVar 3) (mC (.str ">"))))) (mAndB (mInR (mVar 2) (mLCons (mC (.int 3)) (mLCons (mN wLen (mLCons (mVar 1) mLNil)) (mLCons (mC (.int 4)) mLNil)))) (mT asB (m2 wNe (mVar 3) (mC (.str ";")))))))
def duBody (a : Ad) : MS := mIfS (duTest a) (mRet (mN newTup (mLCons (mC (.str "text")) (mLCons (mC (.int 0)) (mLCons (mVar 2) mLNil))))) mNext
def duLoop (a : Ad) : MS := mFor (mSrc enumW (mLCons (mVar 1) mLNil)) (gT 2 (gsCons (gN 2) (gsCons (gN 3) gsNil))) (duBody a)
def duEnd : MS := (mRet (mIf (mInR (mN wLen (mLCons (mVar 1) mLNil)) (mLCons (mC (.int 3)) (mLCons (m2 wAdd (mN wLen (mLCons (mVar 1) mLNil)) (mC (.int 1))) (mLCons (mC (.int 4)) mLNil)))) (mC .non) (mN newTup (mLCons (mC (.str "text")) (mLCons (mC (.int 0)) (mLCons (mN wLen (mLCons (mVar 1) mLNil)) mLNil))))))
def duFree : MS := mIfS (mT asB (m2 wEq (mVar 0) (mC (.str "free")))) (mRet (mC .non)) mNext
theorem du_parts (a : Ad) : b__law_due a = mSeq duFree (mSeq pinSplit (mSeq (duLoop a) duEnd)) := rfl
theorem inR_ok {me : ME} {n : MA} {env : MM.Env} {st s1 s2 : S} {i p q r : Int} (h : me env st = .ok (.int i) s1) (h2 : n env s1 = .ok [.int p, .int q, .int r] s2) (h3 : r ≠ 0 ∧ r.natAbs < 1073741824) : mInR me n env st = .ok (Builtin.Range.rangePlace? p q r i).isSome s2 := by
  unfold mInR
  rw [h, R.bind_ok, h2, R.bind_ok]
  exact if_pos h3
section
variable (a : Ad) {x : Str} {m i : Nat} {ws : List Str} {st : S} {w : Str}
abbrev duEnv (x : Str) (m i : Nat) (w : Str) : MM.Env := [some (.str x), some (.ref m), some (.int i), some (.str w)]
theorem du_in {b c : Nat} (hm : Has st m (.lst (ws.map W.str))) (hi : i < ws.length) (hc : 0 < c) (hb : b < c) (hc2 : c < 1000) : (mInR (mVar 2) (mLCons (mC (.int (b : Int))) (mLCons (mN wLen (mLCons (mVar 1) mLNil)) (mLCons (mC (.int (c : Int))) mLNil)))) (duEnv x m i w) st = .ok (decide (b ≤ i ∧ (i - b) % c = 0)) st := by
  have e := ev_lenL hm
  rw [List.length_map] at e
  exact (inR_ok (v_ok rfl) (l_cons c_ok (l_two ((mN_ok (l_one (v_ok rfl))).trans e) c_ok)) ⟨by omega, by omega⟩).trans (by rw [place_lt hc hb hi])
theorem du_ne {c : Str} (hw : okS w) (hc : okS c) : mT asB (m2 wNe (mVar 3) (mC (.str c))) (duEnv x m i w) st = .ok (!decide (w = c)) st := (mT_ok ((m2_ok (v_ok rfl) c_ok).trans (ev_neS hw hc))).trans asB_ok
theorem du_test (hm : Has st m (.lst (ws.map W.str))) (hi : i < ws.length) (hw : w.length ≤ 1000000) (ho : okS w) : ∃ s, duTest a (duEnv x m i w) st = .ok (!rightAt i w) s ∧ LeX [] st s := by
  have t0 := du_in (x := x) (w := w) (b := 0) (c := 2) hm hi (by decide) (by decide) (by decide)
  by_cases h0 : i % 2 = 0
  · rw [decide_eq_true ⟨Nat.zero_le _, by simpa using h0⟩] at t0
    obtain ⟨s1, e1, l1⟩ := own_word a (x := w) (st := st) hw ho
    have e2 : (mNotB (mT truth (mN (M__law_is_word a) (mLCons (mVar 3) mLNil)))) (duEnv x m i w) st = .ok (!wordS w) s1 := not_ok ((mT_ok ((mN_ok (l_one (v_ok rfl))).trans e1)).trans tr_ok)
    have hr : rightAt i w = wordS w := by
      unfold rightAt
      rw [if_neg (by omega)]
    rw [hr]
    cases hb : wordS w with
    | false =>
      rw [hb] at e2
      exact ⟨s1, or_t (and_t t0 e2), l1⟩
    | true =>
      rw [hb] at e2
      have hm1 := l1.has0 hm
      have t1 := du_in (x := x) (w := w) (b := 1) (c := 4) hm1 hi (by decide) (by decide) (by decide)
      have t3 := du_in (x := x) (w := w) (b := 3) (c := 4) hm1 hi (by decide) (by decide) (by decide)
      rw [decide_eq_false (by omega)] at t1 t3
      exact ⟨s1, or_f (and_t t0 e2) (or_f (and_f t1) (and_f t3)), l1⟩
  · rw [decide_eq_false (by omega)] at t0
    have t1 := du_in (x := x) (w := w) (b := 1) (c := 4) hm hi (by decide) (by decide) (by decide)
    have t3 := du_in (x := x) (w := w) (b := 3) (c := 4) hm hi (by decide) (by decide) (by decide)
    by_cases h4 : i % 4 = 1
    · rw [decide_eq_true (by omega)] at t1
      rw [decide_eq_false (by omega)] at t3
      have e1 := du_ne (x := x) (m := m) (i := i) (st := st) ho okGt.1
      have hr : rightAt i w = decide (w = ">") := by
        unfold rightAt
        rw [if_pos (by omega), if_pos h4]
      rw [hr]
      cases hb : decide (w = ">") with
      | false =>
        rw [hb] at e1
        exact ⟨st, or_f (and_f t0) (or_t (and_t t1 e1)), .refl⟩
      | true =>
        rw [hb] at e1
        exact ⟨st, or_f (and_f t0) (or_f (and_t t1 e1) (and_f t3)), .refl⟩
    · rw [decide_eq_false (by omega)] at t1
      rw [decide_eq_true (by omega)] at t3
      have e1 := du_ne (x := x) (m := m) (i := i) (st := st) ho okGt.2
      have hr : rightAt i w = decide (w = ";") := by
        unfold rightAt
        rw [if_pos (by omega), if_neg h4]
      rw [hr]
      exact ⟨st, or_f (and_f t0) (or_f (and_f t1) (and_t t3 e1)), .refl⟩
end
section
variable (a : Ad) (x : Str) (m : Nat) (ws : List Str) (st : S) (hm : Has st m (.lst (ws.map W.str))) (hw : ∀ w ∈ ws, w.length ≤ 1000000 ∧ okS w)
include hm hw
theorem du_all (h : ∀ i (hi : i < ws.length), rightAt i ws[i] = true) : ∃ p q s, duLoop a [some (.str x), some (.ref m), none, none] st = .nx [some (.str x), some (.ref m), p, q] s ∧ LeX [] st s := by
  refine for_ok (I := fun i env s => (∃ p q, env = [some (.str x), some (.ref m), p, q]) ∧ LeX [] st s) (Q := fun r => ∃ p q s, r = .nx [some (.str x), some (.ref m), p, q] s ∧ LeX [] st s) (enum_lst (i := 1) rfl hm) ⟨⟨none, none, rfl⟩, .refl⟩ ?_ ?_
  · rintro i env s hi ⟨⟨p, q, rfl⟩, le⟩
    obtain ⟨ok, at_⟩ := lst_at hm le
    have hi' : i < (ws.map W.str).length := hi
    have hi2 : i < ws.length := by rw [List.length_map] at hi'; exact hi'
    obtain ⟨s', e, l'⟩ := du_test a (x := x) (w := ws[i]) (le.has0 hm) hi2 (hw _ (List.getElem_mem hi2)).1 (hw _ (List.getElem_mem hi2)).2
    rw [h i hi2] at e
    exact ⟨ok, _, duEnv x m i ws[i], s, at_ i hi', by rw [List.getElem_map]; rfl, .inl ⟨_, s', if_f e, ⟨_, _, rfl⟩, le.trans l'⟩⟩
  · rintro env s ⟨⟨p, q, rfl⟩, le⟩
    exact ⟨(lst_at hm le).1, p, q, s, rfl, le⟩
theorem du_bad (j : Nat) (hj : j < ws.length) (h : ∀ i (hi : i < ws.length), i < j → rightAt i ws[i] = true) (hb : rightAt j ws[j] = false) : ∃ s, duLoop a [some (.str x), some (.ref m), none, none] st = .rt (.tup [.str "text", .int 0, .int j]) s ∧ LeX [] st s := by
  refine for_ok (I := fun i env s => i ≤ j ∧ (∃ p q, env = [some (.str x), some (.ref m), p, q]) ∧ LeX [] st s) (Q := fun r => ∃ s, r = .rt (.tup [.str "text", .int 0, .int j]) s ∧ LeX [] st s) (enum_lst (i := 1) rfl hm) ⟨Nat.zero_le _, ⟨none, none, rfl⟩, .refl⟩ ?_ ?_
  · rintro i env s hi ⟨hij, ⟨p, q, rfl⟩, le⟩
    obtain ⟨ok, at_⟩ := lst_at hm le
    have hi' : i < (ws.map W.str).length := hi
    have hi2 : i < ws.length := by rw [List.length_map] at hi'; exact hi'
    obtain ⟨s', e, l'⟩ := du_test a (x := x) (w := ws[i]) (le.has0 hm) hi2 (hw _ (List.getElem_mem hi2)).1 (hw _ (List.getElem_mem hi2)).2
    refine ⟨ok, _, duEnv x m i ws[i], s, at_ i hi', by rw [List.getElem_map]; rfl, ?_⟩
    by_cases z : i = j
    · subst z
      rw [hb] at e
      have e2 : duBody a (duEnv x m i ws[i]) s = .rt (.tup [.str "text", .int 0, .int i]) s' := (if_t e).trans (ret_ok ((mN_ok (l_cons c_ok (l_two c_ok (v_ok rfl)))).trans (ev_newTup (by simp))))
      exact .inr ⟨⟨_, e2, le.trans l'⟩, .inl ⟨_, _, e2⟩⟩
    · rw [h i hi2 (by omega)] at e
      exact .inl ⟨_, s', if_f e, by omega, ⟨_, _, rfl⟩, le.trans l'⟩
  · rintro env s ⟨hij, _⟩
    have : (ws.map W.str).length ≤ j := hij
    rw [List.length_map] at this
    omega
end
theorem du_end {x : Str} {m : Nat} {ws : List Str} {st : S} {p q : Option W} (hm : Has st m (.lst (ws.map W.str))) : duEnd [some (.str x), some (.ref m), p, q] st = .rt (if ws.length % 4 = 3 then .non else .tup [.str "text", .int 0, .int ws.length]) st := by
  have e := ev_lenL hm
  rw [List.length_map] at e
  have e0 := (mN_ok (f := wLen) (l_one (v_ok (i := 1) (st := st) (env := [some (.str x), some (.ref m), p, q]) rfl))).trans e
  have t := inR_ok e0 (l_cons (c_ok (w := .int ((3 : Nat) : Int))) (l_two ((m2_ok (f := wAdd) e0 (c_ok (w := .int 1))).trans ev_add) (c_ok (w := .int ((4 : Nat) : Int))))) ⟨by decide, by decide⟩
  have pl := place_lt (i := ws.length) (n := ws.length + 1) (b := 3) (c := 4) (by decide) (by decide) (by omega)
  rw [show ((ws.length + 1 : Nat) : Int) = (ws.length : Int) + 1 by omega] at pl
  rw [pl] at t
  by_cases h : ws.length % 4 = 3
  · rw [decide_eq_true (by omega)] at t
    rw [if_pos h]
    exact ret_ok (ie_t t c_ok)
  · rw [decide_eq_false (by omega)] at t
    rw [if_neg h]
    exact ret_ok (ie_f t ((mN_ok (l_cons c_ok (l_two c_ok e0))).trans (ev_newTup (by simp))))
theorem du_start (a : Ad) (x : Str) (st : S) : M__law_due a [.str x] st = (mSeq duFree (mSeq pinSplit (mSeq (duLoop a) duEnd)) [some (.str x), none, none, none] st).call := fill_def (by simp)
theorem due_free (a : Ad) {st : S} : M__law_due a [.str "free"] st = .ok .non st := by
  have t := (mT_ok (f := asB) ((m2_ok (f := wEq) (v_ok (i := 0) (st := st) (env := [some (.str "free"), none, none, none]) rfl) (c_ok (w := .str "free"))).trans (ev_eqS okFree okFree))).trans asB_ok
  rw [decide_eq_true rfl] at t
  exact (du_start a _ st).trans (call_rt (seq_rt ((if_t t).trans (ret_ok c_ok))))
theorem due_run (a : Ad) {x : Str} {st : S} (hx : x.length ≤ 100000) (ho : okS x) (hf : x ≠ "free") : M__law_due a [.str x] st = ((mSeq (duLoop a) duEnd) [some (.str x), some (.ref st.sz), none, none] (st.add (.lst ((wordsOf x).map W.str)))).call := by
  have t := (mT_ok (f := asB) ((m2_ok (f := wEq) (v_ok (i := 0) (st := st) (env := [some (.str x), none, none, none]) rfl) (c_ok (w := .str "free"))).trans (ev_eqS ho okFree))).trans asB_ok
  rw [decide_eq_false hf] at t
  have e2 : pinSplit [some (.str x), none, none, none] st = .nx [some (.str x), some (.ref st.sz), none, none] (st.add (.lst ((wordsOf x).map W.str))) := nm_ok (split_run (x := x) rfl (by omega))
  have e1 : duFree [some (.str x), none, none, none] st = .nx [some (.str x), none, none, none] st := if_fn t
  rw [du_start, seq_nx e1, seq_nx e2]
theorem due_ok (a : Ad) {x : Str} {st : S} (hx : x.length ≤ 100000) (ho : okS x) (hf : x ≠ "free") (hb : allRight (wordsOf x)) : ∃ s, M__law_due a [.str x] st = .ok .non s ∧ LeX [] st s := by
  have hm : Has (st.add (.lst ((wordsOf x).map W.str))) st.sz (.lst ((wordsOf x).map W.str)) := has_add
  obtain ⟨p, q, s, e1, l⟩ := du_all a x st.sz (wordsOf x) _ hm (words_ok hx ho) hb.1
  have e2 := du_end (x := x) (p := p) (q := q) (l.has0 hm)
  rw [if_pos hb.2] at e2
  refine ⟨s, ?_, le_add.trans l⟩
  rw [due_run a hx ho hf, seq_nx e1]
  exact call_rt e2
theorem due_bad (a : Ad) {x : Str} {j : Nat} {st : S} (hx : x.length ≤ 100000) (ho : okS x) (hf : x ≠ "free") (hb : badAt (wordsOf x) j) : ∃ s, M__law_due a [.str x] st = .ok (.tup [.str "text", .int 0, .int j]) s ∧ LeX [] st s := by
  have hm : Has (st.add (.lst ((wordsOf x).map W.str))) st.sz (.lst ((wordsOf x).map W.str)) := has_add
  rw [due_run a hx ho hf]
  obtain ⟨h1, ⟨hj, h2⟩ | ⟨rfl, h2⟩⟩ := hb
  · obtain ⟨s, e1, l⟩ := du_bad a x st.sz (wordsOf x) _ hm (words_ok hx ho) j hj h1 h2
    exact ⟨s, call_rt (seq_rt e1), le_add.trans l⟩
  · obtain ⟨p, q, s, e1, l⟩ := du_all a x st.sz (wordsOf x) _ hm (words_ok hx ho) (fun i hi => h1 i hi hi)
    have e2 := du_end (x := x) (p := p) (q := q) (l.has0 hm)
    rw [if_neg h2] at e2
    refine ⟨s, ?_, le_add.trans l⟩
    rw [seq_nx e1]
    exact call_rt e2
end K31

namespace K31
open PySem PySem.Spec PyProof.Rows L2 MM
theorem okS_app {x y : Str} (h : okS x) (h2 : okS y) : okS (x ++ y) := okS_of fun c hc => by
  rw [app_toList] at hc
  rcases List.mem_append.mp hc with z | z
  · exact okS_all h c z
  · exact okS_all h2 c z
theorem okS_join {a : Str} (ha : okS a) : ∀ {ws : List Str}, (∀ w ∈ ws, okS w) → okS (Txt.join a ws)
  | [], _ => by rw [MM.join_nil]; unfold okS; decide +kernel
  | [x], h => by rw [MM.join_one]; exact h x (by simp)
  | x :: y :: r, h => by
    rw [join_cons2]
    exact okS_app (okS_app (h x (by simp)) ha) (okS_join ha fun w hw => h w (List.mem_cons_of_mem _ hw))
theorem okSpc : okS spc ∧ okS " ; " ∧ okS " > " := by
  unfold okS
  decide +kernel
theorem okS_line {p : Str × Str} (h : wordS p.1 = true ∧ wordS p.2 = true) : okS (lineS p) := okS_app (okS_app (word_ok h.1).1 okSpc.2.2) (word_ok h.2).1
theorem okS_show {ps : List (Str × Str)} (h : WordsOk ps) : okS (showS ps) := by
  unfold showS
  split
  · exact okFree
  · exact okS_join okSpc.2.1 fun w hw => by
      obtain ⟨p, hp, rfl⟩ := List.mem_map.mp hw
      exact okS_line (h p hp)
theorem text_len {ps : List (Str × Str)} (h : WordsOk ps) : (textS ps).length ≤ 54 * ps.length := by
  have h1 := join_len " ; " (ps.map lineS)
  have h2 : ((ps.map lineS).map (·.length)).sum ≤ (ps.map lineS).length * 51 := sum_le (f := fun x : Str => x.length) (l := ps.map lineS) fun x hx => by
    obtain ⟨p, hp, rfl⟩ := List.mem_map.mp hx
    exact line_len (h p hp)
  have h3 : (" ; " : Str).length = 3 := by decide +kernel
  rw [List.length_map] at h1 h2
  rw [h3] at h1
  unfold textS
  omega
theorem free_len : ("free" : Str).length = 4 := by decide +kernel
theorem show_len {ps : List (Str × Str)} (h : WordsOk ps) : (showS ps).length ≤ 54 * ps.length + 4 := by
  unfold showS
  split
  · rw [free_len]; omega
  · have := text_len h; omega
theorem free_words : wordsOf "free" = [("free" : Str)] := by decide +kernel
theorem text_ne_free {ps : List (Str × Str)} (h : ps ≠ []) (o : WordsOk ps) : textS ps ≠ "free" := fun e => by
  have h1 := words_text h o
  rw [e, free_words] at h1
  have h2 := flat_len h
  rw [← h1] at h2
  have := List.length_pos_iff.mpr h
  simp at h2
  omega
theorem right_len {w : Str} {i : Nat} (h : rightAt i w = true) : 1 ≤ w.length := by
  unfold rightAt at h
  split at h
  · split at h
    · rw [of_decide_eq_true h]; decide +kernel
    · rw [of_decide_eq_true h]; decide +kernel
  · exact (word_ok h).2.2.2
theorem sum_ge {α : Type} {f : α → Nat} : ∀ {l : List α}, (∀ x ∈ l, 1 ≤ f x) → l.length ≤ (l.map f).sum
  | [], _ => by simp
  | x :: l, h => by
    have h1 := h x (by simp)
    have h2 := sum_ge (f := f) (l := l) fun y hy => h y (List.mem_cons_of_mem _ hy)
    simp only [List.length_cons, List.map_cons, List.sum_cons]
    omega
theorem all_len {x : Str} (h : allRight (wordsOf x)) : 2 * (wordsOf x).length ≤ x.length + 1 := by
  have h1 := MM.split_weight x
  have h2 : (wordsOf x).length ≤ ((wordsOf x).map (·.length)).sum := sum_ge fun w hw => by
    obtain ⟨i, hi, rfl⟩ := List.mem_iff_getElem.mp hw
    exact right_len (h.1 i hi)
  unfold wordsOf at *
  omega
theorem pairs_len (ws : List Str) : (pairsOf ws).length = (ws.length + 3) / 4 := by
  unfold pairsOf
  rw [List.length_map, List.length_range]
theorem read_show {a : Ad} {st : S} {ps : List (Str × Str)} (o : WordsOk ps) (hl : ps.length ≤ 40) : ∃ q c s, M__law_read a [.str (showS ps)] st = .ok (.ref q) s ∧ LeX [] st s ∧ Has s q (.lst [.ref c]) ∧ Has s c (Cond a ps) := by
  by_cases h : ps = []
  · subst h
    exact read_free
  · have e : showS ps = textS ps := by unfold showS; rw [if_neg h]
    have hw := words_text h o
    have hp : pairsOf (wordsOf (textS ps)) = ps := by rw [hw, pairs_flat h]
    have := text_len o
    rw [e]
    have key := read_ok (a := a) (st := st) (x := textS ps) (by omega) (by have := okS_show o; rwa [e] at this) (text_ne_free h o) (by rw [hw]; exact flat_all h o) (by rw [hp]; exact hl)
    rwa [hp] at key
end K31

namespace K31
open PySem PySem.Spec PyProof.Rows L2 MM
structure RepOk (d : PyData) : Prop where
  sh : d.showable = true
  hd : d.hasDict = false
  dp : d.depth ≤ 60
  ln : d.shown.length ≤ 1000000
  ok : okS d.shown
def repB (d : PyData) : Bool := d.showable && !d.hasDict && decide (d.depth ≤ 60) && decide (d.shown.length ≤ 64) && PyData.strOk d.shown
theorem repB_ok {d : PyData} (h : repB d = true) : RepOk d ∧ d.shown.length ≤ 64 := by
  unfold repB at h
  obtain ⟨h, h5⟩ := Bool.and_eq_true_iff.mp h
  obtain ⟨h, h4⟩ := Bool.and_eq_true_iff.mp h
  obtain ⟨h, h3⟩ := Bool.and_eq_true_iff.mp h
  obtain ⟨h1, h2⟩ := Bool.and_eq_true_iff.mp h
  have h4 := of_decide_eq_true h4
  exact ⟨⟨h1, by simpa using h2, of_decide_eq_true h3, by omega, h5⟩, h4⟩
theorem repr_tup {ws : List W} {s : S} {d : PyData} (h : rd 60 s (.tup ws) = some d) (r : RepOk d) : wRepr [.tup ws] s = .ok (.str d.shown) s := by
  have c : (d.showable && !d.hasDict && decide (d.depth ≤ 60) && decide (d.shown.length ≤ 1000000)) = true := by
    rw [r.sh, r.hd, decide_eq_true r.dp, decide_eq_true r.ln]
    rfl
  show (match rd 60 s (.tup ws) with
    | some d => if d.showable && !d.hasDict && decide (d.depth ≤ 60) && decide (d.shown.length ≤ 1000000) then R.ok (W.str d.shown) s else .bad
    | none => .bad) = _
  rw [h]
  exact if_pos c
theorem repr_int {i : Nat} {s : S} (h : i ≤ 1000) : wRepr [.int (i : Int)] s = .ok (.str (toString (i : Int))) s := by
  have h1 : (i : Int).natAbs.log2 < 1920 := by
    rw [Int.natAbs_natCast]
    by_cases h0 : i = 0
    · subst h0; decide +kernel
    · rw [Nat.log2_lt h0]
      exact Nat.lt_of_le_of_lt h (by decide +kernel)
  show (if (i : Int).natAbs.log2 < 1920 then _ else _) = _
  exact if_pos h1
def errD (j : Nat) : PyData := .tuple [.str "text", .int 0, .int (j : Int)]
theorem errB : ∀ j : Nat, j < 256 → repB (errD j) = true := by decide +kernel
theorem repr_err {j : Nat} {s : S} (h : j < 256) : wRepr [.tup [.str "text", .int 0, .int (j : Int)]] s = .ok (.str (errD j).shown) s := repr_tup (d := errD j) rfl (repB_ok (errB j h)).1
theorem menuB : ∀ x ∈ menuL, ∀ y ∈ menuL, repB (MM.pairD (x, y)) = true := by decide +kernel
theorem menu_rep {ps : List (Str × Str)} (h : MenuOk ps) : ∀ p ∈ ps, RepOk (MM.pairD p) ∧ (MM.pairD p).shown.length ≤ 64 := fun p hp => repB_ok (menuB p.1 (h p hp).1 p.2 (h p hp).2)
theorem shownAll_map : ∀ xs : List PyData, PyData.shownAll xs = xs.map PyData.shown
  | [] => by rw [PyData.shownAll]; rfl
  | x :: xs => by rw [PyData.shownAll, shownAll_map xs]; rfl
theorem showable_all : ∀ {xs : List PyData}, (∀ x ∈ xs, x.showable = true) → PyData.showableAll xs = true
  | [], _ => by rw [PyData.showableAll]
  | x :: xs, h => by rw [PyData.showableAll, h x (by simp), showable_all fun y hy => h y (List.mem_cons_of_mem _ hy)]; rfl
theorem hasDict_all : ∀ {xs : List PyData}, (∀ x ∈ xs, x.hasDict = false) → PyData.hasDictAll xs = false
  | [], _ => by rw [PyData.hasDictAll]
  | x :: xs, h => by rw [PyData.hasDictAll, h x (by simp), hasDict_all fun y hy => h y (List.mem_cons_of_mem _ hy)]; rfl
theorem tuple_bits : (Str.ofString "(").length = 1 ∧ (Str.ofString ", ").length = 2 ∧ (Str.ofString ",)").length = 2 ∧ (Str.ofString ")").length = 1 ∧ okS (Str.ofString "(") ∧ okS (Str.ofString ", ") ∧ okS (Str.ofString ",)") ∧ okS (Str.ofString ")") := by
  unfold okS
  decide +kernel
theorem tupleText_len (ts : List Str) : (tupleText ts).length ≤ (ts.map (·.length)).sum + 2 * ts.length + 3 := by
  unfold tupleText
  rw [← TL.join_eq]
  have h := join_len (Str.ofString ", ") ts
  have b := tuple_bits
  rw [len_app, len_app]
  have e : (Str.ofString (if (ts.length == 1) = true then ",)" else ")")).length ≤ 2 := by
    split
    · rw [b.2.2.1]; exact Nat.le_refl _
    · rw [b.2.2.2.1]; decide
  rw [b.1]
  rw [b.2.1] at h
  omega
theorem tupleText_ok {ts : List Str} (h : ∀ t ∈ ts, okS t) : okS (tupleText ts) := by
  unfold tupleText
  rw [← TL.join_eq]
  have b := tuple_bits
  refine okS_app (okS_app b.2.2.2.2.1 (okS_join b.2.2.2.2.2.1 h)) ?_
  split
  · exact b.2.2.2.2.2.2.1
  · exact b.2.2.2.2.2.2.2
theorem rep_pairs {ps : List (Str × Str)} (h : MenuOk ps) (hl : ps.length ≤ 1000) : RepOk (.tuple (ps.map MM.pairD)) := by
  have m := menu_rep h
  refine ⟨?_, ?_, ?_, ?_, ?_⟩
  · rw [PyData.showable]
    exact showable_all fun x hx => by obtain ⟨p, hp, rfl⟩ := List.mem_map.mp hx; exact (m p hp).1.sh
  · rw [PyData.hasDict]
    exact hasDict_all fun x hx => by obtain ⟨p, hp, rfl⟩ := List.mem_map.mp hx; exact (m p hp).1.hd
  · rw [PyData.depth]
    have := depthAll_map (d := MM.pairD) (k := 1) (l := ps) fun p _ => Nat.le_of_eq (depth_pair p)
    omega
  · rw [PyData.shown, shownAll_map, List.map_map]
    have h1 := tupleText_len (ps.map (PyData.shown ∘ MM.pairD))
    have h2 : ((ps.map (PyData.shown ∘ MM.pairD)).map (·.length)).sum ≤ (ps.map (PyData.shown ∘ MM.pairD)).length * 64 := sum_le (f := fun x : Str => x.length) (l := ps.map (PyData.shown ∘ MM.pairD)) fun x hx => by
      obtain ⟨p, hp, rfl⟩ := List.mem_map.mp hx
      exact (m p hp).2
    rw [List.length_map] at h1 h2
    omega
  · rw [PyData.shown, shownAll_map, List.map_map]
    exact tupleText_ok fun t ht => by obtain ⟨p, hp, rfl⟩ := List.mem_map.mp ht; exact (m p hp).1.ok
theorem repr_pairs {ps : List (Str × Str)} {s : S} (h : MenuOk ps) (hl : ps.length ≤ 1000) : wRepr [.tup (ps.map pairW)] s = .ok (.str (PyData.shown (.tuple (ps.map MM.pairD)))) s := repr_tup (rd_pairs ps) (rep_pairs h hl)
end K31

namespace K31
open PySem PySem.Spec PyProof.Rows L2 MM
theorem gt_len : (" > " : Str).length = 3 := by decide +kernel
abbrev lnEl (i j : Nat) : ME := (m2 wAdd (m2 wAdd (mVar i) (mC (.str " > "))) (mVar j))
abbrev lnLc (v i j : Nat) : ME := mLc (mIter (mVar v)) (gA 2 (gsCons (gN i) (gsCons (gN j) gsNil))) mYes (lnEl i j) [i, j]
theorem ln_el {env : MM.Env} {st : S} {i j : Nat} {p : Str × Str} (h1 : env[i]? = some (some (.str p.1))) (h2 : env[j]? = some (some (.str p.2))) (h : wordS p.1 = true ∧ wordS p.2 = true) : lnEl i j env st = .ok (.str (lineS p)) st := by
  have a := (word_ok h.1).2.1
  have b := (word_ok h.2).2.1
  have c := gt_len
  exact (m2_ok ((m2_ok (v_ok h1) c_ok).trans (ev_addS (by omega))) (v_ok h2)).trans (ev_addS (by rw [len_app]; omega))
theorem lines_lc {env : MM.Env} {st : S} {v i j p : Nat} {ps : List (Str × Str)} (hv : env[v]? = some (some (.ref p))) (hi : i < env.length) (hj : j < env.length) (ne : i ≠ j) (hp : Has st p (.lst (ps.map pairW))) (o : WordsOk ps) (hl : ps.length ≤ 1000) :
    ∃ s, lnLc v i j env st = .ok (.ref st.sz) s ∧ LeX [] st s ∧ Has s st.sz (.lst ((ps.map lineS).map W.str)) := by
  obtain ⟨s', h1, h2, h3⟩ := lc_pure (mi := mIter (mVar v)) (g := gA 2 (gsCons (gN i) (gsCons (gN j) gsNil))) (mt := mYes) (me := lnEl i j) (vs := [i, j]) (env := env) (st := st) (st0 := st) (src := srcL p (ps.map pairW).length) (ws := ps.map pairW) (fun _ => true)
    (fun w => match w with | .tup [.str x, .str y] => .str (lineS (x, y)) | _ => .non) (iter_lst hv hp) rfl (by rw [List.length_map]; omega) (fun s l => (lstL_at hp l).1) (fun k s l => (lstL_at hp l).2 k) (by
      intro w hw s le
      obtain ⟨q, hq, rfl⟩ := List.mem_map.mp hw
      refine ⟨((wipeE env [i, j]).set i (some (.str q.1))).set j (some (.str q.2)), rfl, s, rfl, .refl, fun s4 _ _ _ => ⟨s4, ?_, .refl⟩⟩
      exact ln_el (p := q) (by simp [wipeE, List.getElem?_set, ne.symm, hi]) (by simp [wipeE, List.getElem?_set, hj]) (o q hq))
  refine ⟨s', h1, h2, ?_⟩
  rw [List.filter_eq_self.mpr (fun _ _ => rfl), List.map_map] at h3
  have e : (ps.map lineS).map W.str = ps.map ((fun w => match w with | .tup [.str x, .str y] => W.str (lineS (x, y)) | _ => .non) ∘ pairW) := by
    rw [List.map_map]
    rfl
  rw [e]
  exact h3
theorem ne_pairs {ps qs : List (Str × Str)} {st : S} {p q : Nat} (hp : Has st p (.lst (ps.map pairW))) (hq : Has st q (.lst (qs.map pairW))) (h1 : WordsOk ps) (h2 : WordsOk qs) : wNe (.ref p) (.ref q) st = .ok (.bl (!decide (ps = qs))) st := by
  rw [ev_ne (rd_pairsL hp) (rd_pairsL hq) (shaped_psL h1) (shaped_psL h2), eqv_lists eqv_pair]
theorem eq_pairsL {ps qs : List (Str × Str)} {st : S} {p q : Nat} (hp : Has st p (.lst (ps.map pairW))) (hq : Has st q (.lst (qs.map pairW))) (h1 : WordsOk ps) (h2 : WordsOk qs) : wEq (.ref p) (.ref q) st = .ok (.bl (decide (ps = qs))) st := by
  rw [ev_eq (rd_pairsL hp) (rd_pairsL hq) (shaped_psL h1) (shaped_psL h2), eqv_lists eqv_pair]
theorem WordsOk.nil : WordsOk [] := fun _ h => nomatch h
abbrev neNil (v : Nat) : MB := mT asB (m2 wNe (mVar v) (mN newLst mLNil))
theorem ne_nil {env : MM.Env} {st : S} {v p : Nat} {ps : List (Str × Str)} (hv : env[v]? = some (some (.ref p))) (hp : Has st p (.lst (ps.map pairW))) (o : WordsOk ps) : neNil v env st = .ok (!decide (ps = [])) (st.add (.lst [])) :=
  (mT_ok ((m2_ok (v_ok hv) ((mN_ok l_nil).trans (ev_newLst (by simp)))).trans (ne_pairs (qs := []) hp.add has_add o .nil))).trans asB_ok
abbrev lnText (v i j : Nat) : ME := (mBM "str" gJoin (mC (.str " ; ")) (mLCons (lnLc v i j) mLNil))
theorem ln_text {env : MM.Env} {st : S} {v i j p : Nat} {ps : List (Str × Str)} (hv : env[v]? = some (some (.ref p))) (hi : i < env.length) (hj : j < env.length) (ne : i ≠ j) (hp : Has st p (.lst (ps.map pairW))) (o : WordsOk ps) (hl : ps.length ≤ 1000) :
    ∃ s, lnText v i j env st = .ok (.str (textS ps)) s ∧ LeX [] st s := by
  obtain ⟨s, e, l, h⟩ := lines_lc hv hi hj ne hp o hl
  exact ⟨s, (bm_ok c_ok rfl (l_one e)).trans (join_lines h o hl), l⟩
theorem text_of {env : MM.Env} {st : S} {v i j p : Nat} {ps : List (Str × Str)} (hv : env[v]? = some (some (.ref p))) (hi : i < env.length) (hj : j < env.length) (ne : i ≠ j) (hp : Has st p (.lst (ps.map pairW))) (o : WordsOk ps) (hl : ps.length ≤ 1000) :
    ∃ s, (mIf (neNil v) (lnText v i j) (mC (.str "free"))) env st = .ok (.str (showS ps)) s ∧ LeX [] st s := by
  have t := ne_nil hv hp o
  by_cases h : ps = []
  · rw [decide_eq_true h] at t
    refine ⟨st.add (.lst []), (ie_f t c_ok).trans ?_, le_add⟩
    unfold showS
    rw [if_pos h]
  · rw [decide_eq_false h] at t
    obtain ⟨s, e, l⟩ := ln_text (st := st.add (.lst [])) hv hi hj ne hp.add o hl
    refine ⟨s, (ie_t t e).trans ?_, le_add.trans l⟩
    unfold showS
    rw [if_neg h]
theorem isi_list {a : Ad} {st : S} {q : Nat} {ws : List W} (h : Has st q (.lst ws)) : wIsi (isP a) [.ref q, .ty "list"] st = .ok (.bl true) st := isi_ty (kind_lst h) (by simp)
end K31

namespace K31
open PySem PySem.Spec PyProof.Rows L2 MM
def oddL : List Str := ["", ">", ";", "*", "-", "go", "Go", "free", "a b", Txt.mul "a" 25, ">>", "~"]
theorem odd_ok : ∀ w ∈ oddL, okS w ∧ w.length ≤ 25 := by
  unfold okS
  decide +kernel
def oddE : ME := (mN newLst (mLCons (mC (.str "")) (mLCons (mC (.str ">")) (mLCons (mC (.str ";")) (mLCons (mC (.str "*")) (mLCons (mC (.str "-")) (mLCons (mC (.str "go")) (mLCons (mC (.str "Go")) (mLCons (mC (.str "free")) (mLCons (mC (.str "a b")) (mLCons (m2 wMulS (mC (.str "a")) (mC (.int 25))) (mLCons (mC (.str ">>")) (mLCons (mC (.str "~")) mLNil)))))))))))))
theorem odd_e {env : MM.Env} {st : S} : oddE env st = .ok (.ref st.sz) (st.add (.lst (oddL.map W.str))) := by
  have e : m2 wMulS (mC (.str "a")) (mC (.int 25)) env st = .ok (.str (Txt.mul "a" 25)) st := (m2_ok c_ok c_ok).trans (mulS (k := 25) (by decide) (by decide))
  exact (mN_ok (l_cons c_ok (l_cons c_ok (l_cons c_ok (l_cons c_ok (l_cons c_ok (l_cons c_ok (l_cons c_ok (l_cons c_ok (l_cons c_ok (l_cons e (l_cons c_ok (l_one c_ok))))))))))))).trans (ev_newLst (by simp))
def bentE (a : Ad) : ME := (mBM "str" gJoin (mC (.str " ")) (mLCons (m2 wAdd (m2 wAdd (mSl (mVar 5) mONo (mOSo (mVar 6))) (m2 wMul (mN newLst (mLCons (mN (M__law_pick a) (mLCons (mVar 0) (mLCons (mVar 3) mLNil))) mLNil)) (mN wInt (mLCons (m2 wGt (mVar 7) (mC (.int 0))) mLNil)))) (mSl (mVar 5) (mOSo (m2 wAdd (mVar 6) (mN wInt (mLCons (m2 wLt (mVar 7) (mC (.int 2))) mLNil)))) mONo)) mLNil))
theorem bent_run (a : Ad) {n m k q3 q5 : Nat} {d way : Int} {ws : List Str} {st : S} {env : MM.Env} (v0 : env[0]? = some (some (.ref n))) (v3 : env[3]? = some (some (.ref q3))) (v5 : env[5]? = some (some (.ref q5))) (v6 : env[6]? = some (some (.int d))) (v7 : env[7]? = some (some (.int way)))
    (hp : Pen st n m k) (hk : k ≤ 90000) (h3 : Has st q3 (.lst (oddL.map W.str))) (n3 : q3 ≠ n) (h5 : Has st q5 (.lst (ws.map W.str))) (n5 : q5 ≠ n) (d0 : 0 ≤ d) (ok : ∀ w ∈ ws, okS w) (hl : (ws.map (·.length)).sum + ws.length ≤ 100000) :
    ∃ (x : Str) (s : S), bentE a env st = .ok (.str x) s ∧ okS x ∧ x.length ≤ (ws.map (·.length)).sum + ws.length + 26 ∧ LeX [n] st s ∧ Pen s n m (k + 1) := by
  have hlt := hp.lt
  have e1 := sl_lst (v_ok (st := st) v5) ono_ok (oso_ok (v_ok v6)) h5
  rw [cut_take d0, ← List.map_take] at e1
  obtain ⟨i, hi, s2, e2, l2, p2⟩ := pick_run a (hp.mono (le_add (o := .lst ((ws.take d.toNat).map W.str)))) hk h3.add n3 (by simp [oddL]) (by simp [oddL])
  have hi' : i < oddL.length := by rwa [List.length_map] at hi
  rw [List.getElem_map] at e2
  have hu := odd_ok _ (List.getElem_mem hi')
  generalize oddL[i] = u at hu e2
  have e3 := (mN_ok (f := newLst) (l_one ((mN_ok (f := M__law_pick a) (l_two (v_ok v0) (v_ok v3))).trans e2))).trans (ev_newLst (by simp))
  have e4 := (mN_ok (f := wInt) (l_one ((m2_ok (f := wGt) (v_ok (st := s2.add (.lst [.str u])) v7) (c_ok (w := .int 0))).trans ev_gt))).trans ev_intB
  have e5 := (m2_ok (f := wMul) e3 e4).trans (mul01 (has_add (s := s2) (o := .lst [.str u])) (by simp))
  have em : (if decide (0 < way) = true then [W.str u] else []) = ((if 0 < way then [u] else []) : List Str).map W.str := by
    by_cases h : 0 < way <;> simp [h]
  rw [em] at e5
  have hmid : (((if 0 < way then [u] else []) : List Str).map (·.length)).sum ≤ 25 ∧ ((if 0 < way then [u] else []) : List Str).length ≤ 1 ∧ ∀ w ∈ ((if 0 < way then [u] else []) : List Str), okS w := by
    by_cases h : 0 < way
    · simp only [h, if_true]
      exact ⟨by simpa using hu.2, by simp, by simpa using hu.1⟩
    · simp only [h, if_false]
      exact ⟨by simp, by simp, fun _ z => nomatch z⟩
  generalize ((if 0 < way then [u] else []) : List Str) = mid at e5 hmid
  have hA : Has ((s2.add (.lst [.str u])).add (.lst (mid.map W.str))) st.sz (.lst ((ws.take d.toNat).map W.str)) := ((l2.has has_add (by simp; omega)).add).add
  have hB : Has ((s2.add (.lst [.str u])).add (.lst (mid.map W.str))) (s2.add (.lst [.str u])).sz (.lst (mid.map W.str)) := has_add
  have h5' : Has ((s2.add (.lst [.str u])).add (.lst (mid.map W.str))) q5 (.lst (ws.map W.str)) := ((l2.has h5.add (by simpa using n5)).add).add
  have tl : (ws.take d.toNat).length ≤ ws.length := by rw [List.length_take]; omega
  have e6 := (m2_ok (f := wAdd) e1 e5).trans (add_lst hA hB (by rw [List.length_map, List.length_map]; omega))
  rw [← List.map_append] at e6
  have lA : LeX [n] st ((s2.add (.lst [.str u])).add (.lst (mid.map W.str))) := ((le_add.trans l2).trans le_add).trans le_add
  have pA : Pen ((s2.add (.lst [.str u])).add (.lst (mid.map W.str))) n m (k + 1) := (p2.mono le_add).mono le_add
  generalize ((s2.add (.lst [.str u])).add (.lst (mid.map W.str))) = s3 at e6 h5' lA pA
  have hC : Has (s3.add (.lst ((ws.take d.toNat ++ mid).map W.str))) s3.sz (.lst ((ws.take d.toNat ++ mid).map W.str)) := has_add
  have h5'' := h5'.add (o' := .lst ((ws.take d.toNat ++ mid).map W.str))
  have lB : LeX [n] st (s3.add (.lst ((ws.take d.toNat ++ mid).map W.str))) := lA.trans le_add
  have pB := pA.mono (le_add (o := .lst ((ws.take d.toNat ++ mid).map W.str)))
  generalize (s3.add (.lst ((ws.take d.toNat ++ mid).map W.str))) = s4 at e6 h5'' lB pB hC
  have e7 := (mN_ok (f := wInt) (l_one ((m2_ok (f := wLt) (v_ok (st := s4) v7) (c_ok (w := .int 2))).trans ev_lt))).trans ev_intB
  have e8 := (m2_ok (f := wAdd) (v_ok (st := s4) v6) e7).trans ev_add
  generalize hd : d + (if decide (way < 2) = true then 1 else 0) = d' at e8
  have hd' : d ≤ d' := by
    rw [← hd]
    split <;> omega
  have e9 := sl_lst (v_ok (st := s4) v5) (oso_ok e8) ono_ok h5''
  rw [cut_drop (by omega), ← List.map_drop] at e9
  have dl : (ws.drop d'.toNat).length ≤ ws.length := by rw [List.length_drop]; omega
  have e10 := (m2_ok (f := wAdd) e6 e9).trans (add_lst hC.add has_add (by rw [List.length_map, List.length_map, List.length_append]; omega))
  rw [← List.map_append] at e10
  have sm := sum_take_drop (fun x : Str => x.length) ws (i := d.toNat) (j := d'.toNat) (by omega)
  have ct : (ws.take d.toNat).length + (ws.drop d'.toNat).length ≤ ws.length := by
    rw [List.length_take, List.length_drop]
    omega
  have tot : ((ws.take d.toNat ++ mid ++ ws.drop d'.toNat).map (·.length)).sum ≤ (ws.map (·.length)).sum + 25 := by
    rw [List.map_append, List.map_append, List.sum_append, List.sum_append]
    omega
  have cnt : (ws.take d.toNat ++ mid ++ ws.drop d'.toNat).length ≤ ws.length + 1 := by
    rw [List.length_append, List.length_append]
    omega
  have sp1 : spc.length = 1 := by decide +kernel
  have e11 := (bm_ok (f := gJoin) (T := "str") (c_ok (w := .str " ")) rfl (l_one e10)).trans (join_strs has_add (by rw [spc_eq, sp1]; omega))
  refine ⟨_, _, e11, ?_, ?_, (lB.trans le_add).trans le_add, (pB.mono le_add).mono le_add⟩
  · rw [spc_eq]
    refine okS_join okSpc.1 fun w hw => ?_
    rcases List.mem_append.mp hw with h | h
    · rcases List.mem_append.mp h with h | h
      · exact ok w (List.mem_of_mem_take h)
      · exact hmid.2.2 w h
    · exact ok w (List.mem_of_mem_drop h)
  · rw [spc_eq]
    have := join_len spc (ws.take d.toNat ++ mid ++ ws.drop d'.toNat)
    rw [sp1] at this
    omega
end K31

namespace K31
open PySem PySem.Spec PyProof.Rows L2 MM
def rdTest (a : Ad) : MB := (mOrB (mAndB (mT asB (m2 wNotN (mVar 9) (mC .non))) (mT asB (m2 wNe (mN wRepr (mLCons (mVar 10) mLNil)) (mN wRepr (mLCons (mVar 9) mLNil))))) (mAndB (mT asB (m2 wIsN (mVar 9) (mC .non))) (mOrB (mNotB (mT truth (mN (wIsi (isP a)) (mLCons (mVar 10) (mLCons (mC (.ty "list")) mLNil))))) (mT asB (m2 wNe (mN (wStrX (mt1 a.Condition (M_Condition_str a))) (mLCons (m2 ixW (mVar 10) (mC (.int 0))) mLNil)) (mVar 8))))))
theorem rd_good (a : Ad) {env : MM.Env} {s : S} {x : Str} {q c : Nat} {ps : List (Str × Str)} (v8 : env[8]? = some (some (.str x))) (v9 : env[9]? = some (some .non)) (v10 : env[10]? = some (some (.ref q))) (hq : Has s q (.lst [.ref c])) (hc : Has s c (Cond a ps)) (o : WordsOk ps) (hl : ps.length ≤ 1000) (hx : showS ps = x) : ∃ s2, rdTest a env s = .ok false s2 ∧ LeX [] s s2 := by
  have t1 : mT asB (m2 wNotN (mVar 9) (mC .non)) env s = .ok false s := (mT_ok ((m2_ok (v_ok v9) c_ok).trans rfl)).trans asB_ok
  have t2 : mT asB (m2 wIsN (mVar 9) (mC .non)) env s = .ok true s := (mT_ok ((m2_ok (v_ok v9) c_ok).trans rfl)).trans asB_ok
  have t3 := not_ok ((mT_ok (f := truth) ((mN_ok (l_two (v_ok v10) (c_ok (w := .ty "list")))).trans (isi_list (a := a) hq))).trans tr_ok)
  obtain ⟨s2, e, l⟩ := strX_cond hc o hl
  have ox : okS x := by rw [← hx]; exact okS_show o
  rw [hx] at e
  have t4 := (mT_ok (f := asB) ((m2_ok (f := wNe) ((mN_ok (l_one ((m2_ok (f := ixW) (v_ok v10) c_ok).trans (ix_l0 hq)))).trans e) (v_ok v8)).trans (ev_neS ox ox))).trans asB_ok
  rw [decide_eq_true rfl] at t4
  exact ⟨s2, or_f (and_f t1) (and_t t2 (or_f t3 t4)), l⟩
theorem rd_bad (a : Ad) {env : MM.Env} {s : S} {j : Nat} (v9 : env[9]? = some (some (.tup [.str "text", .int 0, .int (j : Int)]))) (v10 : env[10]? = some (some (.tup [.str "text", .int 0, .int (j : Int)]))) (hj : j < 256) : rdTest a env s = .ok false s := by
  have t1 : mT asB (m2 wNotN (mVar 9) (mC .non)) env s = .ok true s := (mT_ok ((m2_ok (v_ok v9) c_ok).trans rfl)).trans asB_ok
  have t2 : mT asB (m2 wIsN (mVar 9) (mC .non)) env s = .ok false s := (mT_ok ((m2_ok (v_ok v9) c_ok).trans rfl)).trans asB_ok
  have ox := (repB_ok (errB j hj)).1.ok
  have t4 := (mT_ok (f := asB) ((m2_ok (f := wNe) ((mN_ok (l_one (v_ok v10))).trans (repr_err (s := s) hj)) ((mN_ok (l_one (v_ok v9))).trans (repr_err hj))).trans (ev_neS ox ox))).trans asB_ok
  rw [decide_eq_true rfl] at t4
  exact or_f (and_t t1 t4) (and_f t2)
def rdPar (a : Ad) : MS := (mPar 9 10 (mLCons (mN (M__law_due a) (mLCons (mVar 8) mLNil)) (mLCons (mN (M__law_read a) (mLCons (mVar 8) mLNil)) mLNil)))
def rdIf (a : Ad) : MS := mIfS (rdTest a) (mRet (mC (.bl false))) mNext
theorem rd_run (a : Ad) (d : Dis a) {env : MM.Env} {st : S} {x : Str} (v8 : env[8]? = some (some (.str x))) (hlen : 10 < env.length) (ho : okS x) (hx : x.length ≤ 250) :
    ∃ w9 w10 s, (mSeq (rdPar a) (rdIf a)) env st = .nx ((env.set 9 (some w9)).set 10 (some w10)) s ∧ LeX [] st s := by
  have g8 : ∀ w9 w10, ((env.set 9 (some w9)).set 10 (some w10))[8]? = some (some (.str x)) := fun w9 w10 => by
    rw [List.getElem?_set_ne (by decide), List.getElem?_set_ne (by decide)]; exact v8
  have g9 : ∀ w9 w10, ((env.set 9 (some w9)).set 10 (some w10))[9]? = some (some w9) := fun w9 w10 => by
    rw [List.getElem?_set_ne (by decide), List.getElem?_set_self (by omega)]
  have g10 : ∀ w9 w10, ((env.set 9 (some w9)).set 10 (some w10))[10]? = some (some w10) := fun w9 w10 => by
    rw [List.getElem?_set_self (by rw [List.length_set]; omega)]
  have go : ∀ {w9 w10 s0 s1}, M__law_due a [.str x] st = .ok w9 s0 → M__law_read a [.str x] s0 = .ok w10 s1 → rdPar a env st = .nx ((env.set 9 (some w9)).set 10 (some w10)) s1 := fun e0 e1 => par_ok (l_two ((mN_ok (l_one (v_ok v8))).trans e0) ((mN_ok (l_one (v_ok v8))).trans e1))
  have good : ∀ {s0 s1 : S} {q c : Nat} {ps : List (Str × Str)}, M__law_due a [.str x] st = .ok .non s0 → LeX [] st s0 → M__law_read a [.str x] s0 = .ok (.ref q) s1 → LeX [] s0 s1 → Has s1 q (.lst [.ref c]) → Has s1 c (Cond a ps) → WordsOk ps → ps.length ≤ 1000 → showS ps = x →
      ∃ w9 w10 s, (mSeq (rdPar a) (rdIf a)) env st = .nx ((env.set 9 (some w9)).set 10 (some w10)) s ∧ LeX [] st s := fun {s0 s1 q c ps} e0 l0 e1 l1 hq hc o hl hs => by
    obtain ⟨s2, t, l2⟩ := rd_good a (env := (env.set 9 (some .non)).set 10 (some (.ref q))) (g8 _ _) (g9 _ _) (g10 _ _) hq hc o hl hs
    exact ⟨_, _, s2, (seq_nx (go e0 e1)).trans (if_fn t), (l0.trans l1).trans l2⟩
  by_cases hf : x = "free"
  · subst hf
    obtain ⟨q, c, s1, e1, l1, hq, hc⟩ := read_free (a := a) (st := st)
    exact good (due_free a) .refl e1 l1 hq hc .nil (by simp) (by unfold showS; rw [if_pos rfl])
  · rcases right_or (wordsOf x) with hb | ⟨j, hb⟩
    · obtain ⟨s0, e0, l0⟩ := due_ok a (st := st) (by omega) ho hf hb
      have hcnt := all_len hb
      have hpl := pairs_len (wordsOf x)
      obtain ⟨q, c, s1, e1, l1, hq, hc⟩ := read_ok (a := a) (st := s0) (by omega) ho hf hb (by omega)
      exact good e0 l0 e1 l1 hq hc (words_pairs hb) (by omega) (show_back hb)
    · have hw := words_len x
      have hj : j < 256 := by
        rcases hb.2 with ⟨h, _⟩ | ⟨h, _⟩ <;> omega
      obtain ⟨s0, e0, l0⟩ := due_bad a (st := st) (by omega) ho hf hb
      obtain ⟨s1, e1, l1⟩ := read_bad (a := a) (st := s0) d (by omega) ho hf hb
      exact ⟨_, _, s1, (seq_nx (go e0 e1)).trans (if_fn (rd_bad a (g9 _ _) (g10 _ _) hj)), l0.trans l1⟩
end K31

namespace K31
open PySem PySem.Spec PyProof.Rows L2 MM
theorem Pen.lst {st : S} {n m k d : Nat} {ws : List W} (h : Pen st n m k) (hd : Has st d (.lst ws)) (hl : ws.length ≠ 3) : d ≠ n := by
  obtain ⟨at_, gr, xs, e1, e2, h3, h4⟩ := h.ex
  rintro rfl
  have := hd.inj e1
  cases this
  exact hl rfl
def rdPar2 (a : Ad) : MS := (mPar 6 7 (mLCons (mN (M__law_draw a) (mLCons (mVar 0) (mLCons (m2 wAdd (mN wLen (mLCons (mVar 5) mLNil)) (mC (.int 1))) mLNil))) (mLCons (mN (M__law_draw a) (mLCons (mVar 0) (mLCons (mC (.int 3)) mLNil))) mLNil)))
def rdBody (a : Ad) : MS := (mSeq (mAsg (mBM "str" gSplit (mVar 12) (mLCons (mC (.str " ")) mLNil)) (gN 5)) (mSeq (rdPar2 a) (mSeq (mAsg (bentE a) (gN 8)) (mSeq (rdPar a) (rdIf a)))))
def rdLoop (a : Ad) : MS := mFor (mSrc rng1 (mLCons (mC (.int 6)) mLNil)) (gN 4) (rdBody a)
abbrev tenv (n p q2 q3 : Nat) (tx : Str) (o4 o5 o6 o7 o8 o9 o10 o11 : Option W) : MM.Env := [some (.ref n), some (.ref p), some (.ref q2), some (.ref q3), o4, o5, o6, o7, o8, o9, o10, o11, some (.str tx), none, none]
section
variable (a : Ad) (d : Dis a) {n m k p q2 q3 : Nat} {tx : Str} {st : S} (n3 : q3 ≠ n) (ho : okS tx) (hx : tx.length ≤ 220)
include d n3 ho hx
theorem rd_body {o4 o5 o6 o7 o8 o9 o10 o11 : Option W} (h3 : Has st q3 (.lst (oddL.map W.str))) (hp : Pen st n m k) (hk : k + 3 ≤ 90000) :
    ∃ r5 r6 r7 r8 r9 r10 s, rdBody a (tenv n p q2 q3 tx o4 o5 o6 o7 o8 o9 o10 o11) st = .nx (tenv n p q2 q3 tx o4 r5 r6 r7 r8 r9 r10 o11) s ∧ LeX [n] st s ∧ Pen s n m (k + 3) := by
  have hlt := hp.lt
  have e1 : (mAsg (mBM "str" gSplit (mVar 12) (mLCons (mC (.str " ")) mLNil)) (gN 5)) (tenv n p q2 q3 tx o4 o5 o6 o7 o8 o9 o10 o11) st = .nx (tenv n p q2 q3 tx o4 (some (.ref st.sz)) o6 o7 o8 o9 o10 o11) (st.add (.lst ((wordsOf tx).map W.str))) := nm_ok (split_run (x := tx) rfl (by omega))
  have h5 : Has (st.add (.lst ((wordsOf tx).map W.str))) st.sz (.lst ((wordsOf tx).map W.str)) := has_add
  have n5 : st.sz ≠ n := by omega
  have p1 := hp.mono (le_add (o := .lst ((wordsOf tx).map W.str)))
  have l1 : LeX [n] st (st.add (.lst ((wordsOf tx).map W.str))) := le_add
  have h31 := h3.add (o' := .lst ((wordsOf tx).map W.str))
  generalize (st.add (.lst ((wordsOf tx).map W.str))) = s1 at *
  have hwl := words_len tx
  have e2 := (mN_ok (f := wLen) (l_one (v_ok (i := 5) (st := s1) (env := tenv n p q2 q3 tx o4 (some (.ref st.sz)) o6 o7 o8 o9 o10 o11) rfl))).trans (ev_lenL h5)
  rw [List.length_map] at e2
  obtain ⟨dd, s2, e3, d0, d1, l2, p2⟩ := draw_run a (many := ((wordsOf tx).length : Int) + 1) p1 (by omega) (by omega) (by omega)
  obtain ⟨way, s3, e4, w0, w1, l3, p3⟩ := draw_run a (many := 3) p2 (by omega) (by decide) (by decide)
  have e5 : rdPar2 a (tenv n p q2 q3 tx o4 (some (.ref st.sz)) o6 o7 o8 o9 o10 o11) s1 = .nx (tenv n p q2 q3 tx o4 (some (.ref st.sz)) (some (.int dd)) (some (.int way)) o8 o9 o10 o11) s3 :=
    par_ok (l_two ((mN_ok (l_two (v_ok rfl) ((m2_ok e2 c_ok).trans ev_add))).trans e3) ((mN_ok (l_two (v_ok rfl) c_ok)).trans e4))
  have l23 := l2.trans l3
  have sw := MM.split_weight tx
  have wo := words_ok (x := tx) (by omega) ho
  have hsum : ((wordsOf tx).map (·.length)).sum + (wordsOf tx).length ≤ tx.length + 1 := sw
  obtain ⟨x, s4, e6, ox, xl, l4, p4⟩ := bent_run a (env := tenv n p q2 q3 tx o4 (some (.ref st.sz)) (some (.int dd)) (some (.int way)) o8 o9 o10 o11) rfl rfl rfl rfl rfl p3 (by omega) (l23.has h31 (by simpa using n3)) n3 (l23.has h5 (by simpa using n5)) n5 d0 (fun w hw => (wo w hw).2) (by omega)
  obtain ⟨w9, w10, s5, e7, l5⟩ := rd_run a d (env := tenv n p q2 q3 tx o4 (some (.ref st.sz)) (some (.int dd)) (some (.int way)) (some (.str x)) o9 o10 o11) (st := s4) rfl (by simp) ox (by omega)
  have e6' : mAsg (bentE a) (gN 8) (tenv n p q2 q3 tx o4 (some (.ref st.sz)) (some (.int dd)) (some (.int way)) o8 o9 o10 o11) s3 = .nx (tenv n p q2 q3 tx o4 (some (.ref st.sz)) (some (.int dd)) (some (.int way)) (some (.str x)) o9 o10 o11) s4 := nm_ok e6
  exact ⟨some (.ref st.sz), some (.int dd), some (.int way), some (.str x), some w9, some w10, s5, (seq_nx e1).trans ((seq_nx e5).trans ((seq_nx e6').trans e7)), ((l1.trans l23).trans l4).trans l5.of0, p4.mono l5⟩
theorem rd_loop (h3 : Has st q3 (.lst (oddL.map W.str))) (hp : Pen st n m k) (hk : k + 18 ≤ 90000) {o4 o5 o6 o7 o8 o9 o10 o11 : Option W} :
    ∃ r4 r5 r6 r7 r8 r9 r10 s, rdLoop a (tenv n p q2 q3 tx o4 o5 o6 o7 o8 o9 o10 o11) st = .nx (tenv n p q2 q3 tx r4 r5 r6 r7 r8 r9 r10 o11) s ∧ LeX [n] st s ∧ Pen s n m (k + 18) := by
  unfold rdLoop
  refine for_ok (I := fun i env s => (∃ o4 o5 o6 o7 o8 o9 o10, env = tenv n p q2 q3 tx o4 o5 o6 o7 o8 o9 o10 o11) ∧ LeX [n] st s ∧ Pen s n m (k + 3 * i)) (Q := fun r => ∃ o4 o5 o6 o7 o8 o9 o10 s, r = .nx (tenv n p q2 q3 tx o4 o5 o6 o7 o8 o9 o10 o11) s ∧ LeX [n] st s ∧ Pen s n m (k + 18))
    ((mSrc_ok (l_one c_ok)).trans (rng_one (j := 6) (by decide) st)) ⟨⟨_, _, _, _, _, _, _, rfl⟩, .refl, hp⟩ ?_ ?_
  · rintro i env s hi ⟨⟨o4, o5, o6, o7, o8, o9, o10, rfl⟩, le, hp'⟩
    have hi : i < 6 := hi
    obtain ⟨r5, r6, r7, r8, r9, r10, s', e, l, p'⟩ := rd_body a d n3 ho hx (p := p) (q2 := q2) (o4 := some (.int (0 + (i : Nat) * 1))) (o5 := o5) (o6 := o6) (o7 := o7) (o8 := o8) (o9 := o9) (o10 := o10) (o11 := o11) (le.has h3 (by simpa using n3)) hp' (by omega)
    exact ⟨rfl, _, _, s, rfl, rfl, .inl ⟨_, s', e, ⟨_, _, _, _, _, _, _, rfl⟩, le.trans l, p'.up (by omega)⟩⟩
  · rintro env s ⟨⟨o4, o5, o6, o7, o8, o9, o10, rfl⟩, le, hp'⟩
    exact ⟨rfl, _, _, _, _, _, _, _, s, rfl, le, hp'⟩
end
end K31

namespace K31
open PySem PySem.Spec PyProof.Rows L2 MM
def txA : MS := mAsg (mIf (neNil 1) (lnText 1 13 14) (mC (.str "free"))) (gN 12)
def txB (a : Ad) : MS := mAsg (mN (M__law_read a) (mLCons (mVar 12) mLNil)) (gN 2)
def txT (a : Ad) : MB := (mOrB (mNotB (mT truth (mN (wIsi (isP a)) (mLCons (mVar 2) (mLCons (mC (.ty "list")) mLNil))))) (mOrB (mT asB (m2 wNe (mN (wStrX (mt1 a.Condition (M_Condition_str a))) (mLCons (m2 ixW (mVar 2) (mC (.int 0))) mLNil)) (mVar 12))) (mT asB (m2 wNe (mN wList (mLCons (m1 (getA [a.Condition] [] "pairs") (m2 ixW (mVar 2) (mC (.int 0)))) mLNil)) (mVar 1)))))
def txC (a : Ad) : MS := mIfS (txT a) (mRet (mC (.bl false))) mNext
def txD : MS := mAsg oddE (gN 3)
def txO (a : Ad) : MA := (mLCons (mVar 0) (mLCons (mN newLst (mLCons (mC .non) (mLCons (mC (.int 5)) (mLCons (mN newLst (mLCons (mC (.str "free")) mLNil)) (mLCons (mC (.bl true)) (mLCons (m2 ixW (mVar 2) (mC (.int 0))) (mLCons (mN newTup mLNil) mLNil))))))) mLNil))
def txE (a : Ad) : MS := mAsg (mN (M__law_pick a) (txO a)) (gN 11)
def txF (a : Ad) : ME := (mAndV (m2 wEq (mN wRepr (mLCons (mN (M__law_read a) (mLCons (mVar 11) mLNil)) mLNil)) (mN wRepr (mLCons (mN newTup (mLCons (mC (.str "text")) (mLCons (mC (.int 0)) (mLCons (mC (.int 0)) mLNil)))) mLNil))) (m2 wEq (mN wRepr (mLCons (m1 (getA [a.Condition] [] "pairs") (m2 ixW (mLam (L__law_heard a) (mCMK a.Condition 1 [0, 1] (G_Condition_from_text a) (mLCons (mVar 12) mLNil))) (mC (.int 0)))) mLNil)) (mN wRepr (mLCons (mN wTuple (mLCons (mVar 1) mLNil)) mLNil))))
theorem tx_parts (a : Ad) : b__law_texts_right a = mSeq txA (mSeq (txB a) (mSeq (txC a) (mSeq txD (mSeq (rdLoop a) (mSeq (txE a) (mRet (txF a))))))) := rfl
section
variable (a : Ad) {env : MM.Env} {st : S} {p q2 c : Nat} {ps : List (Str × Str)}
theorem tx_test (v1 : env[1]? = some (some (.ref p))) (v2 : env[2]? = some (some (.ref q2))) (v12 : env[12]? = some (some (.str (showS ps)))) (hp : Has st p (.lst (ps.map pairW))) (h2 : Has st q2 (.lst [.ref c])) (hc : Has st c (Cond a ps)) (o : WordsOk ps) (hl : ps.length ≤ 1000) : ∃ s, txT a env st = .ok false s ∧ LeX [] st s := by
  have t1 := not_ok ((mT_ok (f := truth) ((mN_ok (l_two (v_ok v2) (c_ok (w := .ty "list")))).trans (isi_list (a := a) h2))).trans tr_ok)
  have i0 := (m2_ok (f := ixW) (v_ok (st := st) v2) (c_ok (w := .int 0))).trans (ix_l0 h2)
  obtain ⟨s1, e1, l1⟩ := strX_cond hc o hl
  have os := okS_show o
  have t2 := (mT_ok (f := asB) ((m2_ok (f := wNe) ((mN_ok (l_one i0)).trans e1) (v_ok v12)).trans (ev_neS os os))).trans asB_ok
  rw [decide_eq_true rfl] at t2
  have h2' := l1.has0 h2
  have hc' := l1.has0 hc
  have i1 := (m2_ok (f := ixW) (v_ok (st := s1) v2) (c_ok (w := .int 0))).trans (ix_l0 h2')
  have e3 := (mN_ok (f := wList) (l_one ((m1_ok i1).trans (get_pairs hc')))).trans list_tup
  have t3 := (mT_ok (f := asB) ((m2_ok (f := wNe) e3 (v_ok v1)).trans (ne_pairs has_add (l1.has0 hp).add o o))).trans asB_ok
  rw [decide_eq_true rfl] at t3
  exact ⟨_, or_f t1 (or_f t2 t3), l1.trans le_add⟩
theorem cm_eq (w : W) (s : S) : G_Condition_from_text a [.glo a.Condition, w] s = M_Condition_from_text a [.glo a.Condition, w] s := by
  unfold M_Condition_from_text
  rw [ev_fill (by simp)]
  rfl
theorem cmk_eq {w : W} (v12 : env[12]? = some (some w)) : (mCMK a.Condition 1 [0, 1] (G_Condition_from_text a) (mLCons (mVar 12) mLNil)) env = fun s => M_Condition_from_text a [.glo a.Condition, w] s := by
  funext s
  unfold mCMK
  rw [l_one (v_ok v12), R.bind_ok]
  exact cm_eq a w s
theorem odd_kind {s : S} {r : Nat} {ws : List W} (hr : Has s r (.lst ws)) (hc : Has s c (Cond a ps)) {w : W} (hw : w ∈ ([.non, .int 5, .ref r, .bl true, .ref c, .tup []] : List W)) : ∃ t, kind a w s t ∧ Tg.beq t (.ty "str") = false := by
  simp only [List.mem_cons, List.not_mem_nil, or_false] at hw
  rcases hw with rfl | rfl | rfl | rfl | rfl | rfl
  · exact ⟨_, kind_non, rfl⟩
  · exact ⟨_, kind_int, rfl⟩
  · exact ⟨_, kind_lst hr, rfl⟩
  · exact ⟨_, kind_bl, rfl⟩
  · exact ⟨_, kind_cond hc, rfl⟩
  · exact ⟨_, kind_tup, rfl⟩
theorem tx_pick {n m k : Nat} (v0 : env[0]? = some (some (.ref n))) (v2 : env[2]? = some (some (.ref q2))) (h2 : Has st q2 (.lst [.ref c])) (hc : Has st c (Cond a ps)) (hp : Pen st n m k) (hk : k ≤ 90000) :
    ∃ w s, txE a env st = .nx (env.set 11 (some w)) s ∧ LeX [n] st s ∧ Pen s n m (k + 1) ∧ ∃ t, kind a w (s.add (.lst [])) t ∧ Tg.beq t (.ty "str") = false := by
  have hcn := hp.ins hc
  have hlt := hp.lt
  have e1 := (mN_ok (f := newLst) (l_one (c_ok (env := env) (st := st) (w := .str "free")))).trans (ev_newLst (by simp))
  have i1 := (m2_ok (f := ixW) (v_ok (st := st.add (.lst [.str "free"])) v2) (c_ok (w := .int 0))).trans (ix_l0 h2.add)
  have e2 := (mN_ok (f := newLst) (l_cons (c_ok (w := .non)) (l_cons (c_ok (w := .int 5)) (l_cons e1 (l_cons (c_ok (w := .bl true)) (l_two i1 ((mN_ok (f := newTup) l_nil).trans (ev_newTup (by simp))))))))).trans (ev_newLst (by simp))
  obtain ⟨i, hi, s, e3, l, p'⟩ := pick_run a (q := (st.add (.lst [.str "free"])).sz) (ws := [.non, .int 5, .ref st.sz, .bl true, .ref c, .tup []]) ((hp.mono le_add).mono le_add) hk has_add (by rw [add_sz]; omega) (by simp) (by simp)
  have hr : Has s st.sz (.lst [.str "free"]) := l.has ((has_add).add) (by simp; omega)
  have hc' : Has s c (Cond a ps) := l.has (hc.add.add) (by simpa using hcn)
  refine ⟨_, s, nm_ok ((mN_ok (f := M__law_pick a) (l_two (v_ok v0) e2)).trans e3), (le_add.trans le_add).trans l, p', ?_⟩
  exact odd_kind a hr.add hc'.add (List.getElem_mem hi)
theorem tx_fin (d : Dis a) {w : W} {t : Tg} (v1 : env[1]? = some (some (.ref p))) (v11 : env[11]? = some (some w)) (v12 : env[12]? = some (some (.str (showS ps)))) (hp : Has st p (.lst (ps.map pairW))) (mo : MenuOk ps) (hl : ps.length ≤ 40) (hk : kind a w (st.add (.lst [])) t) (ht : Tg.beq t (.ty "str") = false) : ∃ s, txF a env st = .ok (.bl true) s ∧ LeX [] st s := by
  have o := mo.words
  obtain ⟨s1, e1, l1⟩ := read_no d hk ht
  have ox := (repB_ok (errB 0 (by decide))).1.ok
  have r0 := (mN_ok (f := wRepr) (l_one ((mN_ok (f := M__law_read a) (l_one (v_ok (st := st) v11))).trans e1))).trans (repr_err (j := 0) (by decide))
  have r1 := (mN_ok (f := wRepr) (l_one ((mN_ok (f := newTup) (l_cons (c_ok (env := env) (st := s1) (w := .str "text")) (l_two (c_ok (w := .int ((0 : Nat) : Int))) (c_ok (w := .int ((0 : Nat) : Int)))))).trans (ev_newTup (by simp))))).trans (repr_err (j := 0) (by decide))
  have q1 := (m2_ok (f := wEq) r0 r1).trans (ev_eqS ox ox)
  rw [decide_eq_true rfl] at q1
  obtain ⟨q, c2, s2, e2, l2, hq, hc⟩ := read_show (a := a) (st := s1) o hl
  rw [read_eq] at e2
  have e3 : mLam (L__law_heard a) (mCMK a.Condition 1 [0, 1] (G_Condition_from_text a) (mLCons (mVar 12) mLNil)) env s1 = .ok (.ref q) s2 := by
    unfold mLam
    rw [cmk_eq a v12]
    exact e2
  have e4 := (mN_ok (f := wRepr) (l_one ((m1_ok ((m2_ok (f := ixW) e3 (c_ok (w := .int 0))).trans (ix_l0 hq))).trans (get_pairs hc)))).trans (repr_pairs mo (by omega))
  have e5 := (mN_ok (f := wRepr) (l_one ((mN_ok (f := wTuple) (l_one (v_ok (st := s2) v1))).trans (tuple_lst (l2.has0 (l1.has0 hp)))))).trans (repr_pairs mo (by omega))
  have oy := (rep_pairs mo (by omega)).ok
  have q2 := (m2_ok (f := wEq) e4 e5).trans (ev_eqS oy oy)
  rw [decide_eq_true rfl] at q2
  exact ⟨s2, andV_t q1 q2, l1.trans l2⟩
end
theorem texts_right (a : Ad) (d : Dis a) {n m k p : Nat} {ps : List (Str × Str)} {st : S} (hp : Has st p (.lst (ps.map pairW))) (np : p ≠ n) (hpen : Pen st n m k) (hk : k + 40 ≤ 90000) (mo : MenuOk ps) (hl : ps.length ≤ 4) :
    ∃ s, M__law_texts_right a [.ref n, .ref p] st = .ok (.bl true) s ∧ LeX [n] st s ∧ Pen s n m (k + 19) := by
  have o := mo.words
  have start : M__law_texts_right a [.ref n, .ref p] st = ((mSeq txA (mSeq (txB a) (mSeq (txC a) (mSeq txD (mSeq (rdLoop a) (mSeq (txE a) (mRet (txF a)))))))) [some (.ref n), some (.ref p), none, none, none, none, none, none, none, none, none, none, none, none, none] st).call := by
    unfold M__law_texts_right
    rw [fill_def (by simp), tx_parts]
    rfl
  obtain ⟨s1, e1, l1⟩ := text_of (env := [some (.ref n), some (.ref p), none, none, none, none, none, none, none, none, none, none, none, none, none]) (v := 1) (i := 13) (j := 14) rfl (by simp) (by simp) (by decide) hp o (by omega)
  have f1 : txA [some (.ref n), some (.ref p), none, none, none, none, none, none, none, none, none, none, none, none, none] st = .nx [some (.ref n), some (.ref p), none, none, none, none, none, none, none, none, none, none, some (.str (showS ps)), none, none] s1 := nm_ok e1
  obtain ⟨q2, c, s2, e2, l2, hq, hc⟩ := read_show (a := a) (st := s1) o (by omega)
  have f2 : txB a [some (.ref n), some (.ref p), none, none, none, none, none, none, none, none, none, none, some (.str (showS ps)), none, none] s1 = .nx [some (.ref n), some (.ref p), some (.ref q2), none, none, none, none, none, none, none, none, none, some (.str (showS ps)), none, none] s2 := nm_ok ((mN_ok (l_one (v_ok rfl))).trans e2)
  have hp2 := (l1.trans l2).has0 hp
  obtain ⟨s3, e3, l3⟩ := tx_test a (env := [some (.ref n), some (.ref p), some (.ref q2), none, none, none, none, none, none, none, none, none, some (.str (showS ps)), none, none]) rfl rfl rfl hp2 hq hc o (by omega)
  have f3 : txC a [some (.ref n), some (.ref p), some (.ref q2), none, none, none, none, none, none, none, none, none, some (.str (showS ps)), none, none] s2 = .nx [some (.ref n), some (.ref p), some (.ref q2), none, none, none, none, none, none, none, none, none, some (.str (showS ps)), none, none] s3 := if_fn e3
  have l03 := (l1.trans l2).trans l3
  have pen3 := hpen.mono l03
  have hlt := pen3.lt
  have f4 : txD [some (.ref n), some (.ref p), some (.ref q2), none, none, none, none, none, none, none, none, none, some (.str (showS ps)), none, none] s3 = .nx (tenv n p q2 s3.sz (showS ps) none none none none none none none none) (s3.add (.lst (oddL.map W.str))) := nm_ok odd_e
  have n3 : s3.sz ≠ n := by omega
  have h3 : Has (s3.add (.lst (oddL.map W.str))) s3.sz (.lst (oddL.map W.str)) := has_add
  have hx := show_len o
  obtain ⟨o4, o5, o6, o7, o8, o9, o10, s5, e5, l5, pen5⟩ := rd_loop a d (p := p) (q2 := q2) (tx := showS ps) n3 (okS_show o) (by omega) h3 (pen3.mono le_add) (by omega) (o4 := none) (o5 := none) (o6 := none) (o7 := none) (o8 := none) (o9 := none) (o10 := none) (o11 := none)
  have l05 : LeX [n] s3 s5 := le_add.trans l5
  have nq := pen3.lst (l3.has0 hq) (by simp)
  have nc := pen3.ins (l3.has0 hc)
  have hq5 := l05.has (l3.has0 hq) (by simpa using nq)
  have hc5 := l05.has (l3.has0 hc) (by simpa using nc)
  have hp5 := l05.has (l3.has0 hp2) (by simpa using np)
  obtain ⟨w, s6, e6, l6, pen6, t, k1, k2⟩ := tx_pick a (env := tenv n p q2 s3.sz (showS ps) o4 o5 o6 o7 o8 o9 o10 none) rfl rfl hq5 hc5 pen5 (by omega)
  obtain ⟨s7, e7, l7⟩ := tx_fin a d (env := tenv n p q2 s3.sz (showS ps) o4 o5 o6 o7 o8 o9 o10 (some w)) rfl rfl rfl (l6.has hp5 (by simpa using np)) mo (by omega) k1 k2
  refine ⟨s7, start.trans (call_rt ((seq_nx f1).trans ((seq_nx f2).trans ((seq_nx f3).trans ((seq_nx f4).trans ((seq_nx e5).trans ((seq_nx e6).trans (ret_ok e7)))))))), ((l03.of0.trans l05).trans l6).trans l7.of0, (pen6.mono l7).up (by omega)⟩
end K31

namespace K31
open PySem PySem.Spec PyProof.Rows L2 MM
def onceS (ps : List (Str × Str)) : List (Str × Str) := ps.foldl (fun acc p => andS acc [p]) []
theorem once_take {ps : List (Str × Str)} {i : Nat} (hi : i < ps.length) : onceS (ps.take (i + 1)) = andS (onceS (ps.take i)) [ps[i]] := by
  unfold onceS
  rw [List.take_succ, List.getElem?_eq_getElem hi]
  show List.foldl _ [] (ps.take i ++ [ps[i]]) = _
  rw [List.foldl_append]
  rfl
theorem and_one_len (ps : List (Str × Str)) (p : Str × Str) : (andS ps [p]).length ≤ ps.length + 1 := by
  unfold andS
  rw [List.length_append]
  have := List.length_filter_le (fun q => !decide (q ∈ ps)) [p]
  simp only [List.length_singleton] at this
  omega
theorem once_fold : ∀ (ps acc : List (Str × Str)), WordsOk ps → WordsOk acc → WordsOk (ps.foldl (fun acc p => andS acc [p]) acc) ∧ (ps.foldl (fun acc p => andS acc [p]) acc).length ≤ acc.length + ps.length
  | [], acc, _, h2 => ⟨h2, Nat.le_refl _⟩
  | p :: ps, acc, h1, h2 => by
    have hp : WordsOk [p] := fun q hq => by
      rw [List.mem_singleton.mp hq]
      exact h1 p (by simp)
    obtain ⟨a1, a2⟩ := once_fold ps (andS acc [p]) (fun q hq => h1 q (List.mem_cons_of_mem _ hq)) (words_and h2 hp)
    have := and_one_len acc p
    refine ⟨a1, ?_⟩
    rw [List.foldl_cons, List.length_cons]
    omega
theorem once_ok {ps : List (Str × Str)} (o : WordsOk ps) : WordsOk (onceS ps) ∧ (onceS ps).length ≤ ps.length := by
  have := once_fold ps [] o .nil
  exact ⟨this.1, by have h := this.2; unfold onceS; simpa using h⟩
theorem WordsOk.take {ps : List (Str × Str)} (o : WordsOk ps) (i : Nat) : WordsOk (ps.take i) := fun p hp => o p (List.mem_of_mem_take hp)
abbrev andX (a : Ad) : W → W → S → R W := wBinX (isP a) (mt1 a.Condition (M_Condition_and a))
theorem and_x (a : Ad) {n m : Nat} {ps qs : List (Str × Str)} {st : S} (h1 : Has st n (Cond a ps)) (h2 : Has st m (Cond a qs)) (o1 : WordsOk ps) (o2 : WordsOk qs) (hl : qs.length ≤ 1000) (h40 : (andS ps qs).length ≤ 40) :
    ∃ k s, andX a (.ref n) (.ref m) st = .ok (.ref k) s ∧ LeX [] st s ∧ Has s k (Cond a (andS ps qs)) := by
  unfold andX
  rw [bin_cond h1 (kind_cond h2) (.inr rfl)]
  exact cond_and a h1 h2 o1 o2 hl h40
def alLoop (a : Ad) : MS := mFor (mIter (mVar 0)) (gN 2) (mAsg (m2 (andX a) (mVar 1) (mN (mMake a.Condition (M_Condition_init a)) (mLCons (mVar 2) mLNil))) (gN 1))
theorem al_loop (a : Ad) {q c : Nat} {ps : List (Str × Str)} {st : S} (hq : Has st q (.lst (ps.map pairW))) (hc : Has st c (Cond a [])) (o : WordsOk ps) (hl : ps.length ≤ 40) :
    ∃ c' o2 s, alLoop a [some (.ref q), some (.ref c), none] st = .nx [some (.ref q), some (.ref c'), o2] s ∧ LeX [] st s ∧ Has s c' (Cond a (onceS ps)) := by
  unfold alLoop
  refine for_ok (I := fun i env s => ∃ c' o2, env = [some (.ref q), some (.ref c'), o2] ∧ LeX [] st s ∧ Has s c' (Cond a (onceS (ps.take i)))) (Q := fun r => ∃ c' o2 s, r = .nx [some (.ref q), some (.ref c'), o2] s ∧ LeX [] st s ∧ Has s c' (Cond a (onceS ps)))
    (MM.iter_lst rfl hq) ⟨c, none, rfl, .refl, hc⟩ ?_ ?_
  · rintro i env s hi ⟨c', o2, rfl, le, h⟩
    have hi0 : i < (ps.map pairW).length := hi
    have hi2 : i < ps.length := by rwa [List.length_map] at hi0
    obtain ⟨k1, k2⟩ := MM.lstL_at hq le
    have ho := once_ok (o.take i)
    have hp : WordsOk [ps[i]] := fun q hq => by
      rw [List.mem_singleton.mp hq]
      exact o _ (List.getElem_mem hi2)
    obtain ⟨s1, e1, l1, h1⟩ := make_pairs a [ps[i]] s (by simp) hp
    have tl : (ps.take i).length ≤ i := by rw [List.length_take]; omega
    have al := and_one_len (onceS (ps.take i)) ps[i]
    obtain ⟨k, s2, e2, l2, h2⟩ := and_x a (l1.has0 h) h1 ho.1 hp (by simp) (by omega)
    refine ⟨k1, _, [some (.ref q), some (.ref c'), some (pairW ps[i])], s, by rw [k2, List.getElem?_map, List.getElem?_eq_getElem hi2]; rfl, rfl, .inl ⟨[some (.ref q), some (.ref k), some (pairW ps[i])], s2, nm_ok ((m2_ok (v_ok rfl) ((mN_ok (l_one (v_ok rfl))).trans e1)).trans e2), k, _, rfl, (le.trans l1).trans l2, ?_⟩⟩
    rw [once_take hi2]
    exact h2
  · rintro env s ⟨c', o2, rfl, le, h⟩
    refine ⟨(MM.lstL_at hq le).1, c', o2, s, rfl, le, ?_⟩
    rwa [show (srcL q (ps.map pairW).length).n = ps.length from List.length_map _, List.take_length] at h
theorem all_run (a : Ad) {q : Nat} {ps : List (Str × Str)} {st : S} (hq : Has st q (.lst (ps.map pairW))) (o : WordsOk ps) (hl : ps.length ≤ 40) :
    ∃ c s, M__law_all a [.ref q] st = .ok (.ref c) s ∧ LeX [] st s ∧ Has s c (Cond a (onceS ps)) := by
  have start : M__law_all a [.ref q] st = ((mSeq (mAsg (mN (mMake a.Condition (M_Condition_init a)) mLNil) (gN 1)) (mSeq (alLoop a) (mRet (mVar 1)))) [some (.ref q), none, none] st).call := fill_def (by simp)
  obtain ⟨s1, e1, l1, h1⟩ := make_pairs a [] st (by simp) .nil
  obtain ⟨c, o2, s2, e2, l2, h2⟩ := al_loop a (l1.has0 hq) h1 o hl
  exact ⟨c, s2, start.trans (call_rt ((seq_nx (nm_ok ((mN_ok l_nil).trans e1))).trans ((seq_nx e2).trans (ret_ok (v_ok rfl))))), l1.trans l2, h2⟩
def eW (i : Int) : Str := "e" ++ Str.ofString (toString i)
def eL : List (Str × Str) := (List.range 40).map fun (i : Nat) => (eW (i : Int), "go")
def oneB (ps : List (Str × Str)) : Bool := ps.all fun p => wordS p.1 && wordS p.2
theorem oneB_ok {ps : List (Str × Str)} (h : oneB ps = true) : WordsOk ps := fun p hp => by
  have := List.all_eq_true.mp h p hp
  simpa using this
abbrev moreL : List (Str × Str) := [("more", "go")]
abbrev e3L : List (Str × Str) := [("e3", "go")]
abbrev goodL : List (Str × Str) := [("go", "-")]
theorem eL_words : oneB eL = true ∧ oneB moreL = true ∧ oneB e3L = true ∧ oneB goodL = true := by decide +kernel
theorem eL_len : eL.length = 40 := by decide +kernel
theorem eL_once : onceS eL = eL := by decide +kernel
theorem eL_and : andS eL eL = eL ∧ andS eL e3L = eL ∧ andS eL moreL = eL ++ moreL := by decide +kernel
theorem eL_text : showS eL ++ " ; more > go" = textS (eL ++ moreL) := by decide +kernel
end K31

namespace K31
open PySem PySem.Spec PyProof.Rows L2 MM
structure BadArg (a : Ad) (st : S) (w : W) : Prop where
  is : ArgIs a st w false
  kd : ∃ x, ∀ s, LeX [] st s → kind a w s (.ty x)
theorem BadArg.mono {a : Ad} {st st' : S} {w : W} (h : BadArg a st w) (l : LeX [] st st') : BadArg a st' w := ⟨h.is.mono l, h.kd.imp fun _ k s l2 => k s (l.trans l2)⟩
section
variable {a : Ad} {st : S}
theorem bad_no {w : W} {x : String} (k : ∀ s, LeX [] st s → kind a w s (.ty x)) (h1 : (x == "list") = false) (h2 : (x == "tuple") = false) : BadArg a st w :=
  ⟨fun s l => ⟨s, pair_no a s (k s l) h1 h2, .refl⟩, x, k⟩
theorem bad_short {ws : List W} (h : ws.length ≠ 2) : BadArg a st (.tup ws) := ⟨fun s _ => ⟨s, pair_short a ws s h, .refl⟩, _, fun _ _ => kind_tup⟩
theorem bad_tup {x y : Str} (h : (wordS x && wordS y) = false) (hx : x.length ≤ 1000000 ∧ okS x) (hy : y.length ≤ 1000000 ∧ okS y) : BadArg a st (.tup [.str x, .str y]) :=
  ⟨fun s _ => by
    obtain ⟨s', e, l⟩ := pair_tup a x y s hx.1 hx.2 hy.1 hy.2
    rw [h] at e
    exact ⟨s', e, l⟩, _, fun _ _ => kind_tup⟩
theorem bad_tup2 {x : Str} {w : W} {t : String} (hx : x.length ≤ 1000000 ∧ okS x) (hw : ∀ s, kind a w s (.ty t)) (ht : (t == "str") = false) : BadArg a st (.tup [.str x, w]) :=
  ⟨fun s _ => pair_tup2 a x s hx.1 hx.2 hw ht, _, fun _ _ => kind_tup⟩
theorem bad_lst2 {x : Str} {w : W} {t : String} {n : Nat} (hn : Has st n (.lst [.str x, w])) (hx : x.length ≤ 1000000 ∧ okS x) (hw : ∀ s, kind a w s (.ty t)) (ht : (t == "str") = false) : BadArg a st (.ref n) :=
  ⟨fun s l => pair_lst2 a x s (l.has0 hn) hx.1 hx.2 hw ht, _, fun _ l => kind_lst (l.has0 hn)⟩
end
def badL (dz lz : Nat) : List W := [.non, .str "go", .tup [.str "go"], .tup [.str "go", .str "stay", .str "go"], .tup [.str "go", .str ""], .tup [.str "go", .non], .tup [.str "Go", .str "go"], .ref dz, .int 5, .tup [.str "go", .str (Txt.mul "a" 25)], .tup [.str "**", .str "go"], .ref lz]
theorem bits : (("go" : Str).length ≤ 1000000 ∧ okS "go") ∧ (("" : Str).length ≤ 1000000 ∧ okS "") ∧ (("Go" : Str).length ≤ 1000000 ∧ okS "Go") ∧ ((Txt.mul "a" 25).length ≤ 1000000 ∧ okS (Txt.mul "a" 25)) ∧ (("**" : Str).length ≤ 1000000 ∧ okS "**") := by
  unfold okS
  decide +kernel
theorem bits2 : (wordS "go" && wordS "") = false ∧ (wordS "Go" && wordS "go") = false ∧ (wordS "go" && wordS (Txt.mul "a" 25)) = false ∧ (wordS "**" && wordS "go") = false := by decide +kernel
theorem bad_all {a : Ad} {st : S} {dz lz : Nat} (hd : Has st dz (.dic [])) (hl : Has st lz (.lst [.str "go", .int 7])) : ∀ w ∈ badL dz lz, BadArg a st w := by
  intro w hw
  have b := bits
  have c := bits2
  simp only [badL, List.mem_cons, List.not_mem_nil, or_false] at hw
  rcases hw with rfl | rfl | rfl | rfl | rfl | rfl | rfl | rfl | rfl | rfl | rfl | rfl
  · exact bad_no (fun _ _ => kind_non) rfl rfl
  · exact bad_no (fun _ _ => kind_str) rfl rfl
  · exact bad_short (by simp)
  · exact bad_short (by simp)
  · exact bad_tup c.1 b.1 b.2.1
  · exact bad_tup2 b.1 (fun _ => kind_non) rfl
  · exact bad_tup c.2.1 b.2.2.1 b.1
  · exact bad_no (fun _ l => kind_dic (l.has0 hd)) rfl rfl
  · exact bad_no (fun _ _ => kind_int) rfl rfl
  · exact bad_tup c.2.2.1 b.1 b.2.2.2.1
  · exact bad_tup c.2.2.2 b.2.2.2.2 b.1
  · exact bad_lst2 hl b.1 (fun _ => kind_int) rfl
def rfA : ME := (mN newLst (mLCons (mC .non) (mLCons (mC (.str "go")) (mLCons (mN newTup (mLCons (mC (.str "go")) mLNil)) (mLCons (mN newTup (mLCons (mC (.str "go")) (mLCons (mC (.str "stay")) (mLCons (mC (.str "go")) mLNil)))) (mLCons (mN newTup (mLCons (mC (.str "go")) (mLCons (mC (.str "")) mLNil))) (mLCons (mN newTup (mLCons (mC (.str "go")) (mLCons (mC .non) mLNil))) (mLCons (mN newTup (mLCons (mC (.str "Go")) (mLCons (mC (.str "go")) mLNil))) (mLCons newDic (mLCons (mC (.int 5)) (mLCons (mN newTup (mLCons (mC (.str "go")) (mLCons (m2 wMulS (mC (.str "a")) (mC (.int 25))) mLNil))) (mLCons (mN newTup (mLCons (mC (.str "**")) (mLCons (mC (.str "go")) mLNil))) (mLCons (mN newLst (mLCons (mC (.str "go")) (mLCons (mC (.int 7)) mLNil))) mLNil)))))))))))))
theorem tup_two {m n : ME} {env : MM.Env} {st s1 s2 : S} {x y : W} (h : m env st = .ok x s1) (h2 : n env s1 = .ok y s2) : mN newTup (mLCons m (mLCons n mLNil)) env st = .ok (.tup [x, y]) s2 := (mN_ok (l_two h h2)).trans (ev_newTup (by simp))
theorem rf_a {env : MM.Env} {st : S} : rfA env st = .ok (.ref ((st.add (.dic [])).add (.lst [.str "go", .int 7])).sz) (((st.add (.dic [])).add (.lst [.str "go", .int 7])).add (.lst (badL st.sz (st.add (.dic [])).sz))) := by
  have e : ∀ s, m2 wMulS (mC (.str "a")) (mC (.int 25)) env s = .ok (.str (Txt.mul "a" 25)) s := fun s => (m2_ok c_ok c_ok).trans (mulS (k := 25) (by decide) (by decide))
  have d : newDic env st = .ok (.ref st.sz) (st.add (.dic [])) := rfl
  have l : mN newLst (mLCons (mC (.str "go")) (mLCons (mC (.int 7)) mLNil)) env (st.add (.dic [])) = .ok (.ref (st.add (.dic [])).sz) ((st.add (.dic [])).add (.lst [.str "go", .int 7])) := (mN_ok (l_two c_ok c_ok)).trans (ev_newLst (by simp))
  have t1 : mN newTup (mLCons (mC (.str "go")) mLNil) env st = .ok (.tup [.str "go"]) st := (mN_ok (l_one c_ok)).trans (ev_newTup (by simp))
  have t3 : mN newTup (mLCons (mC (.str "go")) (mLCons (mC (.str "stay")) (mLCons (mC (.str "go")) mLNil))) env st = .ok (.tup [.str "go", .str "stay", .str "go"]) st := (mN_ok (l_cons c_ok (l_two c_ok c_ok))).trans (ev_newTup (by simp))
  exact (mN_ok (l_cons (c_ok (w := .non)) (l_cons (c_ok (w := .str "go")) (l_cons t1 (l_cons t3 (l_cons (tup_two c_ok c_ok) (l_cons (tup_two c_ok c_ok) (l_cons (tup_two c_ok c_ok) (l_cons d (l_cons (c_ok (w := .int 5)) (l_cons (tup_two c_ok (e _)) (l_cons (tup_two c_ok c_ok) (l_one l))))))))))))).trans (ev_newLst (by simp))
end K31

namespace K31
open PySem PySem.Spec PyProof.Rows L2 MM
abbrev mkC (a : Ad) : List W → S → R W := mMake a.Condition (M_Condition_init a)
def rfB (a : Ad) : MS := (mAsg (mN newTup (mLCons (mN (M__law_pick a) (mLCons (mVar 0) (mLCons (mVar 1) mLNil))) (mLCons (mN (M__law_pick a) (mLCons (mVar 0) (mLCons (mVar 1) mLNil))) (mLCons (mN newTup (mLCons (mC (.str "go")) (mLCons (mC (.str "-")) mLNil))) mLNil)))) (gT 3 (gsCons (gN 7) (gsCons (gN 4) (gsCons (gN 6) gsNil)))))
def rfC (a : Ad) : MS := (mAsg (mN newLst (mLCons (mLam (L__law_heard a) (mN (mkC a) (mLCons (mVar 6) (mLCons (mVar 7) (mLCons (mVar 4) mLNil))))) mLNil)) (gN 2))
abbrev rfApp (m : ME) : MS := (mExpr (mBM "list" gAppend (mVar 2) (mLCons m mLNil)))
def rfD (a : Ad) : ME := (mLam (L__law_heard a) (mN (mkC a) (mLCons (mVar 7) mLNil)))
def rfE (a : Ad) : ME := (mLam (L__law_heard a) (m2 (andX a) (mN (mkC a) (mLCons (mVar 6) mLNil)) (mVar 7)))
def rfLc (a : Ad) : ME := (mLc (mSrc rng1 (mLCons (mC (.int 40)) mLNil)) (gN 8) mYes (mN newTup (mLCons (m2 wAdd (mC (.str "e")) (mN (wStrX (mt1 a.Condition (M_Condition_str a))) (mLCons (mVar 8) mLNil))) (mLCons (mC (.str "go")) mLNil))) [8])
def rfF (a : Ad) : MS := (mAsg (mN (M__law_all a) (mLCons (rfLc a) mLNil)) (gN 5))
def rfG (a : Ad) : ME := (mLam (L__law_heard a) (m2 (andX a) (mVar 5) (mN (mkC a) (mLCons (mN newTup (mLCons (mC (.str "more")) (mLCons (mC (.str "go")) mLNil))) mLNil))))
def rfH (a : Ad) : ME := (mLam (L__law_heard a) (mCM a.Condition (M_Condition_from_text a) (mLCons (m2 wAdd (mN (wStrX (mt1 a.Condition (M_Condition_str a))) (mLCons (mVar 5) mLNil)) (mC (.str " ; more > go"))) mLNil)))
def rfI : MS := (mAsg (mN newLst (mLCons (mN newTup (mLCons (mC (.str "condition")) (mLCons (mC (.int 1)) mLNil))) (mLCons (mN newTup (mLCons (mC (.str "condition")) (mLCons (mC (.int 0)) mLNil))) (mLCons (mN newTup (mLCons (mC (.str "condition")) (mLCons (mC (.str "other")) mLNil))) (mLCons (mN newTup (mLCons (mC (.str "many")) (mLCons (mC (.str "pairs")) (mLCons (mC (.int 40)) mLNil)))) (mLCons (mN newTup (mLCons (mC (.str "many")) (mLCons (mC (.str "pairs")) (mLCons (mC (.int 40)) mLNil)))) mLNil)))))) (gN 3))
def rfJ (a : Ad) : ME := (mAndV (m2 wEq (mVar 2) (mVar 3)) (mAndV (m2 wEq (mN (wLenX (mt1 a.Condition (M_Condition_len a))) (mLCons (mVar 5) mLNil)) (mC (.int 40))) (mAndV (m2 (wEqX (isP a) (mt1 a.Condition (M_Condition_eq a))) (m2 (andX a) (mVar 5) (mVar 5)) (mVar 5)) (m2 wEq (mN (wLenX (mt1 a.Condition (M_Condition_len a))) (mLCons (m2 (andX a) (mVar 5) (mN (mkC a) (mLCons (mN newTup (mLCons (mC (.str "e3")) (mLCons (mC (.str "go")) mLNil))) mLNil))) mLNil)) (mC (.int 40))))))
theorem rf_parts (a : Ad) : b__law_refused_right a = mSeq (mAsg rfA (gN 1)) (mSeq (rfB a) (mSeq (rfC a) (mSeq (rfApp (rfD a)) (mSeq (rfApp (rfE a)) (mSeq (rfF a) (mSeq (rfApp (rfG a)) (mSeq (rfApp (rfH a)) (mSeq rfI (mRet (rfJ a)))))))))) := rfl
section
variable {a : Ad} (d : Dis a) {env : MM.Env} {st : S} {w6 w7 w4 : W} {c : Nat}
include d
theorem rf_c (v6 : env[6]? = some (some (pairW ("go", "-")))) (v7 : env[7]? = some (some w7)) (v4 : env[4]? = some (some w4)) (b7 : BadArg a st w7) : ∃ s, mLam (L__law_heard a) (mN (mkC a) (mLCons (mVar 6) (mLCons (mVar 7) (mLCons (mVar 4) mLNil)))) env st = .ok (.tup [.str "condition", .int 1]) s ∧ LeX [] st s := by
  have hg := oneB_ok eL_words.2.2.2 ("go", "-") (by simp)
  obtain ⟨s1, e1, l1⟩ := make_bad a [pairW ("go", "-"), w7, w4] (st.add (.lst [])) 1 (by simp) (by simp) (fun i hi h => by
    have : i = 0 := by omega
    subst this
    exact (arg_pair a _ hg).is) ((b7.mono le_add).is)
  exact heard_cond (mc := (mN (mkC a) (mLCons (mVar 6) (mLCons (mVar 7) (mLCons (mVar 4) mLNil)))) env) d ((mN_ok (l_cons (v_ok v6) (l_two (v_ok v7) (v_ok v4)))).trans e1) l1
theorem rf_d (v7 : env[7]? = some (some w7)) (b7 : BadArg a st w7) : ∃ s, rfD a env st = .ok (.tup [.str "condition", .int 0]) s ∧ LeX [] st s := by
  obtain ⟨s1, e1, l1⟩ := make_bad a [w7] (st.add (.lst [])) 0 (by simp) (by simp) (fun i hi h => by omega) ((b7.mono le_add).is)
  exact heard_cond (mc := (mN (mkC a) (mLCons (mVar 7) mLNil)) env) d ((mN_ok (l_one (v_ok v7))).trans e1) l1
theorem rf_e (v6 : env[6]? = some (some (pairW ("go", "-")))) (v7 : env[7]? = some (some w7)) (b7 : BadArg a st w7) : ∃ s, rfE a env st = .ok (.tup [.str "condition", .str "other"]) s ∧ LeX [] st s := by
  obtain ⟨s1, e1, l1, h1⟩ := make_pairs a goodL (st.add (.lst [])) (by simp) (oneB_ok eL_words.2.2.2)
  obtain ⟨x, k⟩ := b7.kd
  have k1 := k s1 (le_add.trans l1)
  have e2 := (bin_cond (g := M_Condition_and a) h1 k1 (.inl ⟨x, rfl⟩)).trans (cond_and_no a k1 rfl)
  exact heard_cond (mc := (m2 (andX a) (mN (mkC a) (mLCons (mVar 6) mLNil)) (mVar 7)) env) d ((m2_ok ((mN_ok (l_one (v_ok v6))).trans e1) (v_ok v7)).trans e2) l1
theorem rf_g (v5 : env[5]? = some (some (.ref c))) (hc : Has st c (Cond a eL)) : ∃ s, rfG a env st = .ok (.tup [.str "many", .str "pairs", .int 40]) s ∧ LeX [] st s := by
  obtain ⟨s1, e1, l1, h1⟩ := make_pairs a moreL (st.add (.lst [])) (by simp) (oneB_ok eL_words.2.1)
  have hc1 := l1.has0 (hc.add (o' := .lst []))
  have al : (andS eL moreL).length = 41 := by rw [eL_and.2.2, List.length_append, eL_len]; rfl
  obtain ⟨s2, e2, l2⟩ := cond_and_many a hc1 h1 (oneB_ok eL_words.1) (oneB_ok eL_words.2.1) (by simp) (by omega) (by omega)
  have e3 := (bin_cond (g := M_Condition_and a) hc1 (kind_cond h1) (.inr rfl)).trans e2
  exact heard_many (mc := (m2 (andX a) (mVar 5) (mN (mkC a) (mLCons (mN newTup (mLCons (mC (.str "more")) (mLCons (mC (.str "go")) mLNil))) mLNil))) env) d ((m2_ok (v_ok v5) ((mN_ok (l_one (tup_two c_ok c_ok))).trans e1)).trans e3) (l1.trans l2)
theorem rf_h (v5 : env[5]? = some (some (.ref c))) (hc : Has st c (Cond a eL)) : ∃ s, rfH a env st = .ok (.tup [.str "many", .str "pairs", .int 40]) s ∧ LeX [] st s := by
  have o := oneB_ok eL_words.1
  have ne : eL ++ moreL ≠ [] := by simp
  have o2 : WordsOk (eL ++ moreL) := fun p hp => by
    rcases List.mem_append.mp hp with h | h
    · exact o p h
    · exact oneB_ok eL_words.2.1 p h
  obtain ⟨s1, e1, l1⟩ := strX_cond (hc.add (o' := .lst [])) o (by rw [eL_len]; omega)
  have hw := words_text ne o2
  have l41 : (eL ++ moreL).length = 41 := by rw [List.length_append, eL_len]; rfl
  have hs := show_len o
  have ht := text_len o2
  have e2 := (m2_ok (f := wAdd) ((mN_ok (f := wStrX (mt1 a.Condition (M_Condition_str a))) (l_one (v_ok v5))).trans e1) (c_ok (w := .str " ; more > go"))).trans (ev_addS (by rw [show (" ; more > go" : Str).length = 12 by decide +kernel]; rw [eL_len] at hs; omega))
  rw [eL_text] at e2
  have hsh : showS (eL ++ moreL) = textS (eL ++ moreL) := by unfold showS; rw [if_neg ne]
  obtain ⟨s2, e3, l2⟩ := ft_many a (x := textS (eL ++ moreL)) (st := s1) (by rw [l41] at ht; omega) (by rw [← hsh]; exact okS_show o2) (text_ne_free ne o2) (by rw [hw]; exact flat_all ne o2) (by rw [hw, pairs_flat ne, l41]; omega)
  have e4 : (mCM a.Condition (M_Condition_from_text a) (mLCons (m2 wAdd (mN (wStrX (mt1 a.Condition (M_Condition_str a))) (mLCons (mVar 5) mLNil)) (mC (.str " ; more > go"))) mLNil)) env (st.add (.lst [])) = .exc a.TooMany [("most", .int 40), ("what", .str "pairs")] s2 := by
    unfold mCM
    rw [l_one e2, R.bind_ok]
    exact e3
  exact heard_many (mc := (mCM a.Condition (M_Condition_from_text a) (mLCons (m2 wAdd (mN (wStrX (mt1 a.Condition (M_Condition_str a))) (mLCons (mVar 5) mLNil)) (mC (.str " ; more > go"))) mLNil)) env) d e4 (l1.trans l2)
end
theorem app_ok {m : ME} {env : MM.Env} {s s1 : S} {r : Nat} {ws : List W} {w : W} (v2 : env[2]? = some (some (.ref r))) (h : Has s r (.lst ws)) (e : m env s = .ok w s1) (l : LeX [] s s1) (hl : ws.length ≤ 1000) : rfApp m env s = .nx env (s1.put r (.lst (ws ++ [w]))) := by
  have ht : tyW "list" (.ref r) s = true := by simp [tyW, h.2]
  refine expr_ok (w := .non) ((bm_ok (v_ok v2) ht (l_one e)).trans ?_)
  unfold gAppend
  dsimp only
  rw [(l.has0 h).lst]
  exact if_pos (by omega)
theorem str_small : ∀ i : Nat, i < 40 → (Str.ofString (toString (i : Int))).length ≤ 10 ∧ (i : Int).natAbs.log2 < 1920 := by decide +kernel
theorem e_len : ("e" : Str).length = 1 := by decide +kernel
theorem rf_lc (a : Ad) {env : MM.Env} {st : S} (h8 : 8 < env.length) : ∃ s, rfLc a env st = .ok (.ref st.sz) s ∧ LeX [] st s ∧ Has s st.sz (.lst (eL.map pairW)) := by
  obtain ⟨s', h1, h2, h3⟩ := lc_pureB (mi := mSrc rng1 (mLCons (mC (.int 40)) mLNil)) (g := gN 8) (mt := mYes) (me := mN newTup (mLCons (m2 wAdd (mC (.str "e")) (mN (wStrX (mt1 a.Condition (M_Condition_str a))) (mLCons (mVar 8) mLNil))) (mLCons (mC (.str "go")) mLNil))) (vs := [8]) (env := env) (st := st) (st0 := st) (src := srcR 0 1 40) (ws := (List.range 40).map fun (i : Nat) => W.int (i : Int)) (fun _ => true)
    (fun w => match w with | .int i => pairW (eW i, "go") | _ => .non) ((mSrc_ok (l_one c_ok)).trans (rng_one (j := 40) (by decide) st)) (by rw [List.length_map, List.length_range]; rfl) (by rw [List.length_map, List.length_range]; omega) (fun _ _ => rfl) (fun i s hi _ => by
      rw [List.length_map, List.length_range] at hi
      rw [List.getElem?_map, List.getElem?_range hi]
      show some (W.int (0 + (i : Int) * 1)) = some (W.int (i : Int))
      rw [show (0 + (i : Int) * 1) = (i : Int) by omega]) (by
      intro w hw s le
      obtain ⟨i, hi, rfl⟩ := List.mem_map.mp hw
      have hi := str_small i (List.mem_range.mp hi)
      refine ⟨(wipeE env [8]).set 8 (some (.int (i : Int))), rfl, s, rfl, .refl, fun s4 _ _ _ => ⟨s4, ?_, .refl⟩⟩
      have v8 : ((wipeE env [8]).set 8 (some (.int (i : Int))))[8]? = some (some (.int (i : Int))) := by
        rw [List.getElem?_set_self (by simpa [wipeE] using h8)]
      have e1 : wStrX (mt1 a.Condition (M_Condition_str a)) [.int (i : Int)] s4 = .ok (.str (Str.ofString (toString (i : Int)))) s4 := if_pos hi.2
      exact tup_two ((m2_ok c_ok ((mN_ok (l_one (v_ok v8))).trans e1)).trans (ev_addS (by rw [e_len]; omega))) c_ok)
  refine ⟨s', h1, h2, ?_⟩
  rw [List.filter_eq_self.mpr (fun _ _ => rfl), List.map_map] at h3
  have e : eL.map pairW = (List.range 40).map ((fun w => match w with | .int i => pairW (eW i, "go") | _ => .non) ∘ fun (i : Nat) => W.int (i : Int)) := by
    unfold eL
    rw [List.map_map]
    rfl
  rw [e]
  exact h3
theorem rf_f (a : Ad) {env : MM.Env} {st : S} (h8 : 8 < env.length) : ∃ c s, rfF a env st = .nx (env.set 5 (some (.ref c))) s ∧ LeX [] st s ∧ Has s c (Cond a eL) := by
  obtain ⟨s1, e1, l1, h1⟩ := rf_lc a (st := st) h8
  obtain ⟨c, s2, e2, l2, h2⟩ := all_run a h1 (oneB_ok eL_words.1) (by rw [eL_len]; exact Nat.le_refl _)
  rw [eL_once] at h2
  exact ⟨c, s2, nm_ok ((mN_ok (l_one e1)).trans e2), l1.trans l2, h2⟩
end K31

namespace K31
open PySem PySem.Spec PyProof.Rows L2 MM
def dueL : List W := [.tup [.str "condition", .int 1], .tup [.str "condition", .int 0], .tup [.str "condition", .str "other"], .tup [.str "many", .str "pairs", .int 40], .tup [.str "many", .str "pairs", .int 40]]
def dueD : PyData := .list [.tuple [.str "condition", .int 1], .tuple [.str "condition", .int 0], .tuple [.str "condition", .str "other"], .tuple [.str "many", .str "pairs", .int 40], .tuple [.str "many", .str "pairs", .int 40]]
theorem dueD_ok : SeqAt.shaped dueD = true ∧ PyData.eqv dueD dueD = true := by decide +kernel
theorem rd_due {s : S} {r : Nat} (h : Has s r (.lst dueL)) : rd 60 s (.ref r) = some dueD := by
  show (match s.get r with | some (.lst ws) => (ws.mapM (rd 59 s)).map PyData.list | _ => none) = _
  rw [h.2]
  rfl
theorem eq_due {s : S} {r q : Nat} (h : Has s r (.lst dueL)) (h2 : Has s q (.lst dueL)) : wEq (.ref r) (.ref q) s = .ok (.bl true) s := by
  rw [ev_eq (rd_due h) (rd_due h2) dueD_ok.1 dueD_ok.1, dueD_ok.2]
theorem rf_i {env : MM.Env} {st : S} : rfI env st = .nx (env.set 3 (some (.ref st.sz))) (st.add (.lst dueL)) := by
  have t3 : ∀ {x y z : W}, mN newTup (mLCons (mC x) (mLCons (mC y) (mLCons (mC z) mLNil))) env st = .ok (.tup [x, y, z]) st := (mN_ok (l_cons c_ok (l_two c_ok c_ok))).trans (ev_newTup (by simp))
  exact nm_ok ((mN_ok (l_cons (tup_two c_ok c_ok) (l_cons (tup_two c_ok c_ok) (l_cons (tup_two c_ok c_ok) (l_two t3 t3))))).trans (ev_newLst (by simp)))
theorem rf_j (a : Ad) {env : MM.Env} {st : S} {r q c : Nat} (v2 : env[2]? = some (some (.ref r))) (v3 : env[3]? = some (some (.ref q))) (v5 : env[5]? = some (some (.ref c))) (hr : Has st r (.lst dueL)) (hq : Has st q (.lst dueL)) (hc : Has st c (Cond a eL)) : ∃ s, rfJ a env st = .ok (.bl true) s ∧ LeX [] st s := by
  have o := oneB_ok eL_words.1
  have l40 := eL_len
  have q1 := (m2_ok (f := wEq) (v_ok v2) (v_ok v3)).trans (eq_due hr hq)
  have len40 : ∀ {s : S} {k : Nat}, Has s k (Cond a eL) → wLenX (mt1 a.Condition (M_Condition_len a)) [.ref k] s = .ok (.int 40) s := fun h => by
    rw [lenX_cond h (by omega), l40]
    rfl
  have q2 := (m2_ok (f := wEq) ((mN_ok (f := wLenX (mt1 a.Condition (M_Condition_len a))) (l_one (v_ok (st := st) v5))).trans (len40 hc)) (c_ok (w := .int 40))).trans ev_eqI
  rw [decide_eq_true rfl] at q2
  obtain ⟨k1, s1, e1, l1, h1⟩ := and_x a hc hc o o (by omega) (by rw [eL_and.1]; omega)
  rw [eL_and.1] at h1
  have hc1 := l1.has0 hc
  have e2 : wEqX (isP a) (mt1 a.Condition (M_Condition_eq a)) (.ref k1) (.ref c) s1 = .ok (.bl true) s1 := by
    rw [eqX_cond h1 (kind_cond hc1), cond_eq a h1 hc1 o o, decide_eq_true rfl]
    rfl
  have q3 := (m2_ok (f := wEqX (isP a) (mt1 a.Condition (M_Condition_eq a))) ((m2_ok (f := andX a) (v_ok v5) (v_ok v5)).trans e1) (v_ok v5)).trans e2
  obtain ⟨s2, e3, l2, h3⟩ := make_pairs a e3L s1 (by simp) (oneB_ok eL_words.2.2.1)
  obtain ⟨k4, s4, e4, l4, h4⟩ := and_x a (l2.has0 hc1) h3 o (oneB_ok eL_words.2.2.1) (by simp) (by rw [eL_and.2.1]; omega)
  rw [eL_and.2.1] at h4
  have q4 := (m2_ok (f := wEq) ((mN_ok (f := wLenX (mt1 a.Condition (M_Condition_len a))) (l_one ((m2_ok (f := andX a) (v_ok v5) ((mN_ok (f := mkC a) (l_one (tup_two c_ok c_ok))).trans e3)).trans e4))).trans (len40 h4)) (c_ok (w := .int 40))).trans ev_eqI
  rw [decide_eq_true rfl] at q4
  exact ⟨s4, andV_t q1 (andV_t q2 (andV_t q3 q4)), (l1.trans l2).trans l4⟩
structure Ctx (dz lz n m k : Nat) (s : S) : Prop where
  hd : Has s dz (.dic [])
  hl : Has s lz (.lst [.str "go", .int 7])
  pen : Pen s n m k
section
variable {dz lz n m k : Nat} {s s' : S}
theorem Ctx.mono (h : Ctx dz lz n m k s) (l : LeX [] s s') : Ctx dz lz n m k s' := ⟨l.has0 h.hd, l.has0 h.hl, h.pen.mono l⟩
theorem Ctx.put {r : Nat} {o : O} (h : Ctx dz lz n m k s) (h1 : dz < r) (h2 : lz < r) (h3 : n < r) (h4 : m < r) : Ctx dz lz n m k (s.put r o) := ⟨h.hd.put (by omega), h.hl.put (by omega), h.pen.put (by omega) (by omega)⟩
theorem Ctx.bad {a : Ad} {w : W} (h : Ctx dz lz n m k s) (hw : w ∈ badL dz lz) : BadArg a s w := bad_all h.hd h.hl w hw
end
theorem refused_right (a : Ad) (d : Dis a) {n m k : Nat} {st : S} (hpen : Pen st n m k) (hk : k + 2 ≤ 90000) :
    ∃ s, M__law_refused_right a [.ref n] st = .ok (.bl true) s ∧ LeX [n] st s ∧ Pen s n m (k + 2) := by
  have start : M__law_refused_right a [.ref n] st = ((mSeq (mAsg rfA (gN 1)) (mSeq (rfB a) (mSeq (rfC a) (mSeq (rfApp (rfD a)) (mSeq (rfApp (rfE a)) (mSeq (rfF a) (mSeq (rfApp (rfG a)) (mSeq (rfApp (rfH a)) (mSeq rfI (mRet (rfJ a))))))))))) [some (.ref n), none, none, none, none, none, none, none, none] st).call := by
    unfold M__law_refused_right
    rw [fill_def (by simp), rf_parts]
    rfl
  have hlt := hpen.lt
  have f1 : (mAsg rfA (gN 1)) [some (.ref n), none, none, none, none, none, none, none, none] st = _ := nm_ok rf_a
  generalize hdz : st.sz = dz at *
  generalize hlz : (st.add (.dic [])).sz = lz at *
  have hlz' : lz = dz + 1 := by rw [← hlz, add_sz, hdz]
  have hd0 : Has (((st.add (.dic [])).add (.lst [.str "go", .int 7])).add (.lst (badL dz lz))) dz (.dic []) := by rw [← hdz]; exact (has_add.add).add
  have hl0 : Has (((st.add (.dic [])).add (.lst [.str "go", .int 7])).add (.lst (badL dz lz))) lz (.lst [.str "go", .int 7]) := by rw [← hlz]; exact has_add.add
  have hq0 : Has (((st.add (.dic [])).add (.lst [.str "go", .int 7])).add (.lst (badL dz lz))) ((st.add (.dic [])).add (.lst [.str "go", .int 7])).sz (.lst (badL dz lz)) := has_add
  have hqz : ((st.add (.dic [])).add (.lst [.str "go", .int 7])).sz = dz + 2 := by rw [add_sz, hlz, hlz']
  rw [hqz] at f1 hq0
  have l0 : LeX [] st (((st.add (.dic [])).add (.lst [.str "go", .int 7])).add (.lst (badL dz lz))) := (le_add.trans le_add).trans le_add
  have pen0 := hpen.mono l0
  have hsz : (((st.add (.dic [])).add (.lst [.str "go", .int 7])).add (.lst (badL dz lz))).sz = dz + 3 := by rw [add_sz, hqz]
  generalize (((st.add (.dic [])).add (.lst [.str "go", .int 7])).add (.lst (badL dz lz))) = t0 at *
  obtain ⟨i, hi, s1, e1, l1, p1⟩ := pick_run a pen0 (by omega) hq0 (by omega) (by simp [badL]) (by simp [badL])
  obtain ⟨j, hj, s2, e2, l2, p2⟩ := pick_run a p1 (by omega) (l1.has hq0 (by simp; omega)) (by omega) (by simp [badL]) (by simp [badL])
  have m1 := List.getElem_mem hi
  have m2' := List.getElem_mem hj
  generalize (badL dz lz)[i] = w7 at *
  generalize (badL dz lz)[j] = w4 at *
  have l12 := l1.trans l2
  have c2 : Ctx dz lz n m (k + 2) s2 := ⟨l12.has hd0 (by simp; omega), l12.has hl0 (by simp; omega), p2⟩
  have z2 : dz + 3 ≤ s2.sz := by have := l12.1; omega
  have f2 : rfB a [some (.ref n), some (.ref (dz + 2)), none, none, none, none, none, none, none] t0 = .nx [some (.ref n), some (.ref (dz + 2)), none, none, some w4, none, some (pairW ("go", "-")), some w7, none] s2 := by
    have e := (mN_ok (f := newTup) (l_cons ((mN_ok (f := M__law_pick a) (l_two (v_ok (i := 0) (env := [some (.ref n), some (.ref (dz + 2)), none, none, none, none, none, none, none]) rfl) (v_ok (i := 1) rfl))).trans e1) (l_two ((mN_ok (f := M__law_pick a) (l_two (v_ok (i := 0) rfl) (v_ok (i := 1) rfl))).trans e2) (tup_two (c_ok (w := .str "go")) (c_ok (w := .str "-")))))).trans (ev_newTup (by simp))
    unfold rfB mAsg
    rw [e]
    rfl
  obtain ⟨s3, e3, l3⟩ := rf_c d (env := [some (.ref n), some (.ref (dz + 2)), none, none, some w4, none, some (pairW ("go", "-")), some w7, none]) rfl rfl rfl (c2.bad m1)
  have f3 : rfC a [some (.ref n), some (.ref (dz + 2)), none, none, some w4, none, some (pairW ("go", "-")), some w7, none] s2 = .nx [some (.ref n), some (.ref (dz + 2)), some (.ref s3.sz), none, some w4, none, some (pairW ("go", "-")), some w7, none] (s3.add (.lst [.tup [.str "condition", .int 1]])) := nm_ok ((mN_ok (l_one e3)).trans (ev_newLst (by simp)))
  have z3 : dz + 3 ≤ s3.sz := by have := l3.1; omega
  have h3 : Has (s3.add (.lst [.tup [.str "condition", .int 1]])) s3.sz (.lst [.tup [.str "condition", .int 1]]) := has_add
  have c3 := c2.mono (l3.trans (le_add (o := .lst [.tup [.str "condition", .int 1]])))
  have lA : LeX [n] st (s3.add (.lst [.tup [.str "condition", .int 1]])) := (l0.of0.trans l12).trans (l3.trans le_add).of0
  generalize hr : s3.sz = r at *
  generalize (s3.add (.lst [.tup [.str "condition", .int 1]])) = t3 at *
  have rst : st.sz ≤ r := by omega
  obtain ⟨s4, e4, l4⟩ := rf_d d (env := [some (.ref n), some (.ref (dz + 2)), some (.ref r), none, some w4, none, some (pairW ("go", "-")), some w7, none]) rfl (c3.bad m1)
  have f4 := app_ok (env := [some (.ref n), some (.ref (dz + 2)), some (.ref r), none, some w4, none, some (pairW ("go", "-")), some w7, none]) rfl h3 e4 l4 (by simp)
  have c4 := (c3.mono l4).put (r := r) (o := .lst ([.tup [.str "condition", .int 1]] ++ [.tup [.str "condition", .int 0]])) (by omega) (by omega) (by omega) (by omega)
  have h4 : Has (s4.put r (.lst ([.tup [.str "condition", .int 1]] ++ [.tup [.str "condition", .int 0]]))) r (.lst ([.tup [.str "condition", .int 1]] ++ [.tup [.str "condition", .int 0]])) := has_put (l4.has0 h3).1
  have lB : LeX [n] st (s4.put r (.lst ([.tup [.str "condition", .int 1]] ++ [.tup [.str "condition", .int 0]]))) := le_put (.inr rst) (lA.trans l4.of0)
  generalize (s4.put r (.lst ([.tup [.str "condition", .int 1]] ++ [.tup [.str "condition", .int 0]]))) = t4 at *
  obtain ⟨s5, e5, l5⟩ := rf_e d (env := [some (.ref n), some (.ref (dz + 2)), some (.ref r), none, some w4, none, some (pairW ("go", "-")), some w7, none]) rfl rfl (c4.bad m1)
  have f5 := app_ok (env := [some (.ref n), some (.ref (dz + 2)), some (.ref r), none, some w4, none, some (pairW ("go", "-")), some w7, none]) rfl h4 e5 l5 (by simp)
  have c5 := (c4.mono l5).put (r := r) (o := .lst ([.tup [.str "condition", .int 1]] ++ [.tup [.str "condition", .int 0]] ++ [.tup [.str "condition", .str "other"]])) (by omega) (by omega) (by omega) (by omega)
  have h5 : Has (s5.put r (.lst ([.tup [.str "condition", .int 1]] ++ [.tup [.str "condition", .int 0]] ++ [.tup [.str "condition", .str "other"]]))) r (.lst ([.tup [.str "condition", .int 1]] ++ [.tup [.str "condition", .int 0]] ++ [.tup [.str "condition", .str "other"]])) := has_put (l5.has0 h4).1
  have lC : LeX [n] st (s5.put r (.lst ([.tup [.str "condition", .int 1]] ++ [.tup [.str "condition", .int 0]] ++ [.tup [.str "condition", .str "other"]]))) := le_put (.inr rst) (lB.trans l5.of0)
  generalize (s5.put r (.lst ([.tup [.str "condition", .int 1]] ++ [.tup [.str "condition", .int 0]] ++ [.tup [.str "condition", .str "other"]]))) = t5 at *
  obtain ⟨c, s6, f6, l6, hc6⟩ := rf_f a (env := [some (.ref n), some (.ref (dz + 2)), some (.ref r), none, some w4, none, some (pairW ("go", "-")), some w7, none]) (st := t5) (by simp)
  have f6' : rfF a [some (.ref n), some (.ref (dz + 2)), some (.ref r), none, some w4, none, some (pairW ("go", "-")), some w7, none] t5 = .nx [some (.ref n), some (.ref (dz + 2)), some (.ref r), none, some w4, some (.ref c), some (pairW ("go", "-")), some w7, none] s6 := f6
  have h6 := l6.has0 h5
  have c6 := c5.mono l6
  have lD := lC.trans l6.of0
  have ncr : c ≠ r := by
    rintro rfl
    cases h6.inj hc6
  obtain ⟨s7, e7, l7⟩ := rf_g d (env := [some (.ref n), some (.ref (dz + 2)), some (.ref r), none, some w4, some (.ref c), some (pairW ("go", "-")), some w7, none]) rfl hc6
  have f7 := app_ok (env := [some (.ref n), some (.ref (dz + 2)), some (.ref r), none, some w4, some (.ref c), some (pairW ("go", "-")), some w7, none]) rfl h6 e7 l7 (by simp)
  have hc7 := (l7.has0 hc6).put (o' := .lst ([.tup [.str "condition", .int 1]] ++ [.tup [.str "condition", .int 0]] ++ [.tup [.str "condition", .str "other"]] ++ [.tup [.str "many", .str "pairs", .int 40]])) ncr
  have c7 := (c6.mono l7).put (r := r) (o := .lst ([.tup [.str "condition", .int 1]] ++ [.tup [.str "condition", .int 0]] ++ [.tup [.str "condition", .str "other"]] ++ [.tup [.str "many", .str "pairs", .int 40]])) (by omega) (by omega) (by omega) (by omega)
  have h7 : Has (s7.put r (.lst ([.tup [.str "condition", .int 1]] ++ [.tup [.str "condition", .int 0]] ++ [.tup [.str "condition", .str "other"]] ++ [.tup [.str "many", .str "pairs", .int 40]]))) r (.lst ([.tup [.str "condition", .int 1]] ++ [.tup [.str "condition", .int 0]] ++ [.tup [.str "condition", .str "other"]] ++ [.tup [.str "many", .str "pairs", .int 40]])) := has_put (l7.has0 h6).1
  have lE : LeX [n] st (s7.put r (.lst ([.tup [.str "condition", .int 1]] ++ [.tup [.str "condition", .int 0]] ++ [.tup [.str "condition", .str "other"]] ++ [.tup [.str "many", .str "pairs", .int 40]]))) := le_put (.inr rst) (lD.trans l7.of0)
  generalize (s7.put r (.lst ([.tup [.str "condition", .int 1]] ++ [.tup [.str "condition", .int 0]] ++ [.tup [.str "condition", .str "other"]] ++ [.tup [.str "many", .str "pairs", .int 40]]))) = t7 at *
  obtain ⟨s8, e8, l8⟩ := rf_h d (env := [some (.ref n), some (.ref (dz + 2)), some (.ref r), none, some w4, some (.ref c), some (pairW ("go", "-")), some w7, none]) rfl hc7
  have f8 := app_ok (env := [some (.ref n), some (.ref (dz + 2)), some (.ref r), none, some w4, some (.ref c), some (pairW ("go", "-")), some w7, none]) rfl h7 e8 l8 (by simp)
  have f8' : rfApp (rfH a) [some (.ref n), some (.ref (dz + 2)), some (.ref r), none, some w4, some (.ref c), some (pairW ("go", "-")), some w7, none] t7 = .nx [some (.ref n), some (.ref (dz + 2)), some (.ref r), none, some w4, some (.ref c), some (pairW ("go", "-")), some w7, none] (s8.put r (.lst dueL)) := f8
  have hc8 := (l8.has0 hc7).put (o' := .lst dueL) ncr
  have c8 := (c7.mono l8).put (r := r) (o := .lst dueL) (by omega) (by omega) (by omega) (by omega)
  have h8 : Has (s8.put r (.lst dueL)) r (.lst dueL) := has_put (l8.has0 h7).1
  have lF : LeX [n] st (s8.put r (.lst dueL)) := le_put (.inr rst) (lE.trans l8.of0)
  generalize (s8.put r (.lst dueL)) = t8 at *
  obtain ⟨s9, e9, l9⟩ := rf_j a (env := [some (.ref n), some (.ref (dz + 2)), some (.ref r), some (.ref t8.sz), some w4, some (.ref c), some (pairW ("go", "-")), some w7, none]) rfl rfl rfl (h8.add (o' := .lst dueL)) has_add hc8.add
  refine ⟨s9, start.trans (call_rt ((seq_nx f1).trans ((seq_nx f2).trans ((seq_nx f3).trans ((seq_nx f4).trans ((seq_nx f5).trans ((seq_nx f6').trans ((seq_nx f7).trans ((seq_nx f8').trans ((seq_nx rf_i).trans (ret_ok e9))))))))))), (lF.trans le_add).trans l9.of0, c8.pen.mono (le_add.trans l9)⟩
end K31

namespace K31
open PySem PySem.Spec PyProof.Rows L2 MM
abbrev lenv (w0 : W) (n : Nat) (o2 o3 o4 o5 o6 o7 o8 o9 o10 : Option W) : MM.Env := [some w0, some (.ref n), o2, o3, o4, o5, o6, o7, o8, o9, o10, none, none, none, none, none]
section
variable (a : Ad) {w0 : W} {n p3 p4 c5 c6 : Nat} {ps qs : List (Str × Str)} {st : S} {o2 o3 o4 o5 o6 o7 o8 o9 o10 : Option W}
def lwOne (a : Ad) : ME := (mIf (neNil 3) (m2 ixW (mN (M__law_read a) (mLCons (lnText 3 14 15) mLNil)) (mC (.int 0))) (mN (mkC a) mLNil))
theorem lw_one (h3 : Has st p3 (.lst (ps.map pairW))) (o : WordsOk ps) (hl : ps.length ≤ 40) : ∃ c s, lwOne a (lenv w0 n o2 (some (.ref p3)) o4 o5 o6 o7 o8 o9 o10) st = .ok (.ref c) s ∧ LeX [] st s ∧ Has s c (Cond a ps) := by
  have t := ne_nil (env := lenv w0 n o2 (some (.ref p3)) o4 o5 o6 o7 o8 o9 o10) (v := 3) rfl h3 o
  by_cases h : ps = []
  · rw [decide_eq_true h] at t
    obtain ⟨s1, e1, l1, h1⟩ := make_pairs a [] (st.add (.lst [])) (by simp) .nil
    subst h
    exact ⟨_, s1, ie_f t ((mN_ok l_nil).trans e1), le_add.trans l1, h1⟩
  · rw [decide_eq_false h] at t
    obtain ⟨s1, e1, l1⟩ := ln_text (st := st.add (.lst [])) (env := lenv w0 n o2 (some (.ref p3)) o4 o5 o6 o7 o8 o9 o10) (v := 3) (i := 14) (j := 15) rfl (by simp) (by simp) (by decide) h3.add o (by omega)
    obtain ⟨q, c, s2, e2, l2, hq, hc⟩ := read_show (a := a) (st := s1) o hl
    rw [show showS ps = textS ps by unfold showS; rw [if_neg h]] at e2
    exact ⟨c, s2, ie_t t ((m2_ok ((mN_ok (l_one e1)).trans e2) c_ok).trans (ix_l0 hq)), (le_add.trans l1).trans l2, hc⟩
def lwT3 (a : Ad) : MB := (mOrB (mT asB (m2 wNe (mN wList (mLCons (m1 (getA [a.Condition] [] "pairs") (mVar 5)) mLNil)) (mVar 3))) (mOrB (mNotB (mT truth (mN (wIsi (isP a)) (mLCons (m1 (getA [a.Condition] [] "pairs") (mVar 5)) (mLCons (mC (.ty "tuple")) mLNil))))) (mOrB (mT asB (m2 wNe (mN wRepr (mLCons (mN (wLenX (mt1 a.Condition (M_Condition_len a))) (mLCons (mVar 5) mLNil)) mLNil)) (mN wRepr (mLCons (mN wLen (mLCons (mVar 3) mLNil)) mLNil)))) (mT asB (m2 wNotBl (mN (wBoolX (mt1 a.Condition (M_Condition_bool a))) (mLCons (mVar 5) mLNil)) (mC (.bl true)))))))
theorem okS_num : ∀ i : Nat, i < 50 → okS (Str.ofString (toString (i : Int))) := by
  unfold okS
  decide +kernel
theorem ls_pairs {env : MM.Env} {v u c p : Nat} (vv : env[v]? = some (some (.ref c))) (vu : env[u]? = some (some (.ref p))) (hc : Has st c (Cond a ps)) (hp : Has st p (.lst (qs.map pairW))) (o1 : WordsOk ps) (o2 : WordsOk qs) :
    mT asB (m2 wNe (mN wList (mLCons (m1 (getA [a.Condition] [] "pairs") (mVar v)) mLNil)) (mVar u)) env st = .ok (!decide (ps = qs)) (st.add (.lst (ps.map pairW))) :=
  (mT_ok ((m2_ok ((mN_ok (l_one ((m1_ok (v_ok vv)).trans (get_pairs hc)))).trans list_tup) (v_ok vu)).trans (ne_pairs has_add hp.add o1 o2))).trans asB_ok
theorem lw_t3 (h3 : Has st p3 (.lst (ps.map pairW))) (hc : Has st c5 (Cond a ps)) (o : WordsOk ps) (hl : ps.length ≤ 40) : ∃ s, lwT3 a (lenv w0 n o2 (some (.ref p3)) o4 (some (.ref c5)) o6 o7 o8 o9 o10) st = .ok false s ∧ LeX [] st s := by
  have t1 := ls_pairs a (env := lenv w0 n o2 (some (.ref p3)) o4 (some (.ref c5)) o6 o7 o8 o9 o10) (v := 5) (u := 3) rfl rfl hc h3 o o
  rw [decide_eq_true rfl] at t1
  have h3' := h3.add (o' := .lst (ps.map pairW))
  have hc' := hc.add (o' := .lst (ps.map pairW))
  have l1 : LeX [] st (st.add (.lst (ps.map pairW))) := le_add
  generalize (st.add (.lst (ps.map pairW))) = s1 at *
  have i := isi_ty (a := a) (kind_tup (a := a) (ws := ps.map pairW) (st := s1)) (n := "tuple") (by simp)
  have t2 := not_ok ((mT_ok (f := truth) ((mN_ok (l_two ((m1_ok (v_ok (i := 5) (st := s1) (env := lenv w0 n o2 (some (.ref p3)) o4 (some (.ref c5)) o6 o7 o8 o9 o10) rfl)).trans (get_pairs hc')) (c_ok (w := .ty "tuple")))).trans i)).trans tr_ok)
  have t2' : (!Tg.beq (.ty "tuple") (.ty "tuple")) = false := rfl
  rw [t2'] at t2
  have len := ev_lenL h3'
  rw [List.length_map] at len
  have ok := okS_num ps.length (by omega)
  have r1 := (mN_ok (f := wRepr) (l_one ((mN_ok (f := wLenX (mt1 a.Condition (M_Condition_len a))) (l_one (v_ok (i := 5) (st := s1) (env := lenv w0 n o2 (some (.ref p3)) o4 (some (.ref c5)) o6 o7 o8 o9 o10) rfl))).trans (lenX_cond hc' (by omega))))).trans (repr_int (by omega))
  have r2 := (mN_ok (f := wRepr) (l_one ((mN_ok (f := wLen) (l_one (v_ok (i := 3) (st := s1) (env := lenv w0 n o2 (some (.ref p3)) o4 (some (.ref c5)) o6 o7 o8 o9 o10) rfl))).trans len))).trans (repr_int (by omega))
  have t3 := (mT_ok (f := asB) ((m2_ok (f := wNe) r1 r2).trans (ev_neS ok ok))).trans asB_ok
  rw [decide_eq_true rfl] at t3
  have b1 := (mN_ok (f := wBoolX (mt1 a.Condition (M_Condition_bool a))) (l_one (v_ok (i := 5) (st := s1) (env := lenv w0 n o2 (some (.ref p3)) o4 (some (.ref c5)) o6 o7 o8 o9 o10) rfl))).trans (boolX_cond hc')
  have nb : wNotBl (.bl true) (.bl true) s1 = .ok (.bl false) s1 := rfl
  have t4 := (mT_ok (f := asB) ((m2_ok (f := wNotBl) b1 (c_ok (w := .bl true))).trans nb)).trans asB_ok
  exact ⟨s1, or_f t1 (or_f t2 (or_f t3 t4)), l1⟩
def lwDueLc : ME := (mLc (mSrc enumW (mLCons (mVar 4) mLNil)) (gA 2 (gsCons (gN 13) (gsCons (gN 7) gsNil))) (mT asB (m2 wNotIn (mVar 7) (mVar 3))) (mVar 7) [13, 7])
def lwDue : MS := mAsg (m2 wAdd (mVar 3) lwDueLc) (gN 8)
theorem lw_due_lc (h3 : Has st p3 (.lst (ps.map pairW))) (h4 : Has st p4 (.lst (qs.map pairW))) (o : WordsOk ps) (oq : WordsOk qs) (hl : qs.length ≤ 1000) :
    ∃ s, lwDueLc (lenv w0 n o2 (some (.ref p3)) (some (.ref p4)) o5 o6 o7 o8 o9 o10) st = .ok (.ref st.sz) s ∧ LeX [] st s ∧ Has s st.sz (.lst ((qs.filter fun q => !decide (q ∈ ps)).map pairW)) := by
  have key := lc_ok (mi := mSrc enumW (mLCons (mVar 4) mLNil)) (g := gA 2 (gsCons (gN 13) (gsCons (gN 7) gsNil))) (mt := mT asB (m2 wNotIn (mVar 7) (mVar 3))) (me := mVar 7) (vs := [13, 7]) (env := lenv w0 n o2 (some (.ref p3)) (some (.ref p4)) o5 o6 o7 o8 o9 o10) (st := st) (st0 := st) (src := srcEL p4 (qs.map pairW).length)
    (fun i s acc => LeX [] st s ∧ acc = ((qs.take i).filter fun q => !decide (q ∈ ps)).map pairW) (enum_lst (i := 4) rfl h4) ⟨le_add, by simp⟩ (by
      rintro i s acc hi ⟨le, rfl⟩ hd
      have hi0 : i < (qs.map pairW).length := hi
      have hi2 : i < qs.length := by rwa [List.length_map] at hi0
      obtain ⟨ok, at_⟩ := lst_at h4 le
      have et : qs.take (i + 1) = qs.take i ++ [qs[i]] := by rw [List.take_succ, List.getElem?_eq_getElem hi2]; rfl
      have ni := notIn_pairsL (q := qs[i]) (le.has0 h3) (oq _ (List.getElem_mem hi2)) o
      refine ⟨ok, _, [some w0, some (.ref n), o2, some (.ref p3), some (.ref p4), o5, o6, some (pairW qs[i]), o8, o9, o10, none, none, some (.int i), none, none], s, at_ i hi0, by rw [List.getElem_map]; rfl, ?_⟩
      have t := (mT_ok (f := asB) ((m2_ok (f := wNotIn) (v_ok (i := 7) (env := [some w0, some (.ref n), o2, some (.ref p3), some (.ref p4), o5, o6, some (pairW qs[i]), o8, o9, o10, none, none, some (.int i), none, none]) rfl) (v_ok (i := 3) rfl)).trans ni)).trans asB_ok
      by_cases hm : qs[i] ∈ ps
      · rw [decide_eq_true hm] at t
        refine .inl ⟨s, t, hd, le, ?_⟩
        rw [et, List.filter_append, List.map_append]
        simp [hm]
      · rw [decide_eq_false hm] at t
        refine .inr ⟨s, pairW qs[i], s, t, v_ok rfl, hd, le_put (.inr (Nat.le_refl _)) le, ?_⟩
        rw [et, List.filter_append, List.map_append]
        simp [hm]) (fun s acc ⟨le, _⟩ _ => (lst_at h4 le).1) (by show (qs.map pairW).length ≤ 1000000; rw [List.length_map]; omega)
  obtain ⟨s', acc', e, ⟨l, rfl⟩, h⟩ := key
  refine ⟨s', e, l, ?_⟩
  rwa [show (srcEL p4 (qs.map pairW).length).n = qs.length from List.length_map _, List.take_length] at h
theorem lw_due (h3 : Has st p3 (.lst (ps.map pairW))) (h4 : Has st p4 (.lst (qs.map pairW))) (o : WordsOk ps) (oq : WordsOk qs) (hl : qs.length ≤ 1000) (hl2 : ps.length ≤ 1000) :
    ∃ r s, lwDue (lenv w0 n o2 (some (.ref p3)) (some (.ref p4)) o5 o6 o7 o8 o9 o10) st = .nx (lenv w0 n o2 (some (.ref p3)) (some (.ref p4)) o5 o6 o7 (some (.ref r)) o9 o10) s ∧ LeX [] st s ∧ Has s r (.lst ((andS ps qs).map pairW)) := by
  obtain ⟨s1, e1, l1, h1⟩ := lw_due_lc (w0 := w0) (n := n) (o2 := o2) (o5 := o5) (o6 := o6) (o7 := o7) (o8 := o8) (o9 := o9) (o10 := o10) h3 h4 o oq hl
  have fl := List.length_filter_le (fun q => !decide (q ∈ ps)) qs
  have e2 := add_lst (l1.has0 h3) h1 (by rw [List.length_map, List.length_map]; omega)
  rw [← List.map_append] at e2
  exact ⟨s1.sz, _, nm_ok ((m2_ok (v_ok rfl) e1).trans e2), l1.trans le_add, has_add⟩
def lwOnce : MS := mFor (mIter (mVar 4)) (gN 7) (mAsg (m2 wAdd (mVar 10) (m2 wMul (mN newLst (mLCons (mVar 7) mLNil)) (mN wInt (mLCons (m2 wNotIn (mVar 7) (mVar 10)) mLNil)))) (gN 10))
theorem and_one {ps : List (Str × Str)} {p : Str × Str} : (andS ps [p]) = ps ++ (if (!decide (p ∈ ps)) = true then [p] else []) := by
  unfold andS
  by_cases h : p ∈ ps <;> simp [h]
theorem lw_once {r : Nat} (h4 : Has st p4 (.lst (qs.map pairW))) (hr : Has st r (.lst [])) (oq : WordsOk qs) (hl : qs.length ≤ 1000) :
    ∃ r' u7 s, lwOnce (lenv w0 n o2 o3 (some (.ref p4)) o5 o6 o7 o8 o9 (some (.ref r))) st = .nx (lenv w0 n o2 o3 (some (.ref p4)) o5 o6 u7 o8 o9 (some (.ref r'))) s ∧ LeX [] st s ∧ Has s r' (.lst ((onceS qs).map pairW)) := by
  unfold lwOnce
  refine for_ok (I := fun i env s => ∃ r' u7, env = lenv w0 n o2 o3 (some (.ref p4)) o5 o6 u7 o8 o9 (some (.ref r')) ∧ LeX [] st s ∧ Has s r' (.lst ((onceS (qs.take i)).map pairW))) (Q := fun z => ∃ r' u7 s, z = .nx (lenv w0 n o2 o3 (some (.ref p4)) o5 o6 u7 o8 o9 (some (.ref r'))) s ∧ LeX [] st s ∧ Has s r' (.lst ((onceS qs).map pairW)))
    (MM.iter_lst rfl h4) ⟨r, o7, rfl, .refl, hr⟩ ?_ ?_
  · rintro i env s hi ⟨r', u7, rfl, le, h⟩
    have hi0 : i < (qs.map pairW).length := hi
    have hi2 : i < qs.length := by rwa [List.length_map] at hi0
    obtain ⟨k1, k2⟩ := MM.lstL_at h4 le
    have ho := once_ok (oq.take i)
    have tl : (qs.take i).length ≤ i := by rw [List.length_take]; omega
    have e1 := (mN_ok (f := newLst) (l_one (v_ok (i := 7) (st := s) (w := pairW qs[i]) (env := lenv w0 n o2 o3 (some (.ref p4)) o5 o6 (some (pairW qs[i])) o8 o9 (some (.ref r'))) rfl))).trans (ev_newLst (by simp))
    have h' := h.add (o' := .lst [pairW qs[i]])
    have e2 := (mN_ok (f := wInt) (l_one ((m2_ok (f := wNotIn) (v_ok (i := 7) (st := s.add (.lst [pairW qs[i]])) (w := pairW qs[i]) (env := lenv w0 n o2 o3 (some (.ref p4)) o5 o6 (some (pairW qs[i])) o8 o9 (some (.ref r'))) rfl) (v_ok (i := 10) rfl)).trans (notIn_pairsL h' (oq _ (List.getElem_mem hi2)) ho.1)))).trans ev_intB
    have e3 := (m2_ok (f := wMul) e1 e2).trans (mul01 (has_add (s := s) (o := .lst [pairW qs[i]])) (by simp))
    have em : (if (!decide (qs[i] ∈ onceS (qs.take i))) = true then [pairW qs[i]] else []) = (if (!decide (qs[i] ∈ onceS (qs.take i))) = true then [qs[i]] else []).map pairW := by
      split <;> rfl
    rw [em] at e3
    have ml : (if (!decide (qs[i] ∈ onceS (qs.take i))) = true then [qs[i]] else []).length ≤ 1 := by split <;> simp
    have e4 := (m2_ok (f := wAdd) (v_ok (i := 10) (st := s) (env := lenv w0 n o2 o3 (some (.ref p4)) o5 o6 (some (pairW qs[i])) o8 o9 (some (.ref r'))) rfl) e3).trans (add_lst (h'.add) has_add (by rw [List.length_map, List.length_map]; omega))
    rw [← List.map_append, ← and_one, ← once_take hi2] at e4
    exact ⟨k1, _, lenv w0 n o2 o3 (some (.ref p4)) o5 o6 (some (pairW qs[i])) o8 o9 (some (.ref r')), s, by rw [k2, List.getElem?_map, List.getElem?_eq_getElem hi2]; rfl, rfl, .inl ⟨_, _, nm_ok e4, _, _, rfl, ((le.trans le_add).trans le_add).trans le_add, has_add⟩⟩
  · rintro env s ⟨r', u7, rfl, le, h⟩
    refine ⟨(MM.lstL_at h4 le).1, r', u7, s, rfl, le, ?_⟩
    rwa [show (srcL p4 (qs.map pairW).length).n = qs.length from List.length_map _, List.take_length] at h
end
end K31

namespace K31
open PySem PySem.Spec PyProof.Rows L2 MM
theorem fold_filter (f : Str × Str → Bool) : ∀ ps acc : List (Str × Str), ((ps.foldl (fun acc p => andS acc [p]) acc).filter f).length ≤ (acc.filter f).length + (ps.filter f).length
  | [], acc => Nat.le_add_right _ _
  | p :: ps, acc => by
    have ih := fold_filter f ps (andS acc [p])
    rw [List.foldl_cons]
    have h : ((andS acc [p]).filter f).length + (ps.filter f).length ≤ (acc.filter f).length + ((p :: ps).filter f).length := by
      rw [and_one, List.filter_append, List.length_append, List.filter_cons]
      by_cases hf : f p = true
      · simp only [hf, if_true, List.length_cons]
        by_cases hm : p ∈ acc <;> simp [hm, hf] <;> omega
      · have hf : f p = false := by simpa using hf
        by_cases hm : p ∈ acc <;> simp [hm, hf]
    omega
theorem once_filter (f : Str × Str → Bool) (ps : List (Str × Str)) : ((onceS ps).filter f).length ≤ (ps.filter f).length := by
  have := fold_filter f ps []
  unfold onceS
  simpa using this
section
variable (a : Ad) {w0 : W} {n p3 p4 p8 p10 c5 c6 c9 : Nat} {ps qs : List (Str × Str)} {st : S} {o2 o4 o7 o8 : Option W}
abbrev fenv (w0 : W) (n p3 p4 c5 c6 p8 c9 p10 : Nat) (o2 o7 : Option W) : MM.Env := lenv w0 n o2 (some (.ref p3)) (some (.ref p4)) (some (.ref c5)) (some (.ref c6)) o7 (some (.ref p8)) (some (.ref c9)) (some (.ref p10))
def lwLc7 : ME := (mLc (mIter (mVar 10)) (gN 7) (mT asB (m2 wNotIn (mVar 7) (mVar 3))) (mVar 7) [7])
theorem lw_lc7 {us : List (Str × Str)} (h3 : Has st p3 (.lst (ps.map pairW))) (h10 : Has st p10 (.lst (us.map pairW))) (o : WordsOk ps) (ou : WordsOk us) (hl : us.length ≤ 1000) : ∃ s, lwLc7 (fenv w0 n p3 p4 c5 c6 p8 c9 p10 o2 o7) st = .ok (.ref st.sz) s ∧ LeX [] st s ∧ Has s st.sz (.lst ((us.filter fun q => !decide (q ∈ ps)).map pairW)) := by
  obtain ⟨s', h1, h2, h3'⟩ := lc_pure (mi := mIter (mVar 10)) (g := gN 7) (mt := mT asB (m2 wNotIn (mVar 7) (mVar 3))) (me := mVar 7) (vs := [7]) (env := fenv w0 n p3 p4 c5 c6 p8 c9 p10 o2 o7) (st := st) (st0 := st) (src := srcL p10 (us.map pairW).length) (ws := us.map pairW)
    (fun w => match w with | .tup [.str x, .str y] => !decide ((x, y) ∈ ps) | _ => false) id (MM.iter_lst rfl h10) rfl (by rw [List.length_map]; omega) (fun s l => (MM.lstL_at h10 l).1) (fun k s l => (MM.lstL_at h10 l).2 k) (by
      intro w hw s le
      obtain ⟨q, hq, rfl⟩ := List.mem_map.mp hw
      refine ⟨fenv w0 n p3 p4 c5 c6 p8 c9 p10 o2 (some (pairW q)), rfl, s, ?_, .refl, fun s4 _ _ _ => ⟨s4, v_ok rfl, .refl⟩⟩
      exact (mT_ok ((m2_ok (v_ok (i := 7) rfl) (v_ok (i := 3) rfl)).trans (notIn_pairsL (le.has0 h3) (ou q hq) o))).trans asB_ok)
  have em : ((us.map pairW).filter fun w => match w with | .tup [.str x, .str y] => !decide ((x, y) ∈ ps) | _ => false) = (us.filter fun q => !decide (q ∈ ps)).map pairW := by
    rw [List.filter_map]
    rfl
  rw [em, List.map_id] at h3'
  exact ⟨s', h1, h2, h3'⟩
def lwT7 (a : Ad) : MB := (mOrB (mT asB (m2 wNe (mN wList (mLCons (m1 (getA [a.Condition] [] "pairs") (mVar 6)) mLNil)) (mVar 10))) (mOrB (mT asB (m2 wNe (mN wList (mLCons (m1 (getA [a.Condition] [] "pairs") (mVar 9)) mLNil)) (m2 wAdd (mVar 3) lwLc7))) (mOrB (mT asB (m2 wLt (mN wLen (mLCons (mVar 8) mLNil)) (mN (wLenX (mt1 a.Condition (M_Condition_len a))) (mLCons (mVar 9) mLNil)))) (mT asB (m2 wNe (mN wList (mLCons (m1 (getA [a.Condition] [] "pairs") (mVar 5)) mLNil)) (mVar 3))))))
structure Turn (a : Ad) (ps qs : List (Str × Str)) (p3 p4 c5 c6 p8 c9 p10 : Nat) (s : S) : Prop where
  h3 : Has s p3 (.lst (ps.map pairW))
  h4 : Has s p4 (.lst (qs.map pairW))
  h5 : Has s c5 (Cond a ps)
  h6 : Has s c6 (Cond a (onceS qs))
  h8 : Has s p8 (.lst ((andS ps qs).map pairW))
  h9 : Has s c9 (Cond a (andS ps (onceS qs)))
  h10 : Has s p10 (.lst ((onceS qs).map pairW))
theorem Turn.mono {s s' : S} (h : Turn a ps qs p3 p4 c5 c6 p8 c9 p10 s) (l : LeX [] s s') : Turn a ps qs p3 p4 c5 c6 p8 c9 p10 s' := ⟨l.has0 h.h3, l.has0 h.h4, l.has0 h.h5, l.has0 h.h6, l.has0 h.h8, l.has0 h.h9, l.has0 h.h10⟩
theorem lw_t7 (h : Turn a ps qs p3 p4 c5 c6 p8 c9 p10 st) (o : WordsOk ps) (oq : WordsOk qs) (hl : ps.length ≤ 40) (hl2 : qs.length ≤ 40) : ∃ s, lwT7 a (fenv w0 n p3 p4 c5 c6 p8 c9 p10 o2 o7) st = .ok false s ∧ LeX [] st s := by
  have ou := once_ok oq
  have oa := words_and o ou.1
  have t1 := ls_pairs a (env := fenv w0 n p3 p4 c5 c6 p8 c9 p10 o2 o7) (v := 6) (u := 10) rfl rfl h.h6 h.h10 ou.1 ou.1
  rw [decide_eq_true rfl] at t1
  have l1 : LeX [] st (st.add (.lst ((onceS qs).map pairW))) := le_add
  have h1 := h.mono a l1
  generalize (st.add (.lst ((onceS qs).map pairW))) = s1 at *
  have e2 := (mN_ok (f := wList) (l_one ((m1_ok (v_ok (i := 9) (st := s1) (env := fenv w0 n p3 p4 c5 c6 p8 c9 p10 o2 o7) rfl)).trans (get_pairs h1.h9)))).trans list_tup
  have hq : Has (s1.add (.lst ((andS ps (onceS qs)).map pairW))) s1.sz (.lst ((andS ps (onceS qs)).map pairW)) := has_add
  have l2 : LeX [] s1 (s1.add (.lst ((andS ps (onceS qs)).map pairW))) := le_add
  have h2 := h1.mono a l2
  generalize (s1.add (.lst ((andS ps (onceS qs)).map pairW))) = s2 at *
  obtain ⟨s3, e3, l3, q3⟩ := lw_lc7 (w0 := w0) (n := n) (p4 := p4) (c5 := c5) (c6 := c6) (p8 := p8) (c9 := c9) (o2 := o2) (o7 := o7) h2.h3 h2.h10 o ou.1 (by omega)
  have fl := List.length_filter_le (fun q => !decide (q ∈ ps)) (onceS qs)
  have e4 := (m2_ok (f := wAdd) (v_ok (i := 3) (env := fenv w0 n p3 p4 c5 c6 p8 c9 p10 o2 o7) rfl) e3).trans (add_lst (l3.has0 h2.h3) q3 (by rw [List.length_map, List.length_map]; omega))
  rw [← List.map_append] at e4
  have hsum : Has (s3.add (.lst ((andS ps (onceS qs)).map pairW))) s3.sz (.lst ((andS ps (onceS qs)).map pairW)) := has_add
  have t2 := (mT_ok (f := asB) ((m2_ok (f := wNe) e2 e4).trans (ne_pairs (l3.has0 hq).add hsum oa oa))).trans asB_ok
  rw [decide_eq_true rfl] at t2
  have l4 : LeX [] s3 (s3.add (.lst ((ps ++ (onceS qs).filter fun q => !decide (q ∈ ps)).map pairW))) := le_add
  have h4 := (h2.mono a l3).mono a l4
  have t2' : mT asB (m2 wNe (mN wList (mLCons (m1 (getA [a.Condition] [] "pairs") (mVar 9)) mLNil)) (m2 wAdd (mVar 3) lwLc7)) (fenv w0 n p3 p4 c5 c6 p8 c9 p10 o2 o7) s1 = .ok false (s3.add (.lst ((ps ++ (onceS qs).filter fun q => !decide (q ∈ ps)).map pairW))) := t2
  generalize (s3.add (.lst ((ps ++ (onceS qs).filter fun q => !decide (q ∈ ps)).map pairW))) = s4 at *
  have len8 := ev_lenL h4.h8
  rw [List.length_map] at len8
  have al : (andS ps (onceS qs)).length ≤ (andS ps qs).length := by
    unfold andS
    rw [List.length_append, List.length_append]
    have := once_filter (fun q => !decide (q ∈ ps)) qs
    omega
  have al2 : (andS ps (onceS qs)).length ≤ 1000 := by
    unfold andS
    rw [List.length_append]
    omega
  have t3 := (mT_ok (f := asB) ((m2_ok (f := wLt) ((mN_ok (f := wLen) (l_one (v_ok (i := 8) (st := s4) (env := fenv w0 n p3 p4 c5 c6 p8 c9 p10 o2 o7) rfl))).trans len8) ((mN_ok (f := wLenX (mt1 a.Condition (M_Condition_len a))) (l_one (v_ok (i := 9) rfl))).trans (lenX_cond h4.h9 al2))).trans ev_lt)).trans asB_ok
  rw [decide_eq_false (by omega)] at t3
  have t4 := ls_pairs a (env := fenv w0 n p3 p4 c5 c6 p8 c9 p10 o2 o7) (v := 5) (u := 3) rfl rfl h4.h5 h4.h3 o o
  rw [decide_eq_true rfl] at t4
  exact ⟨_, or_f t1 (or_f t2' (or_f t3 t4)), (((l1.trans l2).trans l3).trans l4).trans le_add⟩
def lwT8 (a : Ad) : MB := (mOrB (mT asB (m2 wNe (m2 (wEqX (isP a) (mt1 a.Condition (M_Condition_eq a))) (mVar 5) (mVar 6)) (m2 wEq (mVar 3) (mVar 10)))) (mOrB (mT asB (m2 (wEqX (isP a) (mt1 a.Condition (M_Condition_eq a))) (mVar 5) (mVar 3))) (mOrB (mT asB (m2 (wEqX (isP a) (mt1 a.Condition (M_Condition_eq a))) (mVar 5) (mN (wStrX (mt1 a.Condition (M_Condition_str a))) (mLCons (mVar 5) mLNil)))) (mT asB (m2 (wNeX (isP a) (mt1 a.Condition (M_Condition_eq a))) (mN (mkC a) (mLCons (mN newLst (mLCons (mC (.str "go")) (mLCons (mC (.str "-")) mLNil))) mLNil)) (mN (mkC a) (mLCons (mN newTup (mLCons (mC (.str "go")) (mLCons (mC (.str "-")) mLNil))) mLNil)))))))
theorem ne_bl {b : Bool} {s : S} : wNe (.bl b) (.bl b) s = .ok (.bl false) s := by
  rw [ev_ne (d := .bool b) (d' := .bool b) rfl rfl (by cases b <;> decide +kernel) (by cases b <;> decide +kernel)]
  rw [show PyData.eqv (.bool b) (.bool b) = true by cases b <;> decide +kernel]
  rfl
theorem arg_lst (a : Ad) {p : Str × Str} {l : Nat} (h : wordS p.1 = true ∧ wordS p.2 = true) (hl : Has st l (.lst [.str p.1, .str p.2])) : Arg a st (.ref l) p := by
  have w1 := word_ok h.1
  have w2 := word_ok h.2
  refine ⟨fun s le => ?_, fun s le => (le.has0 hl).items⟩
  obtain ⟨s', e, l'⟩ := pair_lst a p.1 p.2 s (le.has0 hl) (by omega) w1.1 (by omega) w2.1
  rw [h.1, h.2] at e
  exact ⟨s', e, l'⟩
theorem mk_lst (a : Ad) {p : Str × Str} {l : Nat} (h : wordS p.1 = true ∧ wordS p.2 = true) (hl : Has st l (.lst [.str p.1, .str p.2])) : ∃ s, mkC a [.ref l] st = .ok (.ref st.sz) s ∧ LeX [] st s ∧ Has s st.sz (Cond a [p]) :=
  make_ok a [(.ref l, p)] st (by simp) fun x hx => by
    rw [List.mem_singleton.mp hx]
    exact arg_lst a h hl
theorem lw_t8 (h : Turn a ps qs p3 p4 c5 c6 p8 c9 p10 st) (o : WordsOk ps) (oq : WordsOk qs) (hl : ps.length ≤ 40) : ∃ s, lwT8 a (fenv w0 n p3 p4 c5 c6 p8 c9 p10 o2 o7) st = .ok false s ∧ LeX [] st s := by
  have ou := once_ok oq
  have e1 : wEqX (isP a) (mt1 a.Condition (M_Condition_eq a)) (.ref c5) (.ref c6) st = .ok (.bl (decide (ps = onceS qs))) st := by
    rw [eqX_cond h.h5 (kind_cond h.h6), cond_eq a h.h5 h.h6 o ou.1]
    rfl
  have t1 := (mT_ok (f := asB) ((m2_ok (f := wNe) ((m2_ok (f := wEqX (isP a) (mt1 a.Condition (M_Condition_eq a))) (v_ok (i := 5) (env := fenv w0 n p3 p4 c5 c6 p8 c9 p10 o2 o7) rfl) (v_ok (i := 6) rfl)).trans e1) ((m2_ok (f := wEq) (v_ok (i := 3) rfl) (v_ok (i := 10) rfl)).trans (eq_pairsL h.h3 h.h10 o ou.1))).trans ne_bl)).trans asB_ok
  have e2 : wEqX (isP a) (mt1 a.Condition (M_Condition_eq a)) (.ref c5) (.ref p3) st = .ok (.bl false) st := by
    rw [eqX_cond h.h5 (kind_lst h.h3), cond_eq_no a (kind_lst h.h3) rfl]
    rfl
  have t2 := (mT_ok (f := asB) ((m2_ok (f := wEqX (isP a) (mt1 a.Condition (M_Condition_eq a))) (v_ok (i := 5) (env := fenv w0 n p3 p4 c5 c6 p8 c9 p10 o2 o7) rfl) (v_ok (i := 3) rfl)).trans e2)).trans asB_ok
  obtain ⟨s1, e3, l1⟩ := strX_cond h.h5 o (by omega)
  have h1 := h.mono a l1
  have e4 : wEqX (isP a) (mt1 a.Condition (M_Condition_eq a)) (.ref c5) (.str (showS ps)) s1 = .ok (.bl false) s1 := by
    rw [eqX_cond h1.h5 kind_str, cond_eq_no a kind_str rfl]
    rfl
  have t3 := (mT_ok (f := asB) ((m2_ok (f := wEqX (isP a) (mt1 a.Condition (M_Condition_eq a))) (v_ok (i := 5) (st := st) (env := fenv w0 n p3 p4 c5 c6 p8 c9 p10 o2 o7) rfl) ((mN_ok (f := wStrX (mt1 a.Condition (M_Condition_str a))) (l_one (v_ok (i := 5) rfl))).trans e3)).trans e4)).trans asB_ok
  have hg := oneB_ok eL_words.2.2.2
  obtain ⟨s2, e5, l2, q2⟩ := mk_lst a (p := ("go", "-")) (st := s1.add (.lst [.str "go", .str "-"])) (hg _ (by simp)) has_add
  obtain ⟨s3, e6, l3, q3⟩ := make_pairs a goodL s2 (by simp) hg
  have q2' := l3.has0 q2
  have e7 : wNeX (isP a) (mt1 a.Condition (M_Condition_eq a)) (.ref (s1.add (.lst [.str "go", .str "-"])).sz) (.ref s2.sz) s3 = .ok (.bl false) s3 := by
    rw [neX_cond q2' (kind_cond q3), cond_eq a q2' q3 hg hg, decide_eq_true rfl]
    rfl
  have n1 := (mN_ok (f := newLst) (l_two (c_ok (w := .str "go") (st := s1) (env := fenv w0 n p3 p4 c5 c6 p8 c9 p10 o2 o7)) (c_ok (w := .str "-")))).trans (ev_newLst (by simp))
  have t4 := (mT_ok (f := asB) ((m2_ok (f := wNeX (isP a) (mt1 a.Condition (M_Condition_eq a))) ((mN_ok (f := mkC a) (l_one n1)).trans e5) ((mN_ok (f := mkC a) (l_one (tup_two c_ok c_ok))).trans e6)).trans e7)).trans asB_ok
  exact ⟨s3, or_f t1 (or_f t2 (or_f t3 t4)), ((l1.trans le_add).trans l2).trans l3⟩
end
end K31

namespace K31
open PySem PySem.Spec PyProof.Rows L2 MM
def lwA1 (a : Ad) : MS := (mAsg (mN newTup (mLCons (mN (M__law_words a) (mLCons (mVar 1) (mLCons (mC (.int 4)) mLNil))) (mLCons (mN (M__law_words a) (mLCons (mVar 1) (mLCons (mC (.int 3)) mLNil))) mLNil))) (gT 2 (gsCons (gN 3) (gsCons (gN 4) gsNil))))
def lwA2 (a : Ad) : MS := (mPar 5 6 (mLCons (lwOne a) (mLCons (mN (M__law_all a) (mLCons (mVar 4) mLNil)) mLNil)))
def lwNo (t : MB) : MS := mIfS t (mRet (mC (.bl false))) mNext
def lwA5 (a : Ad) : MS := (mPar 9 10 (mLCons (m2 (andX a) (mVar 5) (mVar 6)) (mLCons (mN newLst mLNil) mLNil)))
def lwT9 (a : Ad) : MB := (mOrB (mNotB (mT truth (mN (M__law_texts_right a) (mLCons (mVar 1) (mLCons (mVar 3) mLNil))))) (mNotB (mT truth (mN (M__law_refused_right a) (mLCons (mVar 1) mLNil)))))
def lwBody (a : Ad) : MS := mSeq (lwA1 a) (mSeq (lwA2 a) (mSeq (lwNo (lwT3 a)) (mSeq lwDue (mSeq (lwA5 a) (mSeq lwOnce (mSeq (lwNo (lwT7 a)) (mSeq (lwNo (lwT8 a)) (lwNo (lwT9 a)))))))))
def lwLoop (a : Ad) : MS := mFor (mSrc rng1 (mLCons (mC (.int 4)) mLNil)) (gN 2) (lwBody a)
def lwEnd (a : Ad) : ME := (mAndV (m2 wEq (m1 (getA [a.Condition] [] "pairs") (mVar 12)) (mN newTup (mLCons (mN newTup (mLCons (mC (.str "go")) (mLCons (mC (.str "stay")) mLNil))) mLNil))) (mAndV (m2 wEq (mN (wStrX (mt1 a.Condition (M_Condition_str a))) (mLCons (mN (mkC a) mLNil) mLNil)) (mC (.str "free"))) (mAndV (mN (wBoolX (mt1 a.Condition (M_Condition_bool a))) (mLCons (mN (mkC a) mLNil) mLNil)) (m2 wEq (mN (wLenX (mt1 a.Condition (M_Condition_len a))) (mLCons (mN (mkC a) mLNil) mLNil)) (mC (.int 0))))))
theorem lw_parts (a : Ad) : b_law a = mSeq (mAsg (mN (M__law_pen a) (mLCons (mVar 0) mLNil)) (gN 1)) (mSeq (lwLoop a) (mSeq (mAsg (mN newLst (mLCons (mC (.str "go")) (mLCons (mC (.str "stay")) mLNil))) (gN 11)) (mSeq (mAsg (mN (mkC a) (mLCons (mVar 11) mLNil)) (gN 12)) (mSeq (mExpr (mBM "list" gAppend (mVar 11) (mLCons (mC (.str "go")) mLNil))) (mRet (lwEnd a)))))) := rfl
theorem turn_run (a : Ad) (d : Dis a) {w0 : W} {n m k : Nat} {st : S} {o2 o3 o4 o5 o6 o7 o8 o9 o10 : Option W} (hp : Pen st n m k) (hk : k + 100 ≤ 90000) :
    ∃ r3 r4 r5 r6 r7 r8 r9 r10 s, lwBody a (lenv w0 n o2 o3 o4 o5 o6 o7 o8 o9 o10) st = .nx (lenv w0 n o2 r3 r4 r5 r6 r7 r8 r9 r10) s ∧ Pen s n m (k + 40) := by
  obtain ⟨p3, ps, s1, e1, h31, hl, mo, l1, pen1, n3⟩ := words_run a (most := 4) hp (by omega) (by omega)
  obtain ⟨p4, qs, s2, e2, h42, hl2, mq, l2, pen2, n4⟩ := words_run a (most := 3) pen1 (by omega) (by omega)
  have h32 := l2.has h31 (by simpa using n3)
  have o := mo.words
  have oq := mq.words
  have f1 : lwA1 a (lenv w0 n o2 o3 o4 o5 o6 o7 o8 o9 o10) st = .nx (lenv w0 n o2 (some (.ref p3)) (some (.ref p4)) o5 o6 o7 o8 o9 o10) s2 := by
    have e := (mN_ok (f := newTup) (l_two ((mN_ok (f := M__law_words a) (l_two (v_ok (i := 1) (env := lenv w0 n o2 o3 o4 o5 o6 o7 o8 o9 o10) rfl) (c_ok (w := .int ((4 : Nat) : Int))))).trans e1) ((mN_ok (f := M__law_words a) (l_two (v_ok (i := 1) rfl) (c_ok (w := .int ((3 : Nat) : Int))))).trans e2))).trans (ev_newTup (by simp))
    have e : mN newTup (mLCons (mN (M__law_words a) (mLCons (mVar 1) (mLCons (mC (.int 4)) mLNil))) (mLCons (mN (M__law_words a) (mLCons (mVar 1) (mLCons (mC (.int 3)) mLNil))) mLNil)) (lenv w0 n o2 o3 o4 o5 o6 o7 o8 o9 o10) st = .ok (.tup [.ref p3, .ref p4]) s2 := e
    unfold lwA1 mAsg
    rw [e]
    rfl
  obtain ⟨c5, s3, e3, l3, h5⟩ := lw_one a (w0 := w0) (n := n) (o2 := o2) (o4 := some (.ref p4)) (o5 := o5) (o6 := o6) (o7 := o7) (o8 := o8) (o9 := o9) (o10 := o10) h32 o (by omega)
  obtain ⟨c6, s4, e4, l4, h6⟩ := all_run a (l3.has0 h42) oq (by omega)
  have f2 : lwA2 a (lenv w0 n o2 (some (.ref p3)) (some (.ref p4)) o5 o6 o7 o8 o9 o10) s2 = .nx (lenv w0 n o2 (some (.ref p3)) (some (.ref p4)) (some (.ref c5)) (some (.ref c6)) o7 o8 o9 o10) s4 := par_ok (l_two e3 ((mN_ok (l_one (v_ok rfl))).trans e4))
  have l34 := l3.trans l4
  have h34 := l34.has0 h32
  have h44 := l34.has0 h42
  have h54 := l4.has0 h5
  obtain ⟨s5, e5, l5⟩ := lw_t3 a (w0 := w0) (n := n) (o2 := o2) (o4 := some (.ref p4)) (o6 := some (.ref c6)) (o7 := o7) (o8 := o8) (o9 := o9) (o10 := o10) h34 h54 o (by omega)
  have f3 : lwNo (lwT3 a) (lenv w0 n o2 (some (.ref p3)) (some (.ref p4)) (some (.ref c5)) (some (.ref c6)) o7 o8 o9 o10) s4 = .nx (lenv w0 n o2 (some (.ref p3)) (some (.ref p4)) (some (.ref c5)) (some (.ref c6)) o7 o8 o9 o10) s5 := if_fn e5
  obtain ⟨p8, s6, f4, l6, h86⟩ := lw_due (w0 := w0) (n := n) (o2 := o2) (o5 := some (.ref c5)) (o6 := some (.ref c6)) (o7 := o7) (o8 := o8) (o9 := o9) (o10 := o10) (l5.has0 h34) (l5.has0 h44) o oq (by omega) (by omega)
  have l46 := l5.trans l6
  have ou := once_ok oq
  have al : (andS ps (onceS qs)).length ≤ 40 := by
    unfold andS
    rw [List.length_append]
    have := List.length_filter_le (fun q => !decide (q ∈ ps)) (onceS qs)
    omega
  obtain ⟨c9, s7, e7, l7, h97⟩ := and_x a (l46.has0 h54) (l46.has0 h6) o ou.1 (by omega) al
  have f5 : lwA5 a (lenv w0 n o2 (some (.ref p3)) (some (.ref p4)) (some (.ref c5)) (some (.ref c6)) o7 (some (.ref p8)) o9 o10) s6 = .nx (lenv w0 n o2 (some (.ref p3)) (some (.ref p4)) (some (.ref c5)) (some (.ref c6)) o7 (some (.ref p8)) (some (.ref c9)) (some (.ref s7.sz))) (s7.add (.lst [])) := par_ok (l_two ((m2_ok (v_ok rfl) (v_ok rfl)).trans e7) ((mN_ok l_nil).trans (ev_newLst (by simp))))
  have l68 : LeX [] s6 (s7.add (.lst [])) := l7.trans le_add
  have l48 := l46.trans l68
  obtain ⟨p10, u7, s8, f6, l8, h10⟩ := lw_once (w0 := w0) (n := n) (o2 := o2) (o3 := some (.ref p3)) (o5 := some (.ref c5)) (o6 := some (.ref c6)) (o7 := o7) (o8 := some (.ref p8)) (o9 := some (.ref c9)) (l48.has0 h44) (has_add (s := s7) (o := .lst [])) oq (by omega)
  have l4' := l48.trans l8
  have T : Turn a ps qs p3 p4 c5 c6 p8 c9 p10 s8 := ⟨l4'.has0 h34, l4'.has0 h44, l4'.has0 h54, l4'.has0 h6, (l68.trans l8).has0 h86, l8.has0 h97.add, h10⟩
  obtain ⟨s9, e9, l9⟩ := lw_t7 a (w0 := w0) (n := n) (o2 := o2) (o7 := u7) T o oq (by omega) (by omega)
  have T9 := T.mono a l9
  obtain ⟨s10, e10, l10⟩ := lw_t8 a (w0 := w0) (n := n) (o2 := o2) (o7 := u7) T9 o oq (by omega)
  have T10 := T9.mono a l10
  have l2' : LeX [] s2 s10 := ((l34.trans l4').trans l9).trans l10
  have pen10 := pen2.mono l2'
  obtain ⟨s11, e11, l11, pen11⟩ := texts_right a d T10.h3 n3 pen10 (by omega) mo hl
  obtain ⟨s12, e12, l12, pen12⟩ := refused_right a d pen11 (by omega)
  have f7 : lwNo (lwT7 a) (fenv w0 n p3 p4 c5 c6 p8 c9 p10 o2 u7) s8 = .nx (fenv w0 n p3 p4 c5 c6 p8 c9 p10 o2 u7) s9 := if_fn e9
  have f8 : lwNo (lwT8 a) (fenv w0 n p3 p4 c5 c6 p8 c9 p10 o2 u7) s9 = .nx (fenv w0 n p3 p4 c5 c6 p8 c9 p10 o2 u7) s10 := if_fn e10
  have x1 := not_ok ((mT_ok (f := truth) ((mN_ok (f := M__law_texts_right a) (l_two (v_ok (i := 1) (env := fenv w0 n p3 p4 c5 c6 p8 c9 p10 o2 u7) rfl) (v_ok (i := 3) rfl))).trans e11)).trans tr_ok)
  have x2 := not_ok ((mT_ok (f := truth) ((mN_ok (f := M__law_refused_right a) (l_one (v_ok (i := 1) (env := fenv w0 n p3 p4 c5 c6 p8 c9 p10 o2 u7) rfl))).trans e12)).trans tr_ok)
  have f9 : lwNo (lwT9 a) (fenv w0 n p3 p4 c5 c6 p8 c9 p10 o2 u7) s10 = .nx (fenv w0 n p3 p4 c5 c6 p8 c9 p10 o2 u7) s12 := if_fn (or_f x1 x2)
  exact ⟨_, _, _, _, _, _, _, _, s12, (seq_nx f1).trans ((seq_nx f2).trans ((seq_nx f3).trans ((seq_nx f4).trans ((seq_nx f5).trans ((seq_nx f6).trans ((seq_nx f7).trans ((seq_nx f8).trans f9))))))), pen12.up (by omega)⟩
theorem lw_loop (a : Ad) (d : Dis a) {w0 : W} {n m : Nat} {st : S} (hp : Pen st n m 0) :
    ∃ r2 r3 r4 r5 r6 r7 r8 r9 r10 s, lwLoop a (lenv w0 n none none none none none none none none none) st = .nx (lenv w0 n r2 r3 r4 r5 r6 r7 r8 r9 r10) s ∧ Pen s n m 160 := by
  unfold lwLoop
  refine for_ok (I := fun i env s => (∃ r2 r3 r4 r5 r6 r7 r8 r9 r10, env = lenv w0 n r2 r3 r4 r5 r6 r7 r8 r9 r10) ∧ Pen s n m (40 * i)) (Q := fun r => ∃ r2 r3 r4 r5 r6 r7 r8 r9 r10 s, r = .nx (lenv w0 n r2 r3 r4 r5 r6 r7 r8 r9 r10) s ∧ Pen s n m 160)
    ((mSrc_ok (l_one c_ok)).trans (rng_one (j := 4) (by decide) st)) ⟨⟨_, _, _, _, _, _, _, _, _, rfl⟩, hp⟩ ?_ ?_
  · rintro i env s hi ⟨⟨r2, r3, r4, r5, r6, r7, r8, r9, r10, rfl⟩, hp'⟩
    have hi : i < 4 := hi
    obtain ⟨u3, u4, u5, u6, u7, u8, u9, u10, s', e, p'⟩ := turn_run a d (w0 := w0) (o2 := some (.int (0 + (i : Nat) * 1))) (o3 := r3) (o4 := r4) (o5 := r5) (o6 := r6) (o7 := r7) (o8 := r8) (o9 := r9) (o10 := r10) hp' (by omega)
    exact ⟨rfl, _, _, s, rfl, rfl, .inl ⟨_, s', e, ⟨_, _, _, _, _, _, _, _, _, rfl⟩, p'.up (by omega)⟩⟩
  · rintro env s ⟨⟨r2, r3, r4, r5, r6, r7, r8, r9, r10, rfl⟩, hp'⟩
    exact ⟨rfl, _, _, _, _, _, _, _, _, _, s, rfl, hp'⟩
theorem lw_end (a : Ad) {env : MM.Env} {st : S} {c : Nat} (v12 : env[12]? = some (some (.ref c))) (hc : Has st c (Cond a [("go", "stay")])) : ∃ s, lwEnd a env st = .ok (.bl true) s := by
  have o : WordsOk [(("go" : Str), ("stay" : Str))] := oneB_ok (by decide +kernel)
  have e1 := (mN_ok (f := newTup) (l_one (tup_two (c_ok (w := .str "go") (st := st) (env := env)) (c_ok (w := .str "stay"))))).trans (ev_newTup (by simp))
  have q1 := (m2_ok (f := wEq) ((m1_ok (v_ok v12)).trans (get_pairs hc)) e1).trans (eq_pairs (qs := [(("go" : Str), ("stay" : Str))]) o o)
  rw [decide_eq_true rfl] at q1
  obtain ⟨s1, e2, l1, h1⟩ := make_pairs a [] st (by simp) .nil
  obtain ⟨s2, e3, l2⟩ := strX_cond h1 .nil (by simp)
  have sf : showS [] = "free" := by unfold showS; rw [if_pos rfl]
  rw [sf] at e3
  have q2 := (m2_ok (f := wEq) ((mN_ok (f := wStrX (mt1 a.Condition (M_Condition_str a))) (l_one ((mN_ok (f := mkC a) (l_nil (env := env))).trans e2))).trans e3) (c_ok (w := .str "free"))).trans (ev_eqS okFree okFree)
  rw [decide_eq_true rfl] at q2
  obtain ⟨s3, e4, l3, h3⟩ := make_pairs a [] s2 (by simp) .nil
  have q3 := (mN_ok (f := wBoolX (mt1 a.Condition (M_Condition_bool a))) (l_one ((mN_ok (f := mkC a) (l_nil (env := env))).trans e4))).trans (boolX_cond h3)
  obtain ⟨s4, e5, l4, h4⟩ := make_pairs a [] s3 (by simp) .nil
  have q4 := (m2_ok (f := wEq) ((mN_ok (f := wLenX (mt1 a.Condition (M_Condition_len a))) (l_one ((mN_ok (f := mkC a) (l_nil (env := env))).trans e5))).trans (lenX_cond h4 (by simp))) (c_ok (w := .int 0))).trans ev_eqI
  exact ⟨s4, andV_t q1 (andV_t q2 (andV_t q3 q4))⟩
theorem pen_run (a : Ad) (xs : List Int) : M__law_pen a [.frz (xs.map W.int)] S0 = .ok (.ref 2) (((S0.add (.lst ((xs.take 63).map W.int))).add (.lst ((xs.take 63).map W.int))).add (.lst [.ref 1, .int 0, .int 0])) := by
  have e1 : mSl (mVar 0) mONo (mOSo (mC (.int 63))) [some (.frz (xs.map W.int))] S0 = .ok (.ref 0) (S0.add (.lst ((xs.take 63).map W.int))) := by
    unfold mSl
    rw [v_ok (w := .frz (xs.map W.int)) rfl, R.bind_ok, ono_ok, R.bind_ok, oso_ok c_ok, R.bind_ok]
    show R.ok _ (S0.add (.lst (cutW (xs.map W.int) none (some 63)))) = _
    rw [cut_take (by decide), List.map_take]
    rfl
  have e2 := (mN_ok (f := wList) (l_one e1)).trans (list_lst (has_add (s := S0) (o := .lst ((xs.take 63).map W.int))))
  exact (fill_def (by simp)).trans (call_rt (ret_ok ((mN_ok (l_cons e2 (l_two c_ok c_ok))).trans (ev_newLst (by simp)))))
theorem law_ok (a : Ad) (d : Dis a) (xs : List Int) : ∃ s, G_law a [.frz (xs.map W.int)] S0 = .ok (.bl true) s := by
  have start : G_law a [.frz (xs.map W.int)] S0 = (b_law a [some (.frz (xs.map W.int)), none, none, none, none, none, none, none, none, none, none, none, none, none, none, none] S0).call := rfl
  have f1 : (mAsg (mN (M__law_pen a) (mLCons (mVar 0) mLNil)) (gN 1)) [some (.frz (xs.map W.int)), none, none, none, none, none, none, none, none, none, none, none, none, none, none, none] S0 = .nx (lenv (.frz (xs.map W.int)) 2 none none none none none none none none none) (((S0.add (.lst ((xs.take 63).map W.int))).add (.lst ((xs.take 63).map W.int))).add (.lst [.ref 1, .int 0, .int 0])) := nm_ok ((mN_ok (l_one (v_ok rfl))).trans (pen_run a xs))
  have pen : Pen (((S0.add (.lst ((xs.take 63).map W.int))).add (.lst ((xs.take 63).map W.int))).add (.lst [.ref 1, .int 0, .int 0])) 2 1 0 := ⟨⟨0, 0, xs.take 63, has_add, has_add.add, Nat.le_refl _, by decide⟩, by decide⟩
  generalize (((S0.add (.lst ((xs.take 63).map W.int))).add (.lst ((xs.take 63).map W.int))).add (.lst [.ref 1, .int 0, .int 0])) = t0 at *
  obtain ⟨r2, r3, r4, r5, r6, r7, r8, r9, r10, s1, f2, pen1⟩ := lw_loop a d (w0 := .frz (xs.map W.int)) pen
  have f3 : (mAsg (mN newLst (mLCons (mC (.str "go")) (mLCons (mC (.str "stay")) mLNil))) (gN 11)) (lenv (.frz (xs.map W.int)) 2 r2 r3 r4 r5 r6 r7 r8 r9 r10) s1 = .nx [some (.frz (xs.map W.int)), some (.ref 2), r2, r3, r4, r5, r6, r7, r8, r9, r10, some (.ref s1.sz), none, none, none, none] (s1.add (.lst [.str "go", .str "stay"])) := nm_ok ((mN_ok (l_two c_ok c_ok)).trans (ev_newLst (by simp)))
  have hg : wordS "go" = true ∧ wordS "stay" = true := by decide +kernel
  have hl : Has (s1.add (.lst [.str "go", .str "stay"])) s1.sz (.lst [.str "go", .str "stay"]) := has_add
  obtain ⟨s2, e4, l4, h4⟩ := mk_lst a (p := ("go", "stay")) hg hl
  have f4 : (mAsg (mN (mkC a) (mLCons (mVar 11) mLNil)) (gN 12)) [some (.frz (xs.map W.int)), some (.ref 2), r2, r3, r4, r5, r6, r7, r8, r9, r10, some (.ref s1.sz), none, none, none, none] (s1.add (.lst [.str "go", .str "stay"])) = .nx [some (.frz (xs.map W.int)), some (.ref 2), r2, r3, r4, r5, r6, r7, r8, r9, r10, some (.ref s1.sz), some (.ref (s1.add (.lst [.str "go", .str "stay"])).sz), none, none, none] s2 := nm_ok ((mN_ok (l_one (v_ok rfl))).trans e4)
  have hl2 := l4.has0 hl
  have ht : tyW "list" (.ref s1.sz) s2 = true := by simp [tyW, hl2.2]
  have ea : gAppend (.ref s1.sz) [.str "go"] s2 = .ok .non (s2.put s1.sz (.lst [.str "go", .str "stay", .str "go"])) := by
    unfold gAppend
    dsimp only
    rw [hl2.lst]
    rfl
  have f5 : (mExpr (mBM "list" gAppend (mVar 11) (mLCons (mC (.str "go")) mLNil))) [some (.frz (xs.map W.int)), some (.ref 2), r2, r3, r4, r5, r6, r7, r8, r9, r10, some (.ref s1.sz), some (.ref (s1.add (.lst [.str "go", .str "stay"])).sz), none, none, none] s2 = .nx [some (.frz (xs.map W.int)), some (.ref 2), r2, r3, r4, r5, r6, r7, r8, r9, r10, some (.ref s1.sz), some (.ref (s1.add (.lst [.str "go", .str "stay"])).sz), none, none, none] (s2.put s1.sz (.lst [.str "go", .str "stay", .str "go"])) := expr_ok ((bm_ok (v_ok rfl) ht (l_one c_ok)).trans ea)
  have h5 := h4.put (o' := .lst [.str "go", .str "stay", .str "go"]) (m := s1.sz) (by rw [add_sz]; omega)
  obtain ⟨s3, e6⟩ := lw_end a (env := [some (.frz (xs.map W.int)), some (.ref 2), r2, r3, r4, r5, r6, r7, r8, r9, r10, some (.ref s1.sz), some (.ref (s1.add (.lst [.str "go", .str "stay"])).sz), none, none, none]) rfl h5
  refine ⟨s3, start.trans ?_⟩
  rw [lw_parts]
  exact call_rt ((seq_nx f1).trans ((seq_nx f2).trans ((seq_nx f3).trans ((seq_nx f4).trans ((seq_nx f5).trans (ret_ok e6))))))
end K31

namespace K31
open PySem PySem.Spec PyProof.Rows L2 MM
theorem law_pure {K : Frag} {h : Heap} (c : SaysM fa fn tf ex h K) (ns : List Int) (hl : ns.length ≤ 63) (hb : ∀ z ∈ ns, Builtin.Int.intBits z ≤ 1048576) : ∃ st', G_law (adr K) [.frz (ns.map W.int)] S0 = .ok (.bl true) st' :=
  law_ok (adr K) ⟨neA_ok (c.more _ (List.mem_of_getElem? (i := 31) rfl)), neA_ok (c.more _ (List.mem_of_getElem? (i := 32) rfl)), neA_ok (c.more _ (List.mem_of_getElem? (i := 34) rfl))⟩ ns
end K31

namespace K31
open PySem PySem.Spec PyProof.Rows L2 MM
abbrev R0 : PySem.W.OpenRow := PySem.W.OpenLaw.row PySem.Challenge.rw_longchances_k31_conditions_made_and_thei
abbrev hk : PySem.W.Hook := hookM 6 fa fn tf ex
def ob (s : PySem.W.SharedT) : AlM := obsM 6 fa fn tf ex (HandSHeadRun.getT s)
theorem ob_eq (s : PySem.W.SharedT) : ob s = hk.obs s.abs := obsM_eq (HandSHeadRun.getT_eq s)
def loose : List Str := (["_wall", "SIGNS", "MOST_SIGNS", "is_event", "OddsError", "BadCondition", "BadText", "TooMany", "EVERY", "NEVER", "FREE", "MOST_PAIRS", "is_word", "is_pair", "Condition", "pairs_in", "_law_pen", "_law_draw", "_law_pick", "_law_heard", "_law_words", "_law_read", "_law_all", "_law_is_word", "_law_due", "_law_texts_right", "_law_refused_right"] : List Str)
theorem run (w : World) : HandSHeadRun.RunEq R0 (PySem.W.view R0.prog [31]) hk ob 4000 loose w := by
  intro os
  kernel_rfl
theorem lawM {w : World} {mg : Str → Option Value} {fl : Addr} {h : Heap} {K : Frag} (X : K.In h) (c : SaysM fa fn tf ex h K) (G : h.Ns mainGlobals mg) (hmg : mg ("law" : Str) = some (.ref fl)) : LawM PySem.Challenge.rw_longchances_k31_conditions_made_and_thei w K 17 "script" mg fl h (G_law (adr K)) := by
  have e0 := hmg.symm.trans (He.glo_ok X G (c.fact (.glo "law") (List.mem_of_getElem? (i := 57) rfl)))
  cases e0
  obtain ⟨fd, F⟩ := c.defs d_law (List.mem_of_getElem? (i := 25) rfl)
  refine ⟨fd, tf.map fun p => cTA K (p K), tabs K, ?_, ?_, ?_, ?_, fun s u => F.bindsA (ps := ["script"]) (fun _ _ _ _ _ _ us hl => match us, hl with | [_], _ => rfl) s [u] rfl, fun base KB GB TB => ?_⟩
  · intro p hp
    obtain ⟨q, hq, rfl⟩ := List.mem_map.mp hp
    exact c.empty q hq
  · intro p hp
    obtain ⟨q, hq, rfl⟩ := List.mem_map.mp hp
    exact c.out q hq
  · intro p hp
    obtain ⟨q, hq, rfl⟩ := List.mem_map.mp hp
    exact PySem.W.codeHd_of_K X (c.hd q hq)
  · intro p hp
    simp only [tabs, List.mem_cons, List.not_mem_nil, or_false] at hp
    rcases hp with rfl | rfl | rfl
    · exact ⟨codeA K (He.ga K "_law_read"), List.mem_map.mpr ⟨_, List.mem_of_getElem? (i := 0) rfl, rfl⟩⟩
    · exact ⟨codeA K (He.ga K "_law_texts_right"), List.mem_map.mpr ⟨_, List.mem_of_getElem? (i := 1) rfl, rfl⟩⟩
    · exact ⟨codeA K (He.ga K "_law_refused_right"), List.mem_map.mpr ⟨_, List.mem_of_getElem? (i := 2) rfl, rfl⟩⟩
  · letI L : Link K := link0 K (tabs K)
    exact fg_law (L := L) ⟨KB, GB, fun p hp => TB _ (List.mem_map.mpr ⟨p, hp, rfl⟩), ⟨h, c⟩⟩ rfl F
end K31
open PySem PySem.W PySem.Calls PyProof.Rows
theorem PySem.Challenge.cw_longchances_k31_conditions_made_and_thei_holds : PySem.Challenge.rw_longchances_k31_conditions_made_and_thei.Holds := by
  w_on; o_law
  refine HandSHeadRun.head_any (r := OpenLaw.row PySem.Challenge.rw_longchances_k31_conditions_made_and_thei) (q := view (OpenLaw.row PySem.Challenge.rw_longchances_k31_conditions_made_and_thei).prog [31]) (H := K31.hk) (ob := K31.ob) (M := 4000) (loose := K31.loose) (d := HandSHeadRun.topDef (OpenLaw.row PySem.Challenge.rw_longchances_k31_conditions_made_and_thei).prog 31) (kwd := []) K31.ob_eq
    (by kernel_rfl) (fun s => by kernel_rfl) K31.run (by kernel_rfl) (by kernel_rfl) (by kernel_rfl) (by rfl) (by first | assumption | decide +kernel) (by decide +kernel) ⟨rfl, rfl, rfl, rfl, rfl, by decide +kernel⟩ ?hw ?hc
  case hw => w_witness2
  case hc =>
    refine MM.walk_ME (l := PySem.Challenge.rw_longchances_k31_conditions_made_and_thei) (n := 63) (k := 17) (x := "script") rfl (by decide) (by kernel_rfl) (MM.roomG_caller ⟨rfl, by decide, by decide⟩) ?F
    intro w mg fl h Y G hmg0
    obtain ⟨K, KX, c⟩ := Y
    have hmg : mg ("law" : PySem.Str) = some (.ref fl) := by
      have en : (HandSHeadRun.topDef (OpenLaw.row PySem.Challenge.rw_longchances_k31_conditions_made_and_thei).prog 31).name = ("law" : PySem.Str) := by kernel_rfl
      rw [← en]
      exact hmg0
    exact ⟨K, K31.G_law (K31.adr K), KX, K31.lawM KX c G hmg, fun ns hl hb => K31.law_pure c ns hl hb⟩

