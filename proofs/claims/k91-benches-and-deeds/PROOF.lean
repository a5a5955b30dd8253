import PyProof.Rows.All
import Wide.All
import OpenK.AllK
import Wide.FinOn
import HandS.ForMost
import HandS.Walk
import HandS.Exc
import HandS.ExcOwn
import HandS.ExcCtx
import HandS.WordsExc
import HandS.HeadHook1
import HandS.IsInst
import HandS.TupLe
import HandS.TupAny
import HandS.TupMul
import HandS.Wide
import HandS.Zip
import KE.GoesMore
import KE.GoesEnum
import KE.GoesZip
import HandS.Codes
import HandS.Deep
import KE.KTupSum
import KE.DatumOrd
import HandS.NoneIn
import HandS.More
import HandS.Head0
import HandS.Head1
import HandS.Head2
import HandS.HeadEnd
import HandS.HeadHook2
import HandS.HeadHook4
import HandS.Conv
import HandS.Dict
import HandS.ExcInit
import HandS.ClsMeth
import HandS.HotCalls
import HandS.ExcIs
import HandS.ExcField
import HandS.SetFor
import KE.KExcIs
import HandS.TupSets
import HandS.Style
import HandS.TupLen
import HandS.SetKeys
import PyProof.DictMoreH
import HandS.Strs
import PyProof.Rows.SetFrom
import KE.KDictWalk
import HandS.RevRange
import HandS.WideBits
import KE.KIndexOf
import PyProof.Rows.Range3
import HandS.Text
import PyProof.StrOps2
import PySem.Challenge.RW_wholefract_k91_benches_and_deeds
set_option Elab.async false
set_option linter.all false
set_option maxRecDepth 100000
namespace Sm
open PySem PySem.Spec PyProof.Rows L2
inductive T where
  | non | bl (b : Bool) | int (i : Int) | str (x : Str) | tup (xs : List T) | lst (xs : List T) | loc (n : Nat)
  /-- the law's script -/
  | scr (ns : List Int)
  /-- an empty dict that nothing changes -/
  | emp
  /-- the exception in hand: its place, its dict's, with one field (or none) -/
  | adr (a d : Addr) (f : Str) (ts : List T)
  /-- a def of the module, by its name -/
  | fnc (x : Str)
  /-- a dict by texts that nothing changes any more: an empty text and its keys, what stands there; without any key: a tuple that is known to have no dict of its own -/
  | dct (ks : List Str) (ts : List T)
inductive Cell where
  | lst (xs : List T)
  | dK (kvs : List (Key × T))
  /-- a dict by rows of whole numbers -/
  | dT (kvs : List (List Int × T))
  /-- what was a cell and is fixed now -/
  | dead
  | ins (c : Nat) (fs : List (Str × T))
abbrev Store := List Cell
abbrev Env' := List (Option T)
inductive Ex where
  | txt (c : Nat) | fld (c : Nat) (f : Str) (t : T)
inductive Out (α : Type) where
  | ok (a : α) (h : Store) | ex (e : Ex) (h : Store) | bad
abbrev M (α : Type) := Env' → Store → Out α
def Out.bind {α β : Type} : Out α → (α → Store → Out β) → Out β
  | .ok a h, k => k a h
  | .ex e h, _ => .ex e h
  | .bad, _ => .bad
@[simp] theorem bind_ok {α β : Type} (a : α) (h : Store) (k : α → Store → Out β) : (Out.ok a h).bind k = k a h := rfl
@[simp] theorem bind_ex {α β : Type} (e : Ex) (h : Store) (k : α → Store → Out β) : (Out.ex e h).bind k = .ex e h := rfl
@[simp] theorem bind_bad {α β : Type} (k : α → Store → Out β) : Out.bad.bind k = .bad := rfl
def Out.ofO {α : Type} : Option α → Store → Out α
  | some a, h => .ok a h
  | none, _ => .bad
@[simp] theorem ofO_some {α : Type} (a : α) (h : Store) : Out.ofO (some a) h = .ok a h := rfl
@[simp] theorem ofO_none {α : Type} (h : Store) : (Out.ofO none h : Out α) = .bad := rfl
mutual
def T.pu : T → Bool
  | .loc _ => false
  | .adr _ _ _ _ => false
  | .fnc _ => false
  | .tup xs => pus xs
  | .lst xs => pus xs
  | .dct _ ts => pus ts
  | _ => true
def pus : List T → Bool
  | [] => true
  | x :: r => x.pu && pus r
end
structure Wd where
  rho : List Addr
  Phi : Hp
def SqF (K : PySem.W.Frag) (H : Hp) (p : Addr) (vs : List V) : Prop := (∃ o, H p = some (.frz o (.tup vs)) ∧ o.dict = none) ∨
  ∃ (o : Obj) (its : Array Value) (n : Nat), K.lookup p = some o ∧ (o.cls = .type "tuple" ∧ o.dict = none) ∧ o.data = .seq its n ∧ its.size ≤ sizeLine ∧ Vals vs its.toList
def FixR (K : PySem.W.Frag) (H : Hp) (p : Addr) (ks : List Str) (vs : List V) (n : Nat) : Prop := (∃ o, H p = some (.frz o (.dK ((ks.tail.map Sum.inr).zip vs))) ∧ ks.length = n + 1) ∨ (ks = [] ∧ SqF K H p vs)
mutual
def Rep (K : PySem.W.Frag) (ω : Wd) : T → V → Prop
  | .non, v => v = .non
  | .bl b, v => v = .bl b
  | .int i, v => v = .int i
  | .str s, v => v = .str s
  | .tup xs, v => ∃ p vs, v = .ref p ∧ SqT K ω.Phi p vs ∧ Reps K ω xs vs
  | .lst xs, v => ∃ p vs, v = .ref p ∧ ω.Phi p = some (.lst vs) ∧ Reps K ω xs vs
  | .loc n, v => ∃ p, v = .ref p ∧ ω.rho[n]? = some p
  | .scr ns, v => ∃ p, v = .ref p ∧ SqL K ω.Phi p (ns.map V.int)
  | .emp, v => ∃ p, v = .ref p ∧ ω.Phi p = some (.dK [])
  | .adr a d f ts, v => v = .ref a ∧ ∃ ws, (ts ≠ [] → ω.Phi d = some (.xd ([f].zip ws))) ∧ Reps K ω ts ws
  | .fnc x, v => v = .ref (He.ga K x)
  | .dct ks ts, v => ∃ p vs, v = .ref p ∧ FixR K ω.Phi p ks vs ts.length ∧ Reps K ω ts vs
def Reps (K : PySem.W.Frag) (ω : Wd) : List T → List V → Prop
  | [], vs => vs = []
  | x :: r, vs => ∃ v vr, vs = v :: vr ∧ Rep K ω x v ∧ Reps K ω r vr
end
structure Gr (ω ω' : Wd) : Prop where
  pre : ω.rho <+: ω'.rho
  phi : ∀ a o, ω.Phi a = some o → ω'.Phi a = some o
theorem Gr.refl (ω : Wd) : Gr ω ω := ⟨List.prefix_refl _, fun _ _ h => h⟩
theorem Gr.trans {ω ω1 ω2 : Wd} (a : Gr ω ω1) (b : Gr ω1 ω2) : Gr ω ω2 := ⟨a.pre.trans b.pre, fun x o h => b.phi x o (a.phi x o h)⟩
theorem rd_mono {H H' : Hp} {p : Addr} {u : HO} (m : ∀ a o, H a = some o → H' a = some o) (r : Rd H p u) : Rd H' p u := by
  rcases r with r | ⟨o, r⟩
  · exact .inl (m _ _ r)
  · exact .inr ⟨o, m _ _ r⟩
theorem sqT_mono {K : PySem.W.Frag} {H H' : Hp} {p : Addr} {vs : List V} (m : ∀ a o, H a = some o → H' a = some o) (r : SqT K H p vs) : SqT K H' p vs := by
  rcases r with r | r
  · exact .inl (rd_mono m r)
  · exact .inr r
theorem fixR_mono {K : PySem.W.Frag} {H H' : Hp} {p : Addr} {ks : List Str} {vs : List V} {n : Nat} (m : ∀ a o, H a = some o → H' a = some o) (r : FixR K H p ks vs n) : FixR K H' p ks vs n := by
  rcases r with ⟨o, r, l⟩ | ⟨e, ⟨o, r, d⟩ | r⟩
  · exact .inl ⟨o, m _ _ r, l⟩
  · exact .inr ⟨e, .inl ⟨o, m _ _ r, d⟩⟩
  · exact .inr ⟨e, .inr r⟩
theorem sqL_mono {K : PySem.W.Frag} {H H' : Hp} {p : Addr} {vs : List V} (m : ∀ a o, H a = some o → H' a = some o) (r : SqL K H p vs) : SqL K H' p vs := by
  rcases r with r | r
  · exact .inl (rd_mono m r)
  · exact .inr r
section
variable {K : PySem.W.Frag} {ω ω' : Wd}
mutual
theorem Rep.mono (g : Gr ω ω') : ∀ {t : T} {v : V}, Rep K ω t v → Rep K ω' t v
  | .non, _, h => by simpa only [Rep] using h
  | .bl _, _, h => by simpa only [Rep] using h
  | .int _, _, h => by simpa only [Rep] using h
  | .str _, _, h => by simpa only [Rep] using h
  | .tup xs, _, h => by
    simp only [Rep] at h ⊢
    obtain ⟨p, vs, e, s, r⟩ := h
    exact ⟨p, vs, e, sqT_mono g.phi s, Reps.mono g r⟩
  | .lst xs, _, h => by
    simp only [Rep] at h ⊢
    obtain ⟨p, vs, e, s, r⟩ := h
    exact ⟨p, vs, e, g.phi _ _ s, Reps.mono g r⟩
  | .loc n, _, h => by
    simp only [Rep] at h ⊢
    obtain ⟨p, e, s⟩ := h
    obtain ⟨r, q⟩ := g.pre
    refine ⟨p, e, ?_⟩
    rw [← q, List.getElem?_append_left]
    · exact s
    · exact (List.getElem?_eq_some_iff.mp s).1
  | .scr ns, _, h => by
    simp only [Rep] at h ⊢
    obtain ⟨p, e, s⟩ := h
    exact ⟨p, e, sqL_mono g.phi s⟩
  | .fnc _, _, h => by simpa only [Rep] using h
  | .adr a d f ts, _, h => by
    simp only [Rep] at h ⊢
    obtain ⟨e, ws, c, r⟩ := h
    exact ⟨e, ws, fun n => g.phi _ _ (c n), Reps.mono g r⟩
  | .emp, _, h => by
    simp only [Rep] at h ⊢
    obtain ⟨p, e, s⟩ := h
    exact ⟨p, e, g.phi _ _ s⟩
  | .dct ks ts, _, h => by
    simp only [Rep] at h ⊢
    obtain ⟨p, vs, e, s, r⟩ := h
    exact ⟨p, vs, e, fixR_mono g.phi s, Reps.mono g r⟩
theorem Reps.mono (g : Gr ω ω') : ∀ {ts : List T} {vs : List V}, Reps K ω ts vs → Reps K ω' ts vs
  | [], _, h => by simpa only [Reps] using h
  | x :: r, _, h => by
    simp only [Reps] at h ⊢
    obtain ⟨v, vr, e, a, b⟩ := h
    exact ⟨v, vr, e, Rep.mono g a, Reps.mono g b⟩
end
theorem Reps.length : ∀ {ts : List T} {vs : List V}, Reps K ω ts vs → ts.length = vs.length
  | [], _, h => by simp only [Reps] at h; rw [h]; rfl
  | x :: r, _, h => by
    simp only [Reps] at h
    obtain ⟨v, vr, e, a, b⟩ := h
    rw [e, List.length_cons, List.length_cons, Reps.length b]
theorem Reps.get : ∀ {ts : List T} {vs : List V} {i : Nat} {t : T}, Reps K ω ts vs → ts[i]? = some t → ∃ v, vs[i]? = some v ∧ Rep K ω t v
  | [], _, _, _, _, e => by simp at e
  | x :: r, _, i, t, h, e => by
    simp only [Reps] at h
    obtain ⟨v, vr, rfl, a, b⟩ := h
    cases i with
    | zero =>
      have e' : x = t := by simpa using e
      subst e'
      exact ⟨v, rfl, a⟩
    | succ i =>
      have e' : r[i]? = some t := by simpa using e
      obtain ⟨w, h1, h2⟩ := Reps.get b e'
      exact ⟨w, by simpa using h1, h2⟩
theorem Reps.getV : ∀ {ts : List T} {vs : List V} {i : Nat} {v : V}, Reps K ω ts vs → vs[i]? = some v → ∃ t, ts[i]? = some t ∧ Rep K ω t v
  | [], _, _, _, h, e => by simp only [Reps] at h; subst h; simp at e
  | x :: r, _, i, t, h, e => by
    simp only [Reps] at h
    obtain ⟨v, vr, rfl, a, b⟩ := h
    cases i with
    | zero =>
      have e' : v = t := by simpa using e
      subst e'
      exact ⟨x, rfl, a⟩
    | succ i =>
      have e' : vr[i]? = some t := by simpa using e
      obtain ⟨w, h1, h2⟩ := Reps.getV b e'
      exact ⟨w, by simpa using h1, h2⟩
theorem Reps.append : ∀ {ts us : List T} {vs ws : List V}, Reps K ω ts vs → Reps K ω us ws → Reps K ω (ts ++ us) (vs ++ ws)
  | [], _, _, _, h, q => by simp only [Reps] at h; subst h; exact q
  | x :: r, us, _, ws, h, q => by
    simp only [Reps] at h
    obtain ⟨v, vr, rfl, a, b⟩ := h
    show Reps K ω (x :: (r ++ us)) _
    simp only [Reps]
    exact ⟨v, vr ++ ws, rfl, a, Reps.append b q⟩
theorem Reps.one {t : T} {v : V} (h : Rep K ω t v) : Reps K ω [t] [v] := by
  simp only [Reps]
  exact ⟨v, [], rfl, h, rfl⟩
theorem Reps.nil : Reps K ω [] [] := by simp only [Reps]
theorem Reps.cons {t : T} {ts : List T} {v : V} {vs : List V} (h : Rep K ω t v) (q : Reps K ω ts vs) : Reps K ω (t :: ts) (v :: vs) := by
  simp only [Reps]
  exact ⟨v, vs, rfl, h, q⟩
theorem Reps.inv {t : T} {ts : List T} {vs : List V} (h : Reps K ω (t :: ts) vs) : ∃ v vr, vs = v :: vr ∧ Rep K ω t v ∧ Reps K ω ts vr := by
  simpa only [Reps] using h
theorem Reps.nil_inv {vs : List V} (h : Reps K ω [] vs) : vs = [] := by simpa only [Reps] using h
theorem Reps.take (n : Nat) : ∀ {ts : List T} {vs : List V}, Reps K ω ts vs → Reps K ω (ts.take n) (vs.take n) := by
  induction n with
  | zero => intro ts vs _; exact Reps.nil
  | succ n ih =>
    intro ts vs h
    cases ts with
    | nil => simp only [Reps] at h; subst h; exact Reps.nil
    | cons x r =>
      obtain ⟨v, vr, rfl, a, b⟩ := h.inv
      exact Reps.cons a (ih b)
theorem Reps.drop (n : Nat) : ∀ {ts : List T} {vs : List V}, Reps K ω ts vs → Reps K ω (ts.drop n) (vs.drop n) := by
  induction n with
  | zero => intro ts vs h; exact h
  | succ n ih =>
    intro ts vs h
    cases ts with
    | nil => simp only [Reps] at h; subst h; exact Reps.nil
    | cons x r =>
      obtain ⟨v, vr, rfl, a, b⟩ := h.inv
      exact ih b
theorem Reps.set {t : T} {v : V} (h : Rep K ω t v) : ∀ (n : Nat) {ts : List T} {vs : List V}, Reps K ω ts vs → Reps K ω (ts.set n t) (vs.set n v) := by
  intro n
  induction n with
  | zero =>
    intro ts vs q
    cases ts with
    | nil => simp only [Reps] at q; subst q; exact Reps.nil
    | cons x r =>
      obtain ⟨w, vr, rfl, a, b⟩ := q.inv
      exact Reps.cons h b
  | succ n ih =>
    intro ts vs q
    cases ts with
    | nil => simp only [Reps] at q; subst q; exact Reps.nil
    | cons x r =>
      obtain ⟨w, vr, rfl, a, b⟩ := q.inv
      exact Reps.cons a (ih b)
mutual
theorem Rep.pure (m : ∀ a o, ω.Phi a = some o → ω'.Phi a = some o) : ∀ {t : T} {v : V}, t.pu = true → Rep K ω t v → Rep K ω' t v
  | .non, _, _, h => by simpa only [Rep] using h
  | .bl _, _, _, h => by simpa only [Rep] using h
  | .int _, _, _, h => by simpa only [Rep] using h
  | .str _, _, _, h => by simpa only [Rep] using h
  | .tup xs, _, hp, h => by
    simp only [Rep] at h ⊢
    simp only [T.pu] at hp
    obtain ⟨p, vs, e, s, r⟩ := h
    exact ⟨p, vs, e, sqT_mono m s, Reps.pure m hp r⟩
  | .lst xs, _, hp, h => by
    simp only [Rep] at h ⊢
    simp only [T.pu] at hp
    obtain ⟨p, vs, e, s, r⟩ := h
    exact ⟨p, vs, e, m _ _ s, Reps.pure m hp r⟩
  | .loc n, _, hp, h => by simp [T.pu] at hp
  | .scr ns, _, _, h => by
    simp only [Rep] at h ⊢
    obtain ⟨p, e, s⟩ := h
    exact ⟨p, e, sqL_mono m s⟩
  | .adr _ _ _ _, _, hp, h => by simp [T.pu] at hp
  | .fnc _, _, hp, h => by simp [T.pu] at hp
  | .emp, _, _, h => by
    simp only [Rep] at h ⊢
    obtain ⟨p, e, s⟩ := h
    exact ⟨p, e, m _ _ s⟩
  | .dct ks ts, _, hp, h => by
    simp only [Rep] at h ⊢
    simp only [T.pu] at hp
    obtain ⟨p, vs, e, s, r⟩ := h
    exact ⟨p, vs, e, fixR_mono m s, Reps.pure m hp r⟩
theorem Reps.pure (m : ∀ a o, ω.Phi a = some o → ω'.Phi a = some o) : ∀ {ts : List T} {vs : List V}, pus ts = true → Reps K ω ts vs → Reps K ω' ts vs
  | [], _, _, h => by simpa only [Reps] using h
  | x :: r, _, hp, h => by
    simp only [Reps] at h ⊢
    simp only [pus, Bool.and_eq_true] at hp
    obtain ⟨v, vr, e, a, b⟩ := h
    exact ⟨v, vr, e, Rep.pure m hp.1 a, Reps.pure m hp.2 b⟩
end
end
theorem nodup_at {α : Type} {N : List α} (hN : N.Nodup) {i j : Nat} {x : α} (a : N[i]? = some x) (b : N[j]? = some x) : i = j := by
  exact (List.getElem?_inj (List.getElem?_eq_some_iff.mp a).1 hN).mp (a.trans b.symm)
def RepKV {κ : Type} (K : PySem.W.Frag) (ω : Wd) : List (κ × T) → List (κ × V) → Prop
  | [], l => l = []
  | (k, t) :: r, l => ∃ v lr, l = (k, v) :: lr ∧ Rep K ω t v ∧ RepKV K ω r lr
theorem RepKV.mono {κ : Type} {K : PySem.W.Frag} {ω ω' : Wd} (g : Gr ω ω') : ∀ {a : List (κ × T)} {b : List (κ × V)}, RepKV K ω a b → RepKV K ω' a b
  | [], _, h => h
  | (k, t) :: r, _, ⟨v, lr, e, h1, h2⟩ => ⟨v, lr, e, h1.mono g, RepKV.mono g h2⟩
def puKV {κ : Type} (l : List (κ × T)) : Bool := l.all fun p => p.2.pu
theorem RepKV.pure {κ : Type} {K : PySem.W.Frag} {ω ω' : Wd} (m : ∀ a o, ω.Phi a = some o → ω'.Phi a = some o) : ∀ {a : List (κ × T)} {b : List (κ × V)}, puKV a = true → RepKV K ω a b → RepKV K ω' a b
  | [], _, _, h => h
  | (k, t) :: r, _, hp, ⟨v, lr, e, h1, h2⟩ => by
    simp only [puKV, List.all_cons, Bool.and_eq_true] at hp
    exact ⟨v, lr, e, h1.pure m hp.1, RepKV.pure m hp.2 h2⟩
abbrev DRow := List Int × Addr × V
def entI (x : List Int × Addr × Value) : DictEntry := ⟨reduceHash (Builtin.Tuple.tupleHashOf (x.1.map hashInt)), .ref x.2.1, x.2.2⟩
def DXp (a : Addr) (l : List DRow) (h : Heap) : Prop := ∃ xs : List (List Int × Addr × Value), Paired (fun (p : DRow) (q : List Int × Addr × Value) => p.1 = q.1 ∧ p.2.1 = q.2.1 ∧ RelV p.2.2 q.2.2) l xs ∧
  ∃ o es ep, h.get? a = some o ∧ o.ExactDict ∧ o.data = .dict es ep ∧ es.toList = xs.map entI ∧ (xs.map (·.1)).Nodup
def DX (a : Addr) (l : List DRow) : HO := .ext (DXp a l)
def RepKT (K : PySem.W.Frag) (ω : Wd) : List (List Int × T) → List DRow → Prop
  | [], l => l = []
  | (k, t) :: r, l => ∃ b v lr, l = (k, b, v) :: lr ∧ SqT K ω.Phi b (k.map V.int) ∧ Rep K ω t v ∧ RepKT K ω r lr
theorem RepKT.mono {K : PySem.W.Frag} {ω ω' : Wd} (g : Gr ω ω') : ∀ {a : List (List Int × T)} {b : List DRow}, RepKT K ω a b → RepKT K ω' a b
  | [], _, h => h
  | (k, t) :: r, _, ⟨b, v, lr, e, h1, h2, h3⟩ => ⟨b, v, lr, e, sqT_mono g.phi h1, h2.mono g, RepKT.mono g h3⟩
theorem RepKT.pure {K : PySem.W.Frag} {ω ω' : Wd} (m : ∀ a o, ω.Phi a = some o → ω'.Phi a = some o) : ∀ {a : List (List Int × T)} {b : List DRow}, puKV a = true → RepKT K ω a b → RepKT K ω' a b
  | [], _, _, h => h
  | (k, t) :: r, _, hp, ⟨b, v, lr, e, h1, h2, h3⟩ => by
    simp only [puKV, List.all_cons, Bool.and_eq_true] at hp
    exact ⟨b, v, lr, e, sqT_mono m h1, h2.pure m hp.1, RepKT.pure m hp.2 h3⟩
def CellOk (K : PySem.W.Frag) (cl : Nat → Addr) (ω : Wd) (H : Hp) (p : Addr) : Cell → Prop
  | .lst xs => pus xs = true ∧ ∃ vs, H p = some (.lst vs) ∧ Reps K ω xs vs
  | .dK kvs => puKV kvs = true ∧ ∃ l, H p = some (.dK l) ∧ RepKV K ω kvs l
  | .dT kvs => (puKV kvs = true ∧ kvs.length ≤ 100000) ∧ ∃ l, ((H p = some (DX p l) ∧ (p == sysModules) = false) ∨ (l = [] ∧ H p = some (.dT []))) ∧ RepKT K ω kvs l
  | .dead => ∃ o, H p = some o ∧ ∀ fs, o ≠ .xd fs
  | .ins c fs => ∃ dx l, H p = some (.ins (cl c) dx l) ∧ RepKV K ω fs l
structure StOk (K : PySem.W.Frag) (cl : Nat → Addr) (ω : Wd) (h : Store) (H : Hp) : Prop where
  len : ω.rho.length = h.length
  nd : ω.rho.Nodup
  cells : ∀ (i : Nat) (c : Cell) (p : Addr), h[i]? = some c → ω.rho[i]? = some p → CellOk K cl ω H p c
  phi : ∀ a o, ω.Phi a = some o → H a = some o
  dis : ∀ (i : Nat) (p : Addr), ω.rho[i]? = some p → h[i]? = some .dead ∨ ω.Phi p = none
structure Nx (ω : Wd) (H : Hp) (ω' : Wd) (H' : Hp) : Prop extends Gr ω ω' where
  newR : ∀ p ∈ ω'.rho, p ∈ ω.rho ∨ H p = none
  /-- an exception's dict may be fixed when it is in hand -/
  newF : ∀ a o, ω'.Phi a = some o → ω.Phi a = some o ∨ H a = none ∨ (∃ fs, o = .xd fs) ∨ a ∈ ω.rho
  fr : ∀ a o, H a = some o → a ∉ ω.rho → H' a = some o
  dom : ∀ a, H' a = none → H a = none
theorem Nx.refl (ω : Wd) (H : Hp) : Nx ω H ω H := ⟨Gr.refl ω, fun _ h => .inl h, fun _ _ h => .inl h, fun _ _ h _ => h, fun _ h => h⟩
theorem Nx.trans {ω ω1 ω2 : Wd} {H H1 H2 : Hp} (a : Nx ω H ω1 H1) (b : Nx ω1 H1 ω2 H2) : Nx ω H ω2 H2 where
  toGr := a.toGr.trans b.toGr
  newR := fun p hp => (b.newR p hp).elim (fun q => a.newR p q) fun q => .inr (a.dom p q)
  newF := fun x o h => (b.newF x o h).elim (fun q => a.newF x o q) fun q => q.elim (fun q => .inr (.inl (a.dom x q))) fun q => q.elim (fun q => .inr (.inr (.inl q))) fun q => (a.newR x q).elim (fun q => .inr (.inr (.inr q))) fun q => .inr (.inl q)
  fr := fun x o h n => b.fr x o (a.fr x o h n) fun m => (a.newR x m).elim n fun q => by rw [q] at h; cases h
  dom := fun x h => a.dom x (b.dom x h)
section
variable {K : PySem.W.Frag} {cl : Nat → Addr} {ω : Wd} {h : Store} {H : Hp}
theorem StOk.at_ (S : StOk K cl ω h H) {i : Nat} {c : Cell} (e : h[i]? = some c) : ∃ p, ω.rho[i]? = some p ∧ CellOk K cl ω H p c := by
  have hl : i < ω.rho.length := by rw [S.len]; exact (List.getElem?_eq_some_iff.mp e).1
  exact ⟨ω.rho[i], List.getElem?_eq_getElem hl, S.cells i c _ e (List.getElem?_eq_getElem hl)⟩
theorem CellOk.hit {p : Addr} {c : Cell} (k : CellOk K cl ω H p c) : ∃ o, H p = some o := by
  cases c with
  | lst xs => obtain ⟨_, vs, e, _⟩ := k; exact ⟨_, e⟩
  | dK xs => obtain ⟨_, vs, e, _⟩ := k; exact ⟨_, e⟩
  | dT xs =>
    obtain ⟨_, vs, e, _⟩ := k
    rcases e with ⟨e, _⟩ | ⟨_, e⟩
    · exact ⟨_, e⟩
    · exact ⟨_, e⟩
  | dead => obtain ⟨o, e, _⟩ := k; exact ⟨o, e⟩
  | ins c xs => obtain ⟨dx, vs, e, _⟩ := k; exact ⟨_, e⟩
theorem StOk.somR (S : StOk K cl ω h H) {p : Addr} (hp : p ∈ ω.rho) : ∃ o, H p = some o := by
  obtain ⟨i, hi, e⟩ := List.getElem_of_mem hp
  have hi' : i < h.length := by rw [← S.len]; exact hi
  exact (S.cells i h[i] p (List.getElem?_eq_getElem hi') (by rw [List.getElem?_eq_getElem hi, e])).hit
theorem CellOk.move {ω' : Wd} {H' : Hp} {p : Addr} {c : Cell} (k : CellOk K cl ω H p c) (g : Gr ω ω') (e : ∀ o, H p = some o → H' p = some o) : CellOk K cl ω' H' p c := by
  cases c with
  | lst xs => obtain ⟨a, vs, q, r⟩ := k; exact ⟨a, vs, e _ q, r.mono g⟩
  | dK xs => obtain ⟨a, vs, q, r⟩ := k; exact ⟨a, vs, e _ q, r.mono g⟩
  | dT xs => obtain ⟨a, vs, q, r⟩ := k; exact ⟨a, vs, q.elim (fun z => .inl ⟨e _ z.1, z.2⟩) (fun z => .inr ⟨z.1, e _ z.2⟩), r.mono g⟩
  | dead => obtain ⟨o, q, n⟩ := k; exact ⟨o, e _ q, n⟩
  | ins c xs => obtain ⟨dx, vs, q, r⟩ := k; exact ⟨dx, vs, e _ q, r.mono g⟩
def Wd.fix (ω : Wd) (p : Addr) (o : HO) : Wd := ⟨ω.rho, upd ω.Phi p o⟩
def Wd.cell (ω : Wd) (p : Addr) : Wd := ⟨ω.rho ++ [p], ω.Phi⟩
theorem gr_fix {p : Addr} {o : HO} (n : ω.Phi p = none) : Gr ω (ω.fix p o) := ⟨List.prefix_refl _, fun a u e => by
  show upd ω.Phi p o a = _
  rw [upd_ne (ne_of_none e n)]
  exact e⟩
theorem gr_cell {p : Addr} : Gr ω (ω.cell p) := ⟨List.prefix_append _ _, fun _ _ e => e⟩
theorem StOk.fixIt (S : StOk K cl ω h H) {p : Addr} {o : HO} (e : H p = some o) (n : ω.Phi p = none) (nr : p ∉ ω.rho) : StOk K cl (ω.fix p o) h H where
  len := S.len
  nd := S.nd
  cells := fun i c q a b => (S.cells i c q a b).move (gr_fix n) fun _ z => z
  phi := fun a u z => by
    have z' : upd ω.Phi p o a = some u := z
    by_cases q : a = p
    · subst q; rw [upd_same] at z'; cases z'; exact e
    · rw [upd_ne q] at z'; exact S.phi a u z'
  dis := fun i q hq => (S.dis i q hq).imp id fun z => by
    show upd ω.Phi p o q = none
    rw [upd_ne (fun z : q = p => nr (by rw [← z]; exact List.mem_of_getElem? hq))]
    exact z
theorem Nx.fixIt {ω0 : Wd} {H0 : Hp} (N : Nx ω0 H0 ω H) {p : Addr} {o : HO} (n : ω.Phi p = none) (f : H0 p = none) : Nx ω0 H0 (ω.fix p o) H where
  toGr := N.toGr.trans (gr_fix n)
  newR := N.newR
  newF := fun a u z => by
    have z' : upd ω.Phi p o a = some u := z
    by_cases q : a = p
    · subst q; exact .inr (.inl f)
    · rw [upd_ne q] at z'; exact N.newF a u z'
  fr := N.fr
  dom := N.dom
theorem Nx.fixX {p : Addr} {fs : List (Str × V)} (n : ω.Phi p = none) : Nx ω H (ω.fix p (.xd fs)) H where
  toGr := gr_fix n
  newR := fun _ h => .inl h
  newF := fun a u z => by
    have z' : upd ω.Phi p (.xd fs) a = some u := z
    by_cases q : a = p
    · subst q; rw [upd_same] at z'; cases z'; exact .inr (.inr (.inl ⟨fs, rfl⟩))
    · rw [upd_ne q] at z'; exact .inl z'
  fr := fun _ _ h _ => h
  dom := fun _ h => h
theorem StOk.cellIt (S : StOk K cl ω h H) {p : Addr} {c : Cell} (k : CellOk K cl ω H p c) (n : ω.Phi p = none) (nr : p ∉ ω.rho) : StOk K cl (ω.cell p) (h ++ [c]) H where
  len := by show (ω.rho ++ [p]).length = _; simp [S.len]
  nd := by
    show (ω.rho ++ [p]).Nodup
    rw [List.nodup_append]
    refine ⟨S.nd, by simp, fun a ha b hb z => ?_⟩
    have : b = p := by simpa using hb
    subst this; subst z
    exact nr ha
  cells := fun i c' q a b => by
    have b' : (ω.rho ++ [p])[i]? = some q := b
    by_cases hi : i < h.length
    · rw [List.getElem?_append_left hi] at a
      rw [List.getElem?_append_left (by rw [S.len]; exact hi)] at b'
      exact (S.cells i c' q a b').move gr_cell fun _ z => z
    · have hi2 : i = h.length := by
        have := (List.getElem?_eq_some_iff.mp a).1
        simp at this; omega
      subst hi2
      rw [List.getElem?_append_right (Nat.le_refl _)] at a
      rw [List.getElem?_append_right (by rw [S.len]; exact Nat.le_refl _), S.len] at b'
      simp at a b'
      subst a; subst b'
      exact k.move gr_cell fun _ z => z
  phi := S.phi
  dis := fun i q hq => by
    have b : (ω.rho ++ [p])[i]? = some q := hq
    by_cases hi : i < h.length
    · rw [List.getElem?_append_left (by rw [S.len]; exact hi)] at b
      rw [List.getElem?_append_left hi]
      exact S.dis i q b
    · have lt := (List.getElem?_eq_some_iff.mp b).1
      rw [List.length_append, S.len] at lt
      have hi2 : i = h.length := by
        have : i < h.length + 1 := lt
        omega
      subst hi2
      rw [List.getElem?_append_right (by rw [S.len]; exact Nat.le_refl _), S.len] at b
      simp at b
      rw [← b]
      exact .inr n
theorem Nx.cellIt {ω0 : Wd} {H0 : Hp} (N : Nx ω0 H0 ω H) {p : Addr} (f : H0 p = none) : Nx ω0 H0 (ω.cell p) H where
  toGr := N.toGr.trans gr_cell
  newR := fun q hq => by
    have : q ∈ ω.rho ++ [p] := hq
    rcases List.mem_append.mp this with z | z
    · exact N.newR q z
    · have : q = p := by simpa using z
      rw [this]; exact .inr f
  newF := N.newF
  fr := N.fr
  dom := N.dom
theorem StOk.freshF (S : StOk K cl ω h H) {p : Addr} (n : H p = none) : ω.Phi p = none := by
  cases e : ω.Phi p with
  | none => rfl
  | some o => rw [S.phi p o e] at n; cases n
theorem StOk.freshR (S : StOk K cl ω h H) {p : Addr} (n : H p = none) : p ∉ ω.rho := fun m => by
  obtain ⟨o, e⟩ := S.somR m
  rw [n] at e; cases e
theorem StOk.lay (S : StOk K cl ω h H) {p : Addr} {o : HO} (n : H p = none) : StOk K cl ω h (upd H p o) where
  len := S.len
  nd := S.nd
  cells := fun i c q a b => (S.cells i c q a b).move (Gr.refl _) fun u z => by rw [upd_ne (ne_of_none z n)]; exact z
  phi := fun a u z => by rw [upd_ne (ne_of_none (S.phi a u z) n)]; exact S.phi a u z
  dis := S.dis
theorem nx_lay {p : Addr} {o : HO} (n : H p = none) : Nx ω H ω (upd H p o) where
  toGr := Gr.refl _
  newR := fun _ h => .inl h
  newF := fun _ _ h => .inl h
  fr := fun a u z _ => by rw [upd_ne (ne_of_none z n)]; exact z
  dom := fun a z => by
    by_cases q : a = p
    · rw [q]; exact n
    · rw [upd_ne q] at z; exact z
theorem StOk.newF (S : StOk K cl ω h H) {p : Addr} {o : HO} (n : H p = none) : StOk K cl (ω.fix p o) h (upd H p o) :=
  (S.lay n).fixIt upd_same (S.freshF n) (S.freshR n)
theorem nx_newF (S : StOk K cl ω h H) {p : Addr} {o : HO} (n : H p = none) : Nx ω H (ω.fix p o) (upd H p o) := (nx_lay n).fixIt (S.freshF n) n
theorem StOk.put (S : StOk K cl ω h H) {i : Nat} {p : Addr} {c c0 : Cell} {o : HO} (e0 : h[i]? = some c0) (nd0 : c0 ≠ .dead) (e : ω.rho[i]? = some p) (k : CellOk K cl ω (upd H p o) p c) : StOk K cl ω (h.set i c) (upd H p o) where
  len := by rw [List.length_set]; exact S.len
  nd := S.nd
  cells := fun j d q a b => by
    by_cases hij : i = j
    · subst hij
      have hi : i < h.length := by rw [← S.len]; exact (List.getElem?_eq_some_iff.mp e).1
      rw [List.getElem?_set_self hi] at a
      cases a
      rw [e] at b; cases b
      exact k
    · rw [List.getElem?_set_ne hij] at a
      refine (S.cells j d q a b).move (Gr.refl _) fun u z => ?_
      rw [upd_ne ?_]
      · exact z
      · intro z; subst z
        exact hij (nodup_at S.nd e b)
  phi := fun a u z => by
    rw [upd_ne ?_]
    · exact S.phi a u z
    · intro q; subst q
      rcases S.dis i _ e with w | w
      · rw [e0] at w
        cases w
        exact nd0 rfl
      · rw [w] at z; cases z
  dis := fun j q hq => by
    by_cases hij : i = j
    · subst hij
      rw [e] at hq
      cases hq
      rcases S.dis i _ e with w | w
      · rw [e0] at w
        cases w
        exact absurd rfl nd0
      · exact .inr w
    · rw [List.getElem?_set_ne hij]
      exact S.dis j q hq
theorem nx_put (S : StOk K cl ω h H) {i : Nat} {p : Addr} {o : HO} (e : ω.rho[i]? = some p) : Nx ω H ω (upd H p o) where
  toGr := Gr.refl _
  newR := fun _ h => .inl h
  newF := fun _ _ h => .inl h
  fr := fun a u z n => by rw [upd_ne (fun q : a = p => n (by rw [q]; exact List.mem_of_getElem? e))]; exact z
  dom := fun a z => by
    by_cases q : a = p
    · rw [q, upd_same] at z; cases z
    · rw [upd_ne q] at z; exact z
theorem StOk.alive (S : StOk K cl ω h H) {i : Nat} {p : Addr} {c : Cell} (e0 : h[i]? = some c) (nd0 : c ≠ .dead) (e : ω.rho[i]? = some p) : ω.Phi p = none := by
  rcases S.dis i _ e with w | w
  · rw [e0] at w
    cases w
    exact absurd rfl nd0
  · exact w
theorem StOk.freeze (S : StOk K cl ω h H) {i : Nat} {p : Addr} {xs : List T} {vs : List V} (e0 : h[i]? = some (.lst xs)) (e : ω.rho[i]? = some p) (hp : H p = some (.lst vs)) : StOk K cl (ω.fix p (.lst vs)) (h.set i .dead) H where
  len := by rw [List.length_set]; exact S.len
  nd := S.nd
  cells := fun j c q a b => by
    have n := S.alive e0 (fun z => by cases z) e
    by_cases hij : i = j
    · subst hij
      rw [List.getElem?_set_self (List.getElem?_eq_some_iff.mp e0).1] at a
      cases a
      have b' : ω.rho[i]? = some q := b
      rw [e] at b'
      cases b'
      exact ⟨_, hp, fun _ z => nomatch z⟩
    · rw [List.getElem?_set_ne hij] at a
      exact (S.cells j c q a b).move (gr_fix n) fun _ z => z
  phi := fun a u z => by
    have z' : upd ω.Phi p (.lst vs) a = some u := z
    by_cases q : a = p
    · subst q
      rw [upd_same] at z'
      cases z'
      exact hp
    · rw [upd_ne q] at z'
      exact S.phi a u z'
  dis := fun j q hq => by
    have hq' : ω.rho[j]? = some q := hq
    by_cases hij : i = j
    · subst hij
      exact .inl (List.getElem?_set_self (List.getElem?_eq_some_iff.mp e0).1)
    · rw [List.getElem?_set_ne hij]
      refine (S.dis j q hq').imp id fun z => ?_
      show upd ω.Phi p (.lst vs) q = none
      rw [upd_ne (fun w : q = p => hij (nodup_at S.nd e (by rw [hq', w])))]
      exact z
theorem StOk.fasten (S : StOk K cl ω h H) {i : Nat} {p : Addr} {c : Cell} {u : HO} (nx : ∀ fs, u ≠ .xd fs) (e0 : h[i]? = some c) (nd0 : c ≠ .dead) (e : ω.rho[i]? = some p) : StOk K cl (ω.fix p u) (h.set i .dead) (upd H p u) where
  len := by rw [List.length_set]; exact S.len
  nd := S.nd
  cells := fun j d q a b => by
    have n := S.alive e0 nd0 e
    by_cases hij : i = j
    · subst hij
      rw [List.getElem?_set_self (List.getElem?_eq_some_iff.mp e0).1] at a
      cases a
      have b' : ω.rho[i]? = some q := b
      rw [e] at b'
      cases b'
      exact ⟨u, upd_same, nx⟩
    · rw [List.getElem?_set_ne hij] at a
      refine (S.cells j d q a b).move (gr_fix n) fun w z => ?_
      rw [upd_ne]
      · exact z
      · intro w
        subst w
        exact hij (nodup_at S.nd e b)
  phi := fun a w z => by
    have z' : upd ω.Phi p u a = some w := z
    by_cases q : a = p
    · subst q
      rw [upd_same] at z' ⊢
      exact z'
    · rw [upd_ne q] at z' ⊢
      exact S.phi a w z'
  dis := fun j q hq => by
    have hq' : ω.rho[j]? = some q := hq
    by_cases hij : i = j
    · subst hij
      exact .inl (List.getElem?_set_self (List.getElem?_eq_some_iff.mp e0).1)
    · rw [List.getElem?_set_ne hij]
      refine (S.dis j q hq').imp id fun z => ?_
      show upd ω.Phi p u q = none
      rw [upd_ne (fun w : q = p => hij (nodup_at S.nd e (by rw [hq', w])))]
      exact z
theorem nx_fasten {i : Nat} {p : Addr} {u : HO} (n : ω.Phi p = none) (e : ω.rho[i]? = some p) : Nx ω H (ω.fix p u) (upd H p u) where
  toGr := gr_fix n
  newR := fun _ h => .inl h
  newF := fun a w z => by
    have z' : upd ω.Phi p u a = some w := z
    by_cases q : a = p
    · subst q
      exact .inr (.inr (.inr (List.mem_of_getElem? e)))
    · rw [upd_ne q] at z'
      exact .inl z'
  fr := fun a w z n => by rw [upd_ne (fun q : a = p => n (by rw [q]; exact List.mem_of_getElem? e))]; exact z
  dom := fun a z => by
    by_cases q : a = p
    · rw [q, upd_same] at z; cases z
    · rw [upd_ne q] at z; exact z
theorem nx_freeze (S : StOk K cl ω h H) {i : Nat} {p : Addr} {o : HO} (n : ω.Phi p = none) (e : ω.rho[i]? = some p) : Nx ω H (ω.fix p o) H where
  toGr := gr_fix n
  newR := fun _ h => .inl h
  newF := fun a u z => by
    have z' : upd ω.Phi p o a = some u := z
    by_cases q : a = p
    · subst q
      exact .inr (.inr (.inr (List.mem_of_getElem? e)))
    · rw [upd_ne q] at z'
      exact .inl z'
  fr := fun _ _ h _ => h
  dom := fun _ h => h
end
def XOk (K : PySem.W.Frag) (cl : Nat → Addr) (ω : Wd) (H : Hp) : Ex → Value → Option Addr → Prop
  | .txt c, cls, d => cls = .ref (cl c) ∧ d = none
  | .fld c f t, cls, d => cls = .ref (cl c) ∧ t.pu = true ∧ ∃ dx v, d = some dx ∧ H dx = some (.xd [(f, v)]) ∧ Rep K ω t v
def PostG (K : PySem.W.Frag) (cl : Nat → Addr) (W : WX) (ω : Wd) (H : Hp) (σ : L2.St) {α : Type} (o : Out α) (R : α → Store → Wd → Hp → Prop) : Prop :=
  match o with
  | .ok a h' => ∀ ω' H', Nx ω H ω' H' → StOk K cl ω' h' H' → R a h' ω' H'
  | .ex e h' => ∀ ω' H' cls d, Nx ω H ω' H' → StOk K cl ω' h' H' → XOk K cl ω' H' e cls d → W cls d σ H'
  | .bad => False
section
variable {K : PySem.W.Frag} {cl : Nat → Addr} {W : WX} {ω : Wd} {H : Hp} {σ : L2.St} {α β : Type}
theorem PostG.bind {o : Out α} {k : α → Store → Out β} {R : β → Store → Wd → Hp → Prop} (h : PostG K cl W ω H σ (o.bind k) R) :
    PostG K cl W ω H σ o fun a h1 ω1 H1 => PostG K cl W ω1 H1 σ (k a h1) R := by
  cases o with
  | bad => exact h
  | ex e h' => exact h
  | ok a h' =>
    intro ω1 H1 N1 S1
    have q : PostG K cl W ω H σ (k a h') R := h
    revert q
    cases k a h' with
    | bad => exact fun q => q
    | ex e h2 => exact fun q ω2 H2 cls d N2 S2 x => q ω2 H2 cls d (N1.trans N2) S2 x
    | ok b h2 => exact fun q ω2 H2 N2 S2 => q ω2 H2 (N1.trans N2) S2
theorem PostG.mono {o : Out α} {R R' : α → Store → Wd → Hp → Prop} (h : PostG K cl W ω H σ o R) (m : ∀ a h' ω' H', Nx ω H ω' H' → StOk K cl ω' h' H' → R a h' ω' H' → R' a h' ω' H') : PostG K cl W ω H σ o R' := by
  cases o with
  | bad => exact h
  | ex e h' => exact h
  | ok a h' => exact fun ω' H' N S => m a h' ω' H' N S (h ω' H' N S)
theorem PostG.ofO {o : Option α} {h : Store} {R : α → Store → Wd → Hp → Prop} (q : PostG K cl W ω H σ (Out.ofO o h) R) : ∃ a, o = some a ∧ ∀ ω' H', Nx ω H ω' H' → StOk K cl ω' h H' → R a h ω' H' := by
  cases o with
  | none => exact q.elim
  | some a => exact ⟨a, rfl, q⟩
end
def EnvOk (K : PySem.W.Frag) (ω : Wd) (env : Env') (σ : L2.St) : Prop := env.length = σ.length ∧ ∀ (i : Nat) (t : T), env[i]? = some (some t) → ∃ v : V, σ[i]? = some (some v) ∧ Rep K ω t v
theorem EnvOk.mono {K : PySem.W.Frag} {ω ω' : Wd} {env : Env'} {σ : L2.St} (e : EnvOk K ω env σ) (g : Gr ω ω') : EnvOk K ω' env σ :=
  ⟨e.1, fun i t h => let ⟨v, a, b⟩ := e.2 i t h; ⟨v, a, b.mono g⟩⟩
theorem EnvOk.set {K : PySem.W.Frag} {ω : Wd} {env : Env'} {σ : L2.St} (e : EnvOk K ω env σ) (i : Nat) {t : T} {v : V} (r : Rep K ω t v) : EnvOk K ω (env.set i (some t)) (σ.set i (some v)) := by
  refine ⟨by simp [e.1], fun j u h => ?_⟩
  by_cases q : i = j
  · subst q
    have hi : i < env.length := by
      have := (List.getElem?_eq_some_iff.mp h).1
      simpa using this
    rw [List.getElem?_set_self hi] at h
    cases h
    exact ⟨v, by rw [List.getElem?_set_self (by rw [← e.1]; exact hi)], r⟩
  · rw [List.getElem?_set_ne q] at h
    obtain ⟨w, a, b⟩ := e.2 j u h
    exact ⟨w, by rw [List.getElem?_set_ne q]; exact a, b⟩
theorem EnvOk.drop {K : PySem.W.Frag} {ω : Wd} {env : Env'} {σ : L2.St} (e : EnvOk K ω env σ) (i : Nat) : EnvOk K ω (env.set i none) σ := by
  refine ⟨by simp [e.1], fun j u h => ?_⟩
  by_cases q : i = j
  · subst q
    have hi : i < env.length := by
      have := (List.getElem?_eq_some_iff.mp h).1
      simpa using this
    rw [List.getElem?_set_self hi] at h
    cases h
  · rw [List.getElem?_set_ne q] at h
    exact e.2 j u h
variable (K : PySem.W.Frag) (cl : Nat → Addr) (W : WX)
def tE (m : M T) : TE := fun σ H Q => ∃ env h ω, EnvOk K ω env σ ∧ StOk K cl ω h H ∧ PostG K cl W ω H σ (m env h) fun t _ ω' H' => ∀ v, Rep K ω' t v → Q v H'
def tA (m : M (List T)) : TA := fun σ H Q => ∃ env h ω, EnvOk K ω env σ ∧ StOk K cl ω h H ∧ PostG K cl W ω H σ (m env h) fun ts _ ω' H' => ∀ vs, Reps K ω' ts vs → Q vs H'
def tT (m : M Bool) : TT := fun σ H Q => ∃ env h ω, EnvOk K ω env σ ∧ StOk K cl ω h H ∧ PostG K cl W ω H σ (m env h) fun b _ _ H' => Q b H'
def tN (m : M (List T)) : TE := fun σ H Q => ∃ env h ω, EnvOk K ω env σ ∧ StOk K cl ω h H ∧ PostG K cl W ω H σ (m env h) fun ts _ ω' H' => ∀ l vs, Reps K ω' ts vs → H' l = some (.lst vs) → ω'.Phi l = none → l ∉ ω'.rho → H l = none → Q (.ref l) H'
end Sm
namespace Sm
open PySem PySem.Spec PyProof.Rows L2
section
variable {X : Cx}
theorem _root_.L2.PE.weak {e : Expr} {t t' : TE} (h : PE X e t) (m : ∀ σ H Q, t' σ H Q → t σ H Q) : PE X e t' := ⟨fun pins s σ H Q I q => h.run pins s σ H Q I (m σ H Q q)⟩
theorem _root_.L2.PT.weak {e : Expr} {t t' : TT} (h : PT X e t) (m : ∀ σ H Q, t' σ H Q → t σ H Q) : PT X e t' := ⟨fun pins s σ H Q I q => h.run pins s σ H Q I (m σ H Q q)⟩
theorem _root_.L2.PW.weak {e : Expr} {t t' : TT} (h : PW X e t) (m : ∀ σ H Q, t' σ H Q → t σ H Q) : PW X e t' := ⟨fun wh pins s σ H Q I q => h.run wh pins s σ H Q I (m σ H Q q)⟩
theorem _root_.L2.PA.weak {e : List Expr} {t t' : TA} (h : PA X e t) (m : ∀ σ H Q, t' σ H Q → t σ H Q) : PA X e t' := ⟨fun pos pins s σ H Q I q => h.run pos pins s σ H Q I (m σ H Q q)⟩
theorem _root_.L2.PS.weak {e : Stmt} {t t' : TS} (h : PS X e t) (m : ∀ D σ H, t' D σ H → t D σ H) : PS X e t' := ⟨fun pins s σ H D I q => h.run pins s σ H D I (m D σ H q)⟩
theorem _root_.L2.PSs.weak {e : List Stmt} {t t' : TS} (h : PSs X e t) (m : ∀ D σ H, t' D σ H → t D σ H) : PSs X e t' := ⟨fun pins s σ H D I q => h.run pins s σ H D I (m D σ H q)⟩
end
@[simp] def lstOf (h : Store) : T → Option (List T)
  | .lst xs => some xs
  | .loc n => match h[n]? with
    | some (.lst xs) => some xs
    | _ => none
  | _ => none
@[simp] def tupOf : T → Option (List T)
  | .tup xs => some xs
  | _ => none
@[simp] def seqOf (h : Store) : T → Option (List T)
  | .tup xs => some xs
  | .scr ns => some (ns.map .int)
  | t => lstOf h t
section
variable {K : PySem.W.Frag} {cl : Nat → Addr} {ω : Wd} {h : Store} {H : Hp}
theorem lstOf_ok (S : StOk K cl ω h H) {t : T} {v : V} {xs : List T} (r : Rep K ω t v) (e : lstOf h t = some xs) : ∃ p vs, v = .ref p ∧ H p = some (.lst vs) ∧ Reps K ω xs vs := by
  cases t with
  | lst ys =>
    simp only [lstOf, Option.some.injEq] at e
    subst e
    simp only [Rep] at r
    obtain ⟨p, vs, a, b, c⟩ := r
    exact ⟨p, vs, a, S.phi _ _ b, c⟩
  | loc n =>
    simp only [Rep] at r
    obtain ⟨p, rfl, q⟩ := r
    simp only [lstOf] at e
    cases hn : h[n]? with
    | none => rw [hn] at e; cases e
    | some c =>
      rw [hn] at e
      cases c with
      | lst ys =>
        cases e
        obtain ⟨_, vs, a, b⟩ := S.cells n _ p hn q
        exact ⟨p, vs, rfl, a, b⟩
      | _ => cases e
  | _ => simp [lstOf] at e
theorem tupOf_ok (S : StOk K cl ω h H) {t : T} {v : V} {xs : List T} (r : Rep K ω t v) (e : tupOf t = some xs) : ∃ p vs, v = .ref p ∧ SqT K H p vs ∧ Reps K ω xs vs := by
  cases t with
  | tup ys =>
    simp only [tupOf, Option.some.injEq] at e
    subst e
    simp only [Rep] at r
    obtain ⟨p, vs, a, b, c⟩ := r
    exact ⟨p, vs, a, sqT_mono S.phi b, c⟩
  | _ => simp [tupOf] at e
theorem reps_ints : ∀ ns : List Int, Reps K ω (ns.map T.int) (ns.map V.int)
  | [] => by simp only [List.map_nil, Reps]
  | n :: r => by
    simp only [List.map_cons, Reps, Rep]
    exact ⟨_, _, rfl, rfl, reps_ints r⟩
theorem seqOf_ok (S : StOk K cl ω h H) {t : T} {v : V} {xs : List T} (r : Rep K ω t v) (e : seqOf h t = some xs) : ∃ p vs, v = .ref p ∧ (SqL K H p vs ∨ SqT K H p vs) ∧ Reps K ω xs vs := by
  cases t with
  | tup ys =>
    obtain ⟨p, vs, a, b, c⟩ := tupOf_ok (xs := xs) S r (by simpa [seqOf] using e)
    exact ⟨p, vs, a, .inr b, c⟩
  | scr ns =>
    simp only [seqOf, Option.some.injEq] at e
    subst e
    simp only [Rep] at r
    obtain ⟨p, a, b⟩ := r
    exact ⟨p, ns.map V.int, a, .inl (sqL_mono S.phi b), reps_ints ns⟩
  | _ =>
    obtain ⟨p, vs, a, b, c⟩ := lstOf_ok (xs := xs) S r e
    exact ⟨p, vs, a, .inl (SqL.of b), c⟩
theorem lst_at (S : StOk K cl ω h H) {n : Nat} {v : V} {xs : List T} (r : Rep K ω (.loc n) v) (e : h[n]? = some (.lst xs)) : ∃ p vs, v = .ref p ∧ ω.rho[n]? = some p ∧ H p = some (.lst vs) ∧ Reps K ω xs vs ∧ pus xs = true := by
  simp only [Rep] at r
  obtain ⟨p, rfl, q⟩ := r
  obtain ⟨a, vs, b, c⟩ := S.cells n _ p e q
  exact ⟨p, vs, rfl, q, b, c, a⟩
end
section
variable {X : Cx} {cl : Nat → Addr} {W : WX}
def mVar (i : Nat) : M T := fun env h => match env[i]? with
  | some (some t) => .ok t h
  | _ => .bad
def mC (t : T) : M T := fun _ h => .ok t h
theorem k_var {e : Expr} {i : Nat} (hp : PE X e (tVar i)) : PE X e (tE X.K cl W (mVar i)) := by
  refine hp.weak fun σ H Q ⟨env, h, ω, he, hs, q⟩ => ?_
  unfold mVar at q
  cases hi : env[i]? with
  | none => rw [hi] at q; exact q.elim
  | some o =>
    rw [hi] at q
    cases o with
    | none => exact q.elim
    | some t =>
      obtain ⟨v, e1, r⟩ := he.2 i t hi
      exact ⟨v, e1, q ω H (Nx.refl _ _) hs v r⟩
theorem k_const {e : Expr} {t : T} {v : V} (hp : PE X e (tC v)) (r : ∀ ω, Rep X.K ω t v) : PE X e (tE X.K cl W (mC t)) :=
  hp.weak fun σ H Q ⟨env, h, ω, he, hs, q⟩ => q ω H (Nx.refl _ _) hs v (r ω)
theorem k_int {i : Int} {j pos} : PE X (.Constant (.int i) j pos) (tE X.K cl W (mC (.int i))) := k_const pe_int fun _ => by simp only [Rep]
theorem k_bl {b : Bool} {j pos} : PE X (.Constant (.bool b) j pos) (tE X.K cl W (mC (.bl b))) := k_const pe_bl fun _ => by simp only [Rep]
theorem k_non {j pos} : PE X (.Constant .none j pos) (tE X.K cl W (mC .non)) := k_const pe_non fun _ => by simp only [Rep]
theorem k_str {x : Str} {j pos} : PE X (.Constant (.str x) j pos) (tE X.K cl W (mC (.str x))) := k_const pe_str fun _ => by simp only [Rep]
end
abbrev F2 := T → T → Store → Option T
abbrev F1 := T → Store → Option T
abbrev FA := List T → Store → Option T
def rV2 (K : PySem.W.Frag) (cl : Nat → Addr) (f : F2) : R2 := fun x y H Q => ∃ a b h ω t, StOk K cl ω h H ∧ Rep K ω a x ∧ Rep K ω b y ∧ f a b h = some t ∧ ∀ ω' H' v, Nx ω H ω' H' → StOk K cl ω' h H' → Rep K ω' t v → Q v H'
def rVA (K : PySem.W.Frag) (cl : Nat → Addr) (f : FA) : List V → Hp → VK → Prop := fun xs H Q => ∃ as h ω t, StOk K cl ω h H ∧ Reps K ω as xs ∧ f as h = some t ∧ ∀ ω' H' v, Nx ω H ω' H' → StOk K cl ω' h H' → Rep K ω' t v → Q v H'
def mBin (f : F2) (m n : M T) : M T := fun env h => (m env h).bind fun a h1 => (n env h1).bind fun b h2 => Out.ofO (f a b h2) h2
def mUn (f : F1) (m : M T) : M T := fun env h => (m env h).bind fun a h1 => Out.ofO (f a h1) h1
def mTst (m : M T) : M Bool := fun env h => (m env h).bind fun a h1 => match a with
  | .bl b => .ok b h1
  | _ => .bad
section
variable {X : Cx} {cl : Nat → Addr} {W : WX} {a b : Expr} {m n : M T} {f : F2} {pos : Pos}
theorem two_step {K : PySem.W.Frag} {σ : L2.St} {H : Hp} {Q : VK} (h : tE K cl W (mBin f m n) σ H Q) : tE K cl W m σ H fun x H1 => tE K cl W n σ H1 fun y H2 => rV2 K cl f x y H2 Q := by
  obtain ⟨env, h, ω, he, hs, q⟩ := h
  refine ⟨env, h, ω, he, hs, (PostG.bind q).mono fun tx h1 ω1 H1 N1 S1 q1 vx rx => ⟨env, h1, ω1, he.mono N1.toGr, S1, (PostG.bind q1).mono fun ty h2 ω2 H2 N2 S2 q2 vy ry => ?_⟩⟩
  obtain ⟨t, e, q3⟩ := q2.ofO
  exact ⟨tx, ty, h2, ω2, t, S2, rx.mono N2.toGr, ry, e, fun ω' H' v N S r => q3 ω' H' N S v r⟩
theorem k_bin {op : Operator} (ho : OpR X (binaryOp op) (rV2 X.K cl f)) (ha : PE X a (tE X.K cl W m)) (hb : PE X b (tE X.K cl W n)) : PE X (.BinOp a op b pos) (tE X.K cl W (mBin f m n)) :=
  (pe_op ho ha hb).weak fun _ _ _ h => two_step h
theorem k_cmp {op : CmpOp} (ho : OpR X (compareOp op) (rV2 X.K cl f)) (hm : behindInMarks op b = false) (ha : PE X a (tE X.K cl W m)) (hb : PE X b (tE X.K cl W n)) : PE X (.Compare a [op] [b] pos) (tE X.K cl W (mBin f m n)) :=
  (pe_cmpR ho ha hb hm).weak fun _ _ _ h => two_step h
theorem tst_step {K : PySem.W.Frag} {σ : L2.St} {H : Hp} {Q : Bool → Hp → Prop} (h : tT K cl W (mTst m) σ H Q) : tE K cl W m σ H fun x H' => ∃ k, x = .bl k ∧ Q k H' := by
  obtain ⟨env, h, ω, he, hs, q⟩ := h
  refine ⟨env, h, ω, he, hs, (PostG.bind q).mono fun tx h1 ω1 H1 N1 S1 q1 vx rx => ?_⟩
  cases tx with
  | bl b =>
    simp only [Rep] at rx
    exact ⟨b, rx, q1 ω1 H1 (Nx.refl _ _) S1⟩
  | _ => exact q1.elim
theorem kt_cmp {op : CmpOp} (ho : OpR X (compareOp op) (rV2 X.K cl f)) (hm : behindInMarks op b = false) (ha : PE X a (tE X.K cl W m)) (hb : PE X b (tE X.K cl W n)) : PT X (.Compare a [op] [b] pos) (tT X.K cl W (mTst (mBin f m n))) := by
  refine (pt_cmpR ho ha hb hm).weak fun σ H Q h => ?_
  exact two_step (tst_step h)
def truF : T → Store → Option Bool
  | .non, _ => some false
  | .bl b, _ => some b
  | .int i, _ => some (i != 0)
  | .str y, _ => if y.length ≤ sizeLine then some ((y.length : Int) != 0) else none
  | .tup xs, _ => some (!xs.isEmpty)
  | .lst xs, _ => some (!xs.isEmpty)
  | .loc n, h => match h[n]? with
    | some (.lst xs) => some (!xs.isEmpty)
    | _ => none
  | .scr _, _ => none
  | .emp, _ => none
  | .adr _ _ _ _, _ => none
  | .fnc _, _ => none
  | .dct _ _, _ => none
def mTru (m : M T) : M Bool := fun env h => (m env h).bind fun a h1 => Out.ofO (truF a h1) h1
theorem Reps.empty {K : PySem.W.Frag} {ω : Wd} {xs : List T} {vs : List V} (r : Reps K ω xs vs) : (!xs.isEmpty) = !vs.isEmpty := by
  have := r.length
  cases xs <;> cases vs <;> simp_all
theorem truF_ok {K : PySem.W.Frag} {ω : Wd} {h : Store} {H : Hp} (S : StOk K cl ω h H) {t : T} {v : V} {k : Bool} (r : Rep K ω t v) (e : truF t h = some k) : TruV K v H k := by
  cases t with
  | non => simp only [Rep] at r; subst r; simp only [truF, Option.some.injEq] at e; exact e.symm
  | bl b => simp only [Rep] at r; subst r; simp only [truF, Option.some.injEq] at e; exact e.symm
  | int b => simp only [Rep] at r; subst r; simp only [truF, Option.some.injEq] at e; exact e.symm
  | str b =>
    simp only [Rep] at r; subst r
    simp only [truF] at e
    split at e
    · exact ⟨by assumption, by simpa using e.symm⟩
    · cases e
  | tup xs =>
    obtain ⟨p, vs, rfl, a, b⟩ := tupOf_ok (xs := xs) S r rfl
    simp only [truF, Option.some.injEq] at e
    exact .inr (.inl ⟨vs, a, by rw [← e]; exact b.empty⟩)
  | lst xs =>
    obtain ⟨p, vs, rfl, a, b⟩ := lstOf_ok (xs := xs) S r rfl
    simp only [truF, Option.some.injEq] at e
    exact .inl ⟨vs, SqL.of a, by rw [← e]; exact b.empty⟩
  | loc n =>
    simp only [truF] at e
    cases hn : h[n]? with
    | none => rw [hn] at e; cases e
    | some c =>
      rw [hn] at e
      cases c with
      | lst xs =>
        obtain ⟨p, vs, rfl, a, b⟩ := lstOf_ok (xs := xs) S r (by simp [lstOf, hn])
        simp only [Option.some.injEq] at e
        exact .inl ⟨vs, SqL.of a, by rw [← e]; exact b.empty⟩
      | _ => cases e
  | scr ns => simp [truF] at e
  | emp => simp [truF] at e
  | adr a d f ts => simp [truF] at e
  | fnc x => simp [truF] at e
  | dct ks ts => simp [truF] at e
theorem kt_tru {e : Expr} (h : PE X e (tE X.K cl W m)) (he : ∀ whole, isTrue e X.env whole = (do let v ← whole; standAt e.pos; holding [v] (truthy v)) := by intro _; rfl) : PT X e (tT X.K cl W (mTru m)) := by
  refine (pt_truth h he).weak fun σ H Q ⟨env, h, ω, he, hs, q⟩ => ?_
  refine ⟨env, h, ω, he, hs, (PostG.bind q).mono fun tx h1 ω1 H1 N1 S1 q1 vx rx => ?_⟩
  obtain ⟨k, e, q2⟩ := q1.ofO
  exact ⟨k, truF_ok S1 rx e, q2 ω1 H1 (Nx.refl _ _) S1⟩
def mAndT (m n : M Bool) : M Bool := fun env h => (m env h).bind fun a h1 => if a = true then n env h1 else .ok false h1
def mOrT (m n : M Bool) : M Bool := fun env h => (m env h).bind fun a h1 => if a = true then .ok true h1 else n env h1
def mNotT (m : M Bool) : M Bool := fun env h => (m env h).bind fun a h1 => .ok (!a) h1
variable {mb nb : M Bool} {rest : List Expr}
theorem kw_and1 (ha : PT X a (tT X.K cl W mb)) : PW X (.BoolOp .And [a] pos) (tT X.K cl W mb) := pw_and1 ha
theorem kw_or1 (ha : PT X a (tT X.K cl W mb)) : PW X (.BoolOp .Or [a] pos) (tT X.K cl W mb) := pw_or1 ha
theorem kw_and (ha : PT X a (tT X.K cl W mb)) (hb : PW X (.BoolOp .And (b :: rest) pos) (tT X.K cl W nb)) : PW X (.BoolOp .And (a :: b :: rest) pos) (tT X.K cl W (mAndT mb nb)) := by
  refine (pw_and ha hb).weak fun σ H Q ⟨env, h, ω, he, hs, q⟩ => ⟨env, h, ω, he, hs, (PostG.bind q).mono fun x h1 ω1 H1 N1 S1 q1 => ?_⟩
  cases x with
  | true => rw [if_pos rfl] at q1 ⊢; exact ⟨env, h1, ω1, he.mono N1.toGr, S1, q1⟩
  | false => rw [if_neg Bool.false_ne_true] at q1 ⊢; exact q1 ω1 H1 (Nx.refl _ _) S1
theorem kw_or (ha : PT X a (tT X.K cl W mb)) (hb : PW X (.BoolOp .Or (b :: rest) pos) (tT X.K cl W nb)) : PW X (.BoolOp .Or (a :: b :: rest) pos) (tT X.K cl W (mOrT mb nb)) := by
  refine (pw_or ha hb).weak fun σ H Q ⟨env, h, ω, he, hs, q⟩ => ⟨env, h, ω, he, hs, (PostG.bind q).mono fun x h1 ω1 H1 N1 S1 q1 => ?_⟩
  cases x with
  | true => rw [if_pos rfl] at q1 ⊢; exact q1 ω1 H1 (Nx.refl _ _) S1
  | false => rw [if_neg Bool.false_ne_true] at q1 ⊢; exact ⟨env, h1, ω1, he.mono N1.toGr, S1, q1⟩
theorem kt_bool (h : PW X a (tT X.K cl W mb)) : PT X a (tT X.K cl W mb) := h.pt
theorem kt_not (ha : PT X a (tT X.K cl W mb)) : PT X (.UnaryOp .Not a pos) (tT X.K cl W (mNotT mb)) := by
  refine (pt_not ha).weak fun σ H Q ⟨env, h, ω, he, hs, q⟩ => ⟨env, h, ω, he, hs, (PostG.bind q).mono fun x h1 ω1 H1 N1 S1 q1 => q1 ω1 H1 (Nx.refl _ _) S1⟩
def mAndV (m n : M T) : M T := fun env h => (m env h).bind fun a h1 => match a with
  | .bl c => if c = true then n env h1 else .ok (.bl false) h1
  | _ => .bad
def mOrV (m n : M T) : M T := fun env h => (m env h).bind fun a h1 => match a with
  | .bl c => if c = true then .ok (.bl true) h1 else n env h1
  | _ => .bad
def mNotV (m : M T) : M T := fun env h => (m env h).bind fun a h1 => match a with
  | .bl c => .ok (.bl (!c)) h1
  | _ => .bad
theorem k_one {op} (h : PE X a (tE X.K cl W m)) : PE X (.BoolOp op [a] pos) (tE X.K cl W m) := pe_one h
theorem k_and (ha : PE X a (tE X.K cl W m)) (hb : PE X (.BoolOp .And (b :: rest) pos) (tE X.K cl W n)) : PE X (.BoolOp .And (a :: b :: rest) pos) (tE X.K cl W (mAndV m n)) := by
  refine (pe_and ha hb).weak fun σ H Q ⟨env, h, ω, he, hs, q⟩ => ⟨env, h, ω, he, hs, (PostG.bind q).mono fun x h1 ω1 H1 N1 S1 q1 v r => ?_⟩
  cases x with
  | bl c =>
    simp only [Rep] at r
    refine ⟨c, r, ?_⟩
    cases c with
    | true => exact ⟨env, h1, ω1, he.mono N1.toGr, S1, q1⟩
    | false => exact q1 ω1 H1 (Nx.refl _ _) S1 _ (by simp only [Rep])
  | _ => exact q1.elim
theorem k_or (ha : PE X a (tE X.K cl W m)) (hb : PE X (.BoolOp .Or (b :: rest) pos) (tE X.K cl W n)) : PE X (.BoolOp .Or (a :: b :: rest) pos) (tE X.K cl W (mOrV m n)) := by
  refine (pe_or ha hb).weak fun σ H Q ⟨env, h, ω, he, hs, q⟩ => ⟨env, h, ω, he, hs, (PostG.bind q).mono fun x h1 ω1 H1 N1 S1 q1 v r => ?_⟩
  cases x with
  | bl c =>
    simp only [Rep] at r
    refine ⟨c, r, ?_⟩
    cases c with
    | true => exact q1 ω1 H1 (Nx.refl _ _) S1 _ (by simp only [Rep])
    | false => exact ⟨env, h1, ω1, he.mono N1.toGr, S1, q1⟩
  | _ => exact q1.elim
theorem k_not (ha : PE X a (tE X.K cl W m)) : PE X (.UnaryOp .Not a pos) (tE X.K cl W (mNotV m)) := by
  refine (pe_not ha).weak fun σ H Q ⟨env, h, ω, he, hs, q⟩ => ⟨env, h, ω, he, hs, (PostG.bind q).mono fun x h1 ω1 H1 N1 S1 q1 v r => ?_⟩
  cases x with
  | bl c =>
    simp only [Rep] at r
    exact ⟨c, r, q1 ω1 H1 (Nx.refl _ _) S1 _ (by simp only [Rep])⟩
  | _ => exact q1.elim
def mIf (c : M Bool) (m n : M T) : M T := fun env h => (c env h).bind fun a h1 => if a = true then m env h1 else n env h1
def mChain (f g : F2) (m n p : M T) : M T := fun env h => (m env h).bind fun a h1 => (n env h1).bind fun b h2 => (Out.ofO (f a b h2) h2).bind fun k h3 => match k with
  | .bl c => if c = true then (p env h3).bind fun d h4 => Out.ofO (g b d h4) h4 else .ok (.bl false) h3
  | _ => .bad
variable {g : F2} {p : M T} {c : Expr}
theorem chain_step {K : PySem.W.Frag} {σ : L2.St} {H : Hp} {Q : VK} (h : tE K cl W (mChain f g m n p) σ H Q) : tChain (rV2 K cl f) (rV2 K cl g) (tE K cl W m) (tE K cl W n) (tE K cl W p) σ H Q := by
  obtain ⟨env, h, ω, he, hs, q⟩ := h
  refine ⟨env, h, ω, he, hs, (PostG.bind q).mono fun tx h1 ω1 H1 N1 S1 q1 vx rx => ⟨env, h1, ω1, he.mono N1.toGr, S1, (PostG.bind q1).mono fun ty h2 ω2 H2 N2 S2 q2 vy ry => ?_⟩⟩
  obtain ⟨t, e, q3⟩ := (PostG.bind q2).ofO
  refine ⟨tx, ty, h2, ω2, t, S2, rx.mono N2.toGr, ry, e, fun ω3 H3 v N3 S3 r3 => ?_⟩
  have q4 := q3 ω3 H3 N3 S3
  cases t with
  | bl k =>
    simp only [Rep] at r3
    refine ⟨k, r3, ?_⟩
    cases k with
    | false => exact q4 ω3 H3 (Nx.refl _ _) S3 _ (by simp only [Rep])
    | true =>
      rw [if_pos rfl]
      refine ⟨env, h2, ω3, ((he.mono N1.toGr).mono N2.toGr).mono N3.toGr, S3, (PostG.bind q4).mono fun td h4 ω4 H4 N4 S4 q5 vd rd => ?_⟩
      obtain ⟨t', e', q6⟩ := q5.ofO
      exact ⟨ty, td, h4, ω4, t', S4, (ry.mono N3.toGr).mono N4.toGr, rd, e', fun ω' H' v N S r => q6 ω' H' N S v r⟩
  | _ => exact q4.elim
theorem k_chain {op op' : CmpOp} (ho : OpR X (compareOp op) (rV2 X.K cl f)) (ho' : OpR X (compareOp op') (rV2 X.K cl g)) (ha : PE X a (tE X.K cl W m)) (hb : PE X b (tE X.K cl W n)) (hc : PE X c (tE X.K cl W p))
    (hm : lastMarks [op, op'] [b, c] = false := by with_unfolding_all rfl) : PE X (.Compare a [op, op'] [b, c] pos) (tE X.K cl W (mChain f g m n p)) :=
  (pe_chain ho ho' ha hb hc hm).weak fun _ _ _ h => chain_step h
theorem kt_chain {op op' : CmpOp} (ho : OpR X (compareOp op) (rV2 X.K cl f)) (ho' : OpR X (compareOp op') (rV2 X.K cl g)) (ha : PE X a (tE X.K cl W m)) (hb : PE X b (tE X.K cl W n)) (hc : PE X c (tE X.K cl W p))
    (hm : lastMarks [op, op'] [b, c] = false := by with_unfolding_all rfl) : PT X (.Compare a [op, op'] [b, c] pos) (tT X.K cl W (mTst (mChain f g m n p))) :=
  (pt_chain ho ho' ha hb hc hm).weak fun _ _ _ h => chain_step (tst_step h)
def mNil : M (List T) := fun _ h => .ok [] h
def mCons (m : M T) (r : M (List T)) : M (List T) := fun env h => (m env h).bind fun a h1 => (r env h1).bind fun as h2 => .ok (a :: as) h2
variable {e : Expr} {es : List Expr} {r : M (List T)}
theorem ka_nil : PA X [] (tA X.K cl W mNil) := pa_nil.weak fun σ H Q ⟨env, h, ω, he, hs, q⟩ => q ω H (Nx.refl _ _) hs [] Reps.nil
theorem ka_cons (ha : PE X e (tE X.K cl W m)) (hr : PA X es (tA X.K cl W r)) (hs : starEach (e :: es) X.env = (false, eval e X.env) :: starEach es X.env := by rfl) : PA X (e :: es) (tA X.K cl W (mCons m r)) := by
  refine (pa_cons ha hr hs).weak fun σ H Q ⟨env, h, ω, he, hs, q⟩ => ⟨env, h, ω, he, hs, (PostG.bind q).mono fun x h1 ω1 H1 N1 S1 q1 v rv => ⟨env, h1, ω1, he.mono N1.toGr, S1, (PostG.bind q1).mono fun xs h2 ω2 H2 N2 S2 q2 vs rvs => ?_⟩⟩
  exact q2 ω2 H2 (Nx.refl _ _) S2 _ (Reps.cons (rv.mono N2.toGr) rvs)
def mTup (r : M (List T)) : M T := fun env h => (r env h).bind fun ts h1 => if ts.length ≤ 10000 then .ok (.tup ts) h1 else .bad
theorem le_line {n : Nat} (h : n ≤ 10000) : n ≤ sizeLine := by rw [sizeLine_eq]; omega
theorem k_tup {x1} (hr : PA X es (tA X.K cl W r)) : PE X (.Tuple es x1 pos) (tE X.K cl W (mTup r)) := by
  refine (pe_tup hr).weak fun σ H Q ⟨env, h, ω, he, hs, q⟩ => ⟨env, h, ω, he, hs, (PostG.bind q).mono fun ts h1 ω1 H1 N1 S1 q1 vs rvs => ?_⟩
  split at q1
  · rename_i hl
    refine ⟨by rw [← rvs.length]; exact le_line hl, fun p hp => ?_⟩
    refine q1 _ _ (nx_newF S1 hp) (S1.newF hp) _ ?_
    simp only [Rep]
    exact ⟨p, vs, rfl, SqT.of upd_same, rvs.mono (gr_fix (S1.freshF hp))⟩
  · exact q1.elim
def mLst (r : M (List T)) : M (List T) := fun env h => (r env h).bind fun ts h1 => if ts.length ≤ 10000 then .ok ts h1 else .bad
theorem kn_lst (hr : PA X es (tA X.K cl W r)) : PE X (.List es pos) (tN X.K cl W (mLst r)) := by
  refine (pe_lst hr).weak fun σ H Q ⟨env, h, ω, he, hs, q⟩ => ⟨env, h, ω, he, hs, (((PostG.bind q).mono fun ts h1 ω1 H1 N1 S1 q1 vs rvs => ?_))⟩
  split at q1
  · rename_i hl
    refine ⟨by rw [← rvs.length]; exact le_line hl, fun p hp => ?_⟩
    exact q1 _ _ (nx_lay hp) (S1.lay hp) p vs rvs upd_same (S1.freshF hp) (S1.freshR hp) (N1.dom p hp)
  · exact q1.elim
def mFrz (r : M (List T)) : M T := fun env h => (r env h).bind fun ts h1 => .ok (.lst ts) h1
def mCell (r : M (List T)) : M T := fun env h => (r env h).bind fun ts h1 => if pus ts = true then .ok (.loc h1.length) (h1 ++ [.lst ts]) else .bad
theorem k_frz (h : PE X e (tN X.K cl W r)) : PE X e (tE X.K cl W (mFrz r)) := by
  refine h.weak fun σ H Q ⟨env, h, ω, he, hs, q⟩ => ⟨env, h, ω, he, hs, ?_⟩
  unfold mFrz at q
  revert q
  cases r env h with
  | bad => exact fun z => z
  | ex x h1 => exact fun z => z
  | ok ts h1 =>
    intro q ω1 H1 N1 S1 l vs rvs e1 n1 n2 f1
    refine q _ H1 (N1.fixIt (o := .lst vs) n1 f1) (S1.fixIt e1 n1 n2) _ ?_
    simp only [Rep]
    exact ⟨l, vs, rfl, upd_same, rvs.mono (gr_fix n1)⟩
theorem k_cell (h : PE X e (tN X.K cl W r)) : PE X e (tE X.K cl W (mCell r)) := by
  refine h.weak fun σ H Q ⟨env, h, ω, he, hs, q⟩ => ⟨env, h, ω, he, hs, ?_⟩
  unfold mCell at q
  revert q
  cases r env h with
  | bad => exact fun z => z
  | ex x h1 => exact fun z => z
  | ok ts h1 =>
    intro q ω1 H1 N1 S1 l vs rvs e1 n1 n2 f1
    simp only [Out.bind] at q
    split at q
    · rename_i hp
      refine q _ H1 (N1.cellIt f1) (S1.cellIt (c := .lst ts) ⟨hp, vs, e1, rvs⟩ n1 n2) _ ?_
      simp only [Rep]
      refine ⟨l, rfl, ?_⟩
      show (ω1.rho ++ [l])[h1.length]? = some l
      rw [List.getElem?_append_right (by rw [S1.len]; exact Nat.le_refl _), S1.len]
      simp
    · exact q.elim
end
end Sm
namespace Sm
open PySem PySem.Spec PyProof.Rows L2
def SqX (K : PySem.W.Frag) (H : Hp) (t : Bool) (a : Addr) (xs : List V) : Prop := cond t (SqT K H a xs) (SqL K H a xs)
def ItX (h : Heap) (t : Bool) (j a : Addr) (i : Nat) : Prop := cond t (h.IsTupleIter j a i) (h.IsListIter j a i)
def CtX (h : Heap) (t : Bool) (a : Addr) (us : Array Value) : Prop := cond t (h.IsTuple a us) (h.IsList a us)
def objX (t : Bool) (a : Addr) : Obj := { cls := .type (cond t "tuple_iterator" "list_iterator"), data := .fields #[.ref a, .int 0 0] }
section
variable {X : Cx} {pins : List (Addr × Obj)} {σ : L2.St} {H : Hp} {s : Shared} {t : Bool} {a j : Addr} {xs ys : List V} {h h' : Heap} {i : Nat}
theorem sqx_get (I : Inv X pins σ H s) : SqX X.K H t a xs → ∃ us : List Value, Vals xs us ∧ CtX s.heap t a us.toArray ∧ a < s.heap.objs.size := by
  intro q
  cases t
  · have ⟨us, r, p, _⟩ := I.list (show SqL X.K H a xs from q)
    exact ⟨us, r, p.isList, p.lt⟩
  · have ⟨us, r, p, _⟩ := I.tuple (show SqT X.K H a xs from q)
    have ⟨o, ho, _⟩ := p
    exact ⟨us, r, ⟨o, ho, ‹_›⟩, Heap.lt_size ho⟩
theorem sqx_inj (I : Inv X pins σ H s) : SqX X.K H t a xs → SqX X.K H t a ys → xs = ys := by
  cases t
  · exact fun q r => I.list_inj q r
  · exact fun q r => I.tuple_inj q r
theorem itx_at (q : ItX h t j a i) (k : ∀ o, h.get? j = some o → h'.get? j = some o) : ItX h' t j a i := by
  cases t
  · exact Heap.IsListIter.at q k
  · exact Heap.IsTupleIter.at q k
theorem itx_obj (q : ItX h t j a i) : ∃ o, h.get? j = some o ∧ ∀ v, o.data ≠ .cell v := by
  cases t <;> exact (let ⟨o, ho, _, hd⟩ := q; ⟨o, ho, fun v e => by rw [hd] at e; cases e⟩)
theorem drx (hh : X.A.handled = none) (hne : a ≠ j) (us : Array Value) : Draws X.prog X.w X.A.in1 j [j, a] us.size (fun i v => us[i]? = some v) (fun i h => ItX h t j a i ∧ CtX h t a us) := by
  cases t
  · exact Draws.list (A := X.A.in1) hh j a hne us
  · exact Draws.tuple (A := X.A.in1) hh j a hne us
theorem begx (us : Array Value) : Begins (.ref a) (objX t a) (fun h => CtX h t a us) := by
  cases t
  · exact begins_list a us
  · exact begins_tuple a us
theorem itx_new (e : h.get? j = some (objX t a)) : ItX h t j a 0 := by
  cases t <;> exact ⟨_, e, rfl, rfl⟩
theorem vals_at {us : List Value} (r : Vals xs us) {y : Value} (e : us.toArray[i]? = some y) : ∃ x, xs[i]? = some x ∧ RelV x y := by
  have hi : i < us.length := by
    have := (Array.getElem?_eq_some_iff.mp e).1
    simpa using this
  have hx : xs[i]? = some (xs[i]'(by rw [r.length]; exact hi)) := List.getElem?_eq_getElem _
  have ⟨u, hu, ru⟩ := r.get hx
  refine ⟨_, hx, ?_⟩
  have : us[i]? = some y := by simpa using e
  rw [hu] at this
  cases this
  exact ru
end
structure Tab where
  n : Nat
  row : Nat → List V → Prop
def rowIt (Rw : Hp → Tab → Prop) : It :=
  ⟨fun i H => ∃ b, Rw H b ∧ i < b.n, fun i H v H' => ∃ T xs, v = .ref T ∧ H T = none ∧ H' = upd H T (.tup xs) ∧ ∀ b, Rw H b → b.row i xs, fun i H => ∃ b, Rw H b ∧ i = b.n⟩
structure Giver (P : Program) (w : World) (K : PySem.W.Frag) (Rw : Hp → Tab → Prop) (fp : List Addr) (it : Addr) (tn : Nat → Heap → Prop) : Prop where
  mem : it ∈ fp
  obj : ∀ i h, tn i h → ∀ c ∈ fp, ∃ o, h.get? c = some o ∧ ∀ v, o.data ≠ .cell v
  keep : ∀ i h h', tn i h → (∀ c ∈ fp, ∀ o, h.get? c = some o → h'.get? c = some o) → tn i h'
  self : ∀ A i s Q E, tn i s.heap → Q (.ref it) s → wpAny (model P w) A (pyIter (.ref it)) Q E s
  uni : ∀ (X : Cx) pins σ H s b b', X.K = K → Inv X pins σ H s → Rw H b → Rw H b' → b = b'
  give : ∀ (X : Cx) pins σ H s b i, X.prog = P → X.w = w → X.K = K → X.A.handled = none → Inv X pins σ H s → tn i s.heap → Rw H b → ∃ fp' wr Pt St Mid, WalksT P w X.A it fp' wr b.n Pt St Mid ∧
    (∀ c ∈ wr, c ∈ fp) ∧ St i s.heap ∧ (∀ j h, St j h → tn j h) ∧ ∀ us, Pt i us → ∃ xs, Vals xs us.toList ∧ xs.length ≤ 3 ∧ b.row i xs
section
variable {P : Program} {w : World} {K : PySem.W.Frag} {Rw : Hp → Tab → Prop} {fp : List Addr} {it : Addr} {tn : Nat → Heap → Prop} {elts : List Expr} {kk : Nat} {tpos : Pos}
theorem Giver.turn (G : Giver P w K Rw fp it tn) : Turn P w K (.Tuple elts kk tpos) (rowIt Rw) fp it tn where
  mem := G.mem
  obj := G.obj
  keep := G.keep
  self := fun A i s Q E st h => G.self A i s Q E st h
  item := by
    intro X e1 e2 e3 hc i pins s σ H E I hf st ⟨b, hb, hi⟩
    have ⟨fp', wr, Pt, Sx, Mid, W, hw, st', back, hrow⟩ := G.give X pins σ H s b i e1 e2 e3 (I.ok.hd hc) I st hb
    refine W.item i s _ E hi st' fun T us h1 tk hP hT ht hm k1 => ⟨_, rfl, W.go elts kk tpos i T { s with heap := h1, toks := tk } _ E hm fun h2 st2 k2 => ?_⟩
    have ⟨xs, rx, hx, hr⟩ := hrow us hP
    have ⟨o, ho, hcl, m, hd⟩ := ht
    have ho2 := k2 T o (W.apart i T h1 hm) ho
    subst e1 e2
    refine ⟨.ref T, upd H T (.tup xs), I.turnedNew (t' := tk) (ch := fp) (fun c oc n e => k2 c oc (fun z => n (hw c z)) (k1 c oc (fun z => n (hw c z)) e)) hf hT ⟨Nat.le_trans hx (by decide), us.toList, rx, ⟨o, ho2, hcl, m, by rw [hd]⟩⟩, rfl, ⟨T, xs, rfl, I.hok.fresh hT, rfl, fun b' hb' => ?_⟩, back _ _ st2, fun c hcm => ?_⟩
    · rw [← G.uni X pins σ H s b b' e3 I hb hb']
      exact hr
    · have ⟨oc, hoc, _⟩ := G.obj i s.heap st c hcm
      rw [upd_ne (fun e => by rw [e] at hoc; exact absurd (Heap.lt_size hoc) (Nat.not_lt.mpr hT))]
      exact (hf c hcm).1
  done := by
    intro X e1 e2 e3 hc i pins s σ H E I hf st ⟨b, hb, hi⟩
    have ⟨fp', wr, Pt, Sx, Mid, W, hw, st', _⟩ := G.give X pins σ H s b i e1 e2 e3 (I.ok.hd hc) I st hb
    subst hi
    exact W.done s _ E st' fun h1 tk k1 => ⟨rfl, I.turnedL (t' := tk) (ch := fp) (fun c oc n e => k1 c oc (fun z => n (hw c z)) e) hf⟩
theorem Giver.begun {X : Cx} {pins : List (Addr × Obj)} {σ : L2.St} {H : Hp} {s : Shared} {h' : Heap} {R : It → Hp → Prop} (G : Giver X.prog X.w X.K Rw fp it tn) (I : Inv X pins σ H s) (k : ∀ c o, s.heap.get? c = some o → h'.get? c = some o)
    (st : tn 0 h') (hfp : ∀ c ∈ fp, s.heap.objs.size ≤ c) (q : R (rowIt Rw) H) : PIE X pins σ (.Tuple elts kk tpos) R (.ref it) { s with heap := h' } :=
  ⟨it, fp, tn, rowIt Rw, H, rfl, I.kept (t' := s.toks) k, G.turn, st, fun c m => I.fpOk (hfp c m) (I.hok.fresh (hfp c m)), q⟩
end
def enumHp (h : Heap) (o : Obj) : Heap := (h.push o).push { cls := .type "enumerate", data := .fields #[.none, .bool false, .ref h.objs.size, rawInt 0, .none, .none] }
set_option maxHeartbeats 1000000 in
theorem enum_made {v : Value} {o : Obj} {C : Heap → Prop} (B : Begins v o C) : Meets (Builtin.«enumerate.__new__» ⟨[.type "enumerate", v], []⟩) (fun _ R s => C s.heap ∧ R (.ok (.ret (.ref (s.heap.push o).objs.size))) { s with heap := enumHp s.heap o }) := by
  refine .of_wp fun P w A R s ⟨c, q⟩ => ?_
  have hsub := sub_enumerate
  have it1 : ∀ {A1 : Around} {E Q : Value → Shared → Prop}, Q (.ref s.heap.objs.size) { s with heap := s.heap.push o } → wpAny (model P w) A1 (pyIter v) Q E s := fun z => B.iter P w _ _ s _ c z
  cases s
  wp_walk using it1
  refine wpAny_stack_any fun _ => wpAny_pure ?_
  split
  · rename_i ty _ _ _ _ _
    cases ty == Value.type "enumerate" <;> (wp_walk using it1; exact ⟨_, rfl, q⟩)
  · wp_walk using it1
    exact ⟨_, rfl, q⟩
theorem enum_called {P : Program} {w : World} {A : Around} {E Q : Value → Shared → Prop} {s : Shared} {v : Value} {o : Obj} {C : Heap → Prop} (B : Begins v o C) (c : C s.heap)
    (q : ∀ h', IsEnum h' (s.heap.objs.size + 1) s.heap.objs.size 0 .none → h'.get? s.heap.objs.size = some o → (∀ b ob, s.heap.get? b = some ob → h'.get? b = some ob) → Q (.ref (s.heap.objs.size + 1)) { s with heap := h' }) :
    wpAny (model P w) A (call (.type "enumerate") [v]) Q E s := by
  have z : (s.heap.push o).objs.size = s.heap.objs.size + 1 := Heap.size_push ..
  have top : IsEnum (enumHp s.heap o) (s.heap.objs.size + 1) s.heap.objs.size 0 .none := by
    have e := Heap.get?_push_size (s.heap.push o) (o := { cls := .type "enumerate", data := .fields #[.none, .bool false, .ref s.heap.objs.size, rawInt 0, .none, .none] }) rfl
    rwa [z] at e
  refine callType_new F.called_enumerate (by decide) (F.typeCall_enumerate_1 _) (F.newCall_enumerate_1 _) (fun ob => F.args_object_init_2 ob _) F.entry_enumerate_new (enum_made B) ⟨c, ?_⟩
  show _ ∧ _
  rw [z]
  exact ⟨⟨_, top, rfl⟩, q _ top (Heap.get?_push_of_some _ (Heap.get?_push_size _ B.free)) fun b ob e => Heap.get?_push_of_some _ (Heap.get?_push_of_some _ e)⟩
def rwE (K : PySem.W.Frag) (t : Bool) (a : Addr) (H : Hp) (b : Tab) : Prop := ∃ xs, SqX K H t a xs ∧ b = ⟨xs.length, fun i r => ∃ x, xs[i]? = some x ∧ r = [.int (i : Nat), x]⟩
theorem enum_giver {P : Program} {w : World} {K : PySem.W.Frag} {t : Bool} {a e j : Addr} (n1 : a ≠ e) (n2 : a ≠ j) (n3 : e ≠ j) :
    Giver P w K (rwE K t a) [e, j] e (fun i h => (∃ old, IsEnum h e j (0 + (i : Int)) old) ∧ ItX h t j a i) where
  mem := List.mem_cons_self ..
  obj := by
    intro i h ⟨⟨old, he⟩, hj⟩
    exact List.forall_mem_cons.mpr ⟨⟨_, he, nofun⟩, List.forall_mem_cons.mpr ⟨itx_obj hj, nofun⟩⟩
  keep := fun i h h' ⟨⟨old, he⟩, hj⟩ k => ⟨⟨old, k e (by simp) _ he⟩, itx_at hj (k j (by simp))⟩
  self := fun A i s Q E ⟨⟨_, he⟩, _⟩ q => wpAny_pyIter_enum he q
  uni := by
    rintro X pins σ H s _ _ rfl I ⟨xs, q, rfl⟩ ⟨ys, r, rfl⟩
    rw [sqx_inj I q r]
  give := by
    rintro X pins σ H s _ i rfl rfl rfl hh I ⟨he, hj⟩ ⟨xs, q, rfl⟩
    have ⟨us, r, c, _⟩ := sqx_get I q
    have W := WalksT.enumFrom (A := X.A) 0 (drx (X := X) (t := t) hh n2 us.toArray) e n3 (by simp [n3, Ne.symm n1]) (List.mem_cons_self ..)
    rw [show us.toArray.size = xs.length by rw [r.length]; rfl] at W
    refine ⟨_, _, _, _, _, W, fun c m => m, ⟨he, hj, c⟩, fun k h st => ⟨st.1, st.2.1⟩, fun vs ⟨tk, y, e1, e2⟩ => ?_⟩
    have ⟨x, hx, rx⟩ := vals_at r e1
    subst e2
    exact ⟨[.int (i : Nat), x], .cons ⟨tk, by rw [Int.zero_add]⟩ (.cons rx .nil), by simp, x, hx, rfl⟩
def iEnumX (K : PySem.W.Frag) (ta : TA) : TI := fun σ H R => ta σ H fun vs H1 => ∃ t a xs, vs = [.ref a] ∧ SqX K H1 t a xs ∧ R (rowIt (rwE K t a)) H1
theorem pi_enumX {X : Cx} {e : Expr} {ta : TA} {p pos tpos : Pos} {elts : List Expr} {kk : Nat} (hg : Gl X "enumerate") (hm : X.mg "enumerate" = none) (ha : PA X [e] ta) (hs : starEach [e] X.env = [(false, eval e X.env)] := by rfl) :
    PI X (.Tuple elts kk tpos) (.Call (.Name "enumerate" p) [e] [] pos) (iEnumX X.K ta) := by
  constructor
  intro pins s σ H R I q0
  refine Call_ (ld_blt I hg hm boot_enumerate (PyProof.Rows.callWith_type1 (thn (ha.run pos pins s σ H _ I q0) fun us s1 ⟨vs, H1, I1, rr, t, a, xs, ex, hq, q⟩ => ?_) hs rfl))
  subst ex
  have ⟨u, eu, ru⟩ := rr.one
  subst eu
  cases ru
  have ⟨us, r, c, la⟩ := sqx_get I1 hq
  refine enum_called (begx us.toArray) c fun h' he hj k => wpAny_pyIter_enum he ((enum_giver (Nat.ne_of_lt (Nat.lt_succ_of_lt la)) (Nat.ne_of_lt la) (Nat.succ_ne_self _)).begun I1 k ⟨⟨_, he⟩, itx_new hj⟩ ?_ q)
  exact List.forall_mem_cons.mpr ⟨Nat.le_succ _, List.forall_mem_cons.mpr ⟨Nat.le_refl _, nofun⟩⟩
def rwZ (K : PySem.W.Frag) (t1 t2 : Bool) (a b : Addr) (H : Hp) (B : Tab) : Prop :=
  ∃ xs ys, SqX K H t1 a xs ∧ SqX K H t2 b ys ∧ B = ⟨min xs.length ys.length, fun i r => ∃ x y, xs[i]? = some x ∧ ys[i]? = some y ∧ r = [x, y]⟩
theorem zip_giver {P : Program} {w : World} {K : PySem.W.Frag} {t1 t2 : Bool} {a b z TI TO j1 j2 : Addr} (D : ZipSep2 z TI TO j1 j2 [j1, a] [j2, b]) (n1 : a ≠ j1) (n2 : b ≠ j2) :
    Giver P w K (rwZ K t1 t2 a b) [z, TI, TO, j1, j2] z (fun i h => IsZip h z TI TO .none ∧ IsTupOf2 h TI (.ref j1) (.ref j2) ∧ (∃ x y, IsTupOf2 h TO x y) ∧ ItX h t1 j1 a i ∧ ItX h t2 j2 b i) where
  mem := List.mem_cons_self ..
  obj := by
    intro i h ⟨hz, hI, ⟨x, y, hO⟩, h1, h2⟩
    simp only [List.forall_mem_cons]
    exact ⟨⟨_, hz, nofun⟩, ⟨_, hI, nofun⟩, ⟨_, hO, nofun⟩, itx_obj h1, itx_obj h2, nofun⟩
  keep := by
    intro i h h' ⟨hz, hI, ⟨x, y, hO⟩, h1, h2⟩ k
    simp only [List.forall_mem_cons] at k
    have ⟨kz, kI, kO, k1, k2, _⟩ := k
    exact ⟨kz _ hz, kI _ hI, ⟨x, y, kO _ hO⟩, itx_at h1 k1, itx_at h2 k2⟩
  self := fun A i s Q E st q => wpAny_pyIter_zip st.1 q
  uni := by
    rintro X pins σ H s _ _ rfl I ⟨xs, ys, q1, q2, rfl⟩ ⟨xs', ys', r1, r2, rfl⟩
    rw [sqx_inj I q1 r1, sqx_inj I q2 r2]
  give := by
    rintro X pins σ H s _ i rfl rfl rfl hh I ⟨hz, hI, hO, h1, h2⟩ ⟨xs, ys, q1, q2, rfl⟩
    have ⟨us, r1, c1, _⟩ := sqx_get I q1
    have ⟨ws, r2, c2, _⟩ := sqx_get I q2
    have W := WalksT.zipD2 (A := X.A) D (drx (X := X) (t := t1) hh n1 us.toArray) (drx (X := X) (t := t2) hh n2 ws.toArray)
    rw [show min us.toArray.size ws.toArray.size = min xs.length ys.length by rw [r1.length, r2.length]; rfl] at W
    refine ⟨_, _, _, _, _, W, ?_, ⟨hz, hI, hO, ⟨h1, c1⟩, h2, c2⟩, fun k h st => ⟨st.1, st.2.1, st.2.2.1, st.2.2.2.1.1, st.2.2.2.2.1⟩, fun vs ⟨y1, y2, e1, e2, e3⟩ => ?_⟩
    · simp only [List.forall_mem_cons]
      simp
    · have ⟨x1, hx1, rx1⟩ := vals_at r1 e1
      have ⟨x2, hx2, rx2⟩ := vals_at r2 e2
      subst e3
      exact ⟨[x1, x2], .cons rx1 (.cons rx2 .nil), by simp, x1, x2, hx1, hx2, rfl⟩
theorem lt_of_one {N : Nat} {a : Addr} (h : a < N) : ∀ c ∈ [a], c < N := List.forall_mem_cons.mpr ⟨h, nofun⟩
def iZipX (K : PySem.W.Frag) (ta : TA) : TI := fun σ H R => ta σ H fun vs H1 => ∃ t1 t2 a b xs ys, vs = [.ref a, .ref b] ∧ SqX K H1 t1 a xs ∧ SqX K H1 t2 b ys ∧ R (rowIt (rwZ K t1 t2 a b)) H1
theorem pi_zipX {X : Cx} {e e2 : Expr} {ta : TA} {p pos tpos : Pos} {elts : List Expr} {kk : Nat} (hg : Gl X "zip") (hm : X.mg "zip" = none) (ha : PA X [e, e2] ta)
    (hst : starEach [e, e2] X.env = (false, eval e X.env) :: starEach [e2] X.env := by rfl) (hpl : (backTo pos (starEach [e2] X.env)).any (·.1) = false := by rfl) :
    PI X (.Tuple elts kk tpos) (.Call (.Name "zip" p) [e, e2] [] pos) (iZipX X.K ta) := by
  constructor
  intro pins s σ H R I q0
  refine Call_ (ld_blt I hg hm PyProof.Rows.boot_zip (PyProof.Rows.callWith_type1 (thn (ha.run pos pins s σ H _ I q0) fun us s1 ⟨vs, H1, I1, rr, t1, t2, a, b, xs, ys, ex, d1, d2, q⟩ => ?_) hst hpl))
  subst ex
  obtain _ | ⟨ra, _ | ⟨rb, _ | _⟩⟩ := rr
  cases ra
  cases rb
  have ⟨us, r1, c1, la⟩ := sqx_get I1 d1
  have ⟨ws, r2, c2, lb⟩ := sqx_get I1 d2
  refine zip_begins2 (begx us.toArray) (begx ws.toArray) c1 c2 fun h' hz hI hO g1 g2 _ k => wpAny_pyIter_zip hz ?_
  refine (zip_giver (zip_sep2 (lt_of_one la) (lt_of_one lb)) (Nat.ne_of_lt la) (Nat.ne_of_lt (Nat.lt_succ_of_lt lb))).begun I1 k ⟨hz, hI, ⟨_, _, hO⟩, itx_new g1, itx_new g2⟩ ?_ q
  simp only [List.forall_mem_cons]
  exact ⟨Nat.le_add_right _ _, Nat.le_add_right _ _, Nat.le_add_right _ _, Nat.le_refl _, Nat.le_add_right _ _, nofun⟩
def rwZ3 (K : PySem.W.Frag) (t1 t2 t3 : Bool) (a b c : Addr) (H : Hp) (B : Tab) : Prop :=
  ∃ xs ys zs, SqX K H t1 a xs ∧ SqX K H t2 b ys ∧ SqX K H t3 c zs ∧ B = ⟨min (min xs.length ys.length) zs.length, fun i r => ∃ x y z, xs[i]? = some x ∧ ys[i]? = some y ∧ zs[i]? = some z ∧ r = [x, y, z]⟩
theorem zip3_giver {P : Program} {w : World} {K : PySem.W.Frag} {t1 t2 t3 : Bool} {a b c z TI TO j1 j2 j3 : Addr} (D : ZipSep3 z TI TO j1 j2 j3 [j1, a] [j2, b] [j3, c]) (n1 : a ≠ j1) (n2 : b ≠ j2) (n3 : c ≠ j3) :
    Giver P w K (rwZ3 K t1 t2 t3 a b c) [z, TI, TO, j1, j2, j3] z (fun i h => IsZip h z TI TO .none ∧ IsTupOf3 h TI (.ref j1) (.ref j2) (.ref j3) ∧ (∃ x y v, IsTupOf3 h TO x y v) ∧ ItX h t1 j1 a i ∧ ItX h t2 j2 b i ∧ ItX h t3 j3 c i) where
  mem := List.mem_cons_self ..
  obj := by
    intro i h ⟨hz, hI, ⟨x, y, v, hO⟩, h1, h2, h3⟩
    simp only [List.forall_mem_cons]
    exact ⟨⟨_, hz, nofun⟩, ⟨_, hI, nofun⟩, ⟨_, hO, nofun⟩, itx_obj h1, itx_obj h2, itx_obj h3, nofun⟩
  keep := by
    intro i h h' ⟨hz, hI, ⟨x, y, v, hO⟩, h1, h2, h3⟩ k
    simp only [List.forall_mem_cons] at k
    have ⟨kz, kI, kO, k1, k2, k3, _⟩ := k
    exact ⟨kz _ hz, kI _ hI, ⟨x, y, v, kO _ hO⟩, itx_at h1 k1, itx_at h2 k2, itx_at h3 k3⟩
  self := fun A i s Q E st q => wpAny_pyIter_zip st.1 q
  uni := by
    rintro X pins σ H s _ _ rfl I ⟨xs, ys, zs, q1, q2, q3, rfl⟩ ⟨xs', ys', zs', r1, r2, r3, rfl⟩
    rw [sqx_inj I q1 r1, sqx_inj I q2 r2, sqx_inj I q3 r3]
  give := by
    rintro X pins σ H s _ i rfl rfl rfl hh I ⟨hz, hI, hO, h1, h2, h3⟩ ⟨xs, ys, zs, q1, q2, q3, rfl⟩
    have ⟨us, r1, c1, _⟩ := sqx_get I q1
    have ⟨ws, r2, c2, _⟩ := sqx_get I q2
    have ⟨os, r3, c3, _⟩ := sqx_get I q3
    have W := WalksT.zipD3 (A := X.A) D (drx (X := X) (t := t1) hh n1 us.toArray) (drx (X := X) (t := t2) hh n2 ws.toArray) (drx (X := X) (t := t3) hh n3 os.toArray)
    rw [show min (min us.toArray.size ws.toArray.size) os.toArray.size = min (min xs.length ys.length) zs.length by rw [r1.length, r2.length, r3.length]; rfl] at W
    refine ⟨_, _, _, _, _, W, ?_, ⟨hz, hI, hO, ⟨h1, c1⟩, ⟨h2, c2⟩, h3, c3⟩, fun k h st => ⟨st.1, st.2.1, st.2.2.1, st.2.2.2.1.1, st.2.2.2.2.1.1, st.2.2.2.2.2.1⟩, fun vs ⟨y1, y2, y3, e1, e2, e3, e4⟩ => ?_⟩
    · simp only [List.forall_mem_cons]
      simp
    · have ⟨x1, hx1, rx1⟩ := vals_at r1 e1
      have ⟨x2, hx2, rx2⟩ := vals_at r2 e2
      have ⟨x3, hx3, rx3⟩ := vals_at r3 e3
      subst e4
      exact ⟨[x1, x2, x3], .cons rx1 (.cons rx2 (.cons rx3 .nil)), by simp, x1, x2, x3, hx1, hx2, hx3, rfl⟩
def iZip3X (K : PySem.W.Frag) (ta : TA) : TI := fun σ H R => ta σ H fun vs H1 => ∃ t1 t2 t3 a b c xs ys zs, vs = [.ref a, .ref b, .ref c] ∧ SqX K H1 t1 a xs ∧ SqX K H1 t2 b ys ∧ SqX K H1 t3 c zs ∧ R (rowIt (rwZ3 K t1 t2 t3 a b c)) H1
theorem pi_zip3X {X : Cx} {e e2 e3 : Expr} {ta : TA} {p pos tpos : Pos} {elts : List Expr} {kk : Nat} (hg : Gl X "zip") (hm : X.mg "zip" = none) (ha : PA X [e, e2, e3] ta)
    (hst : starEach [e, e2, e3] X.env = (false, eval e X.env) :: starEach [e2, e3] X.env := by rfl) (hpl : (backTo pos (starEach [e2, e3] X.env)).any (·.1) = false := by rfl) :
    PI X (.Tuple elts kk tpos) (.Call (.Name "zip" p) [e, e2, e3] [] pos) (iZip3X X.K ta) := by
  constructor
  intro pins s σ H R I q0
  refine Call_ (ld_blt I hg hm PyProof.Rows.boot_zip (PyProof.Rows.callWith_type1 (thn (ha.run pos pins s σ H _ I q0) fun us s1 ⟨vs, H1, I1, rr, t1, t2, t3, a, b, c, xs, ys, zs, ex, d1, d2, d3, q⟩ => ?_) hst hpl))
  subst ex
  obtain _ | ⟨ra, _ | ⟨rb, _ | ⟨rc, _ | _⟩⟩⟩ := rr
  cases ra
  cases rb
  cases rc
  have ⟨us, r1, c1, la⟩ := sqx_get I1 d1
  have ⟨ws, r2, c2, lb⟩ := sqx_get I1 d2
  have ⟨os, r3, c3, lc⟩ := sqx_get I1 d3
  refine zip_begins3 (begx us.toArray) (begx ws.toArray) (begx os.toArray) c1 c2 c3 fun h' hz hI hO g1 g2 g3 _ k => wpAny_pyIter_zip hz ?_
  refine (zip3_giver (zip_sep3 (lt_of_one la) (lt_of_one lb) (lt_of_one lc)) (Nat.ne_of_lt la) (Nat.ne_of_lt (Nat.lt_succ_of_lt lb)) (Nat.ne_of_lt (Nat.lt_succ_of_lt (Nat.lt_succ_of_lt lc)))).begun I1 k ⟨hz, hI, ⟨_, _, _, hO⟩, itx_new g1, itx_new g2, itx_new g3⟩ ?_ q
  simp only [List.forall_mem_cons]
  exact ⟨Nat.le_add_right _ _, Nat.le_add_right _ _, Nat.le_add_right _ _, Nat.le_refl _, Nat.le_add_right _ _, Nat.le_add_right _ _, nofun⟩
end Sm
namespace Sm
open PySem PySem.Spec PyProof.Rows L2
section
variable {K : PySem.W.Frag} {cl : Nat → Addr} {ω : Wd} {h : Store} {H : Hp}
theorem rep_int {i : Int} : Rep K ω (.int i) (.int i) := by simp only [Rep]
theorem rep_bl {i : Bool} : Rep K ω (.bl i) (.bl i) := by simp only [Rep]
theorem rep_str {i : Str} : Rep K ω (.str i) (.str i) := by simp only [Rep]
theorem rep_non : Rep K ω .non .non := by simp only [Rep]
theorem Rep.int_inv {i : Int} {v : V} (r : Rep K ω (.int i) v) : v = .int i := by simpa only [Rep] using r
theorem Rep.bl_inv {i : Bool} {v : V} (r : Rep K ω (.bl i) v) : v = .bl i := by simpa only [Rep] using r
theorem Rep.str_inv {i : Str} {v : V} (r : Rep K ω (.str i) v) : v = .str i := by simpa only [Rep] using r
theorem Rep.non_inv {v : V} (r : Rep K ω .non v) : v = .non := by simpa only [Rep] using r
theorem give_tup {Q : VK} {ts : List T} {vs : List V} (S : StOk K cl ω h H) (r : Reps K ω ts vs) (q : ∀ ω' H' v, Nx ω H ω' H' → StOk K cl ω' h H' → Rep K ω' (.tup ts) v → Q v H') {p : Addr} (hp : H p = none) : Q (.ref p) (upd H p (.tup vs)) := by
  refine q _ _ _ (nx_newF S hp) (S.newF hp) ?_
  simp only [Rep]
  exact ⟨p, vs, rfl, SqT.of upd_same, r.mono (gr_fix (S.freshF hp))⟩
theorem give_lst {Q : VK} {ts : List T} {vs : List V} (S : StOk K cl ω h H) (r : Reps K ω ts vs) (q : ∀ ω' H' v, Nx ω H ω' H' → StOk K cl ω' h H' → Rep K ω' (.lst ts) v → Q v H') {p : Addr} (hp : H p = none) : Q (.ref p) (upd H p (.lst vs)) := by
  refine q _ _ _ (nx_newF S hp) (S.newF hp) ?_
  simp only [Rep]
  exact ⟨p, vs, rfl, upd_same, r.mono (gr_fix (S.freshF hp))⟩
theorem Reps.flat {xs : List T} {vs : List V} (r : Reps K ω xs vs) (k : Nat) : Reps K ω (List.replicate k xs).flatten (List.replicate k vs).flatten := by
  induction k with
  | zero => exact Reps.nil
  | succ k ih =>
    rw [List.replicate_succ, List.replicate_succ, List.flatten_cons, List.flatten_cons]
    exact r.append ih
end
def mulB (i j : Int) : Bool := !(decide (Builtin.Int.intBits i > shortFactorBits) && decide (Builtin.Int.intBits j > shortFactorBits) && Builtin.Int.intTooBig (Builtin.Int.intBits i + Builtin.Int.intBits j))
theorem mulB_ok {i j : Int} (h : mulB i j = true) : IntMulOk i j := by
  unfold mulB at h
  unfold IntMulOk
  intro z
  rw [z] at h
  cases h
def intsOf? : List T → Option (List Int)
  | [] => some []
  | .int i :: r => (intsOf? r).map (i :: ·)
  | _ => none
def fAdd : F2
  | .int i, .int j, _ => some (.int (i + j))
  | .str i, .str j, _ => if i.length + j.length ≤ 100000 then some (.str (i ++ j)) else none
  | .tup xs, .tup ys, _ => if xs.length + ys.length ≤ 100000 then some (.tup (xs ++ ys)) else none
  | a, b, h => match lstOf h a, lstOf h b with
    | some xs, some ys => if xs.length + ys.length ≤ 100000 then some (.lst (xs ++ ys)) else none
    | _, _ => none
def fSub : F2
  | .int i, .int j, _ => some (.int (i - j))
  | _, _, _ => none
def fMul : F2
  | .int i, .int j, _ => if mulB i j = true then some (.int (i * j)) else none
  | .tup xs, .int k, _ => if xs ≠ [] ∧ 2 ≤ k ∧ k ≤ 100000 ∧ xs.length ≤ 40 then some (.tup (List.replicate k.toNat xs).flatten) else none
  | a, .int k, h => match lstOf h a with
    | some xs => if k < 100000 ∧ -100000 < k ∧ xs.length ≤ 100 then some (.lst (List.replicate k.toNat xs).flatten) else none
    | none => none
  | _, _, _ => none
def divB (j : Int) : Bool := decide (j ≠ 0) && decide (j.natAbs.log2 < 9000)
def fFdiv : F2
  | .int i, .int j, _ => if divB j = true then some (.int (i.fdiv j)) else none
  | _, _, _ => none
def fMod : F2
  | .int i, .int j, _ => if j ≠ 0 then some (.int (i.fmod j)) else none
  | _, _, _ => none
def fPow : F2
  | .int i, .int j, _ => if 0 ≤ j ∧ j ≤ 100000 ∧ i.natAbs < 2 ^ 64 then some (.int (i ^ j.toNat)) else none
  | _, _, _ => none
theorem line5 {n : Nat} (h : n ≤ 100000) : n ≤ sizeLine := by rw [sizeLine_eq]; omega
theorem ne_ite {α : Type} {c : Prop} [Decidable c] {x t : α} (h : (if c then some x else none) = some t) : c ∧ x = t := by
  split at h
  · exact ⟨by assumption, Option.some.inj h⟩
  · cases h
section
variable {X : Cx} {cl : Nat → Addr}
theorem o_sub : OpR X (binaryOp .Sub) (rV2 X.K cl fSub) := by
  intro pins s σ H x y v u Q I rx ry ⟨a, b, h, ω, t, S, ra, rb, e, q⟩
  unfold fSub at e
  split at e
  · rw [ra.int_inv] at rx; rw [rb.int_inv] at ry; cases e
    exact op_sub pins s σ H _ _ v u Q I rx ry ⟨_, _, rfl, rfl, q _ _ _ (Nx.refl _ _) S rep_int⟩
  · cases e
theorem o_mod : OpR X (binaryOp .Mod) (rV2 X.K cl fMod) := by
  intro pins s σ H x y v u Q I rx ry ⟨a, b, h, ω, t, S, ra, rb, e, q⟩
  unfold fMod at e
  split at e
  · rw [ra.int_inv] at rx; rw [rb.int_inv] at ry
    obtain ⟨c, rfl⟩ := ne_ite e
    exact op_modN pins s σ H _ _ v u Q I rx ry ⟨_, _, rfl, rfl, c, q _ _ _ (Nx.refl _ _) S rep_int⟩
  · cases e
theorem o_fdiv : OpR X (binaryOp .FloorDiv) (rV2 X.K cl fFdiv) := by
  intro pins s σ H x y v u Q I rx ry ⟨a, b, h, ω, t, S, ra, rb, e, q⟩
  unfold fFdiv at e
  split at e
  · rw [ra.int_inv] at rx; rw [rb.int_inv] at ry
    obtain ⟨c, rfl⟩ := ne_ite e
    obtain ⟨t1, rfl⟩ := rx
    obtain ⟨t2, rfl⟩ := ry
    simp only [divB, Bool.and_eq_true, decide_eq_true_eq] at c
    exact floordiv_int c.1 ⟨.int _, H, I.tok _, ⟨_, rfl⟩, q _ _ _ (Nx.refl _ _) S rep_int⟩ (.inl (PyProof.noPylong_of_log2 c.2))
  · cases e
theorem o_pow : OpR X (binaryOp .Pow) (rV2 X.K cl fPow) := by
  intro pins s σ H x y v u Q I rx ry ⟨a, b, h, ω, t, S, ra, rb, e, q⟩
  unfold fPow at e
  split at e
  · rw [ra.int_inv] at rx; rw [rb.int_inv] at ry
    obtain ⟨c, rfl⟩ := ne_ite e
    exact op_pow pins s σ H _ _ v u Q I rx ry ⟨_, _, rfl, rfl, ⟨c.1, by omega, c.2.2⟩, q _ _ _ (Nx.refl _ _) S rep_int⟩
  · cases e
theorem o_add : OpR X (binaryOp .Add) (rV2 X.K cl fAdd) := by
  intro pins s σ H x y v u Q I rx ry ⟨a, b, h, ω, t, S, ra, rb, e, q⟩
  unfold fAdd at e
  split at e
  · rw [ra.int_inv] at rx; rw [rb.int_inv] at ry; cases e
    exact op_add pins s σ H _ _ v u Q I rx ry ⟨_, _, rfl, rfl, q _ _ _ (Nx.refl _ _) S rep_int⟩
  · rw [ra.str_inv] at rx; rw [rb.str_inv] at ry
    obtain ⟨c, rfl⟩ := ne_ite e
    exact op_add_str pins s σ H _ _ v u Q I rx ry ⟨_, _, rfl, rfl, line5 c, q _ _ _ (Nx.refl _ _) S rep_str⟩
  · rename_i xs ys
    obtain ⟨c, rfl⟩ := ne_ite e
    obtain ⟨p, vs, rfl, b1, c1⟩ := tupOf_ok (xs := xs) S ra rfl
    obtain ⟨p2, vs2, rfl, b2, c2⟩ := tupOf_ok (xs := ys) S rb rfl
    have l1 := c1.length
    have l2 := c2.length
    refine op_catA pins s σ H _ _ v u Q I rx ry ⟨p, p2, vs, vs2, rfl, rfl, b1, b2, by rw [← l1, ← l2]; exact line5 c, fun e1 => ?_, fun n1 e2 => ?_, fun n1 n2 p hp => ?_⟩
    · have : xs = [] := by cases xs with | nil => rfl | cons _ _ => rw [e1] at l1; simp at l1
      subst this
      exact q _ _ _ (Nx.refl _ _) S rb
    · have : ys = [] := by cases ys with | nil => rfl | cons _ _ => rw [e2] at l2; simp at l2
      subst this
      refine q _ _ _ (Nx.refl _ _) S ?_
      rw [List.append_nil]
      exact ra
    · exact give_tup S (c1.append c2) q hp
  · split at e
    · rename_i xs ys ea eb
      obtain ⟨c, rfl⟩ := ne_ite e
      obtain ⟨p, vs, rfl, b1, c1⟩ := lstOf_ok S ra ea
      obtain ⟨p2, vs2, rfl, b2, c2⟩ := lstOf_ok S rb eb
      exact op_cat pins s σ H _ _ v u Q I rx ry ⟨p, p2, vs, vs2, rfl, rfl, b1, b2, by rw [← c1.length, ← c2.length]; exact line5 c, fun p hp => give_lst S (c1.append c2) q hp⟩
    · cases e
theorem op_many : OpR X (binaryOp .Mult) (fun x y H Q => ∃ l k xs, x = .ref l ∧ y = .int k ∧ SqT X.K H l xs ∧ xs ≠ [] ∧ 2 ≤ k ∧ k ≤ 100000 ∧ xs.length ≤ 40 ∧ ∀ p, H p = none → Q (.ref p) (upd H p (.tup (List.replicate k.toNat xs).flatten))) := by
  rintro pins s σ H _ _ v u Q I rx ry ⟨l, k, xs, rfl, rfl, tp, ne, k2, k5, few, q⟩
  cases rx
  have ⟨tk, ek⟩ := ry
  subst ek
  have ⟨its, r, ⟨o, at_l, cls_l, n, dat_l⟩, _⟩ := I.tuple tp
  rcases o with ⟨cls, dd, dat, sl⟩
  cases (show cls = _ from cls_l)
  cases (show dat = _ from dat_l)
  have lens := r.length
  have full : its ≠ [] := fun z => ne (List.length_eq_zero_iff.mp (by rw [lens, z]; rfl))
  have some_ : its.toArray.isEmpty = false := by
    rcases its with _ | ⟨a, b⟩
    · exact absurd rfl full
    · rfl
  have room : k.toNat * its.length ≤ 4000000 := by
    have a := Nat.mul_le_mul (show k.toNat ≤ 100000 by omega) (show its.length ≤ 40 by omega)
    omega
  have prod : ((its.toArray.size : Nat) : Int) * k = ((k.toNat * its.length : Nat) : Int) := by
    rw [List.size_toArray, Int.natCast_mul, Int.toNat_of_nonneg (by omega), Int.mul_comm]
  have e0 : (decide (k < -(2 ^ 63)) || decide (k ≥ 2 ^ 63)) = false := by simp; omega
  have e1 : (its.toArray.isEmpty || k == 1) = false := by rw [some_]; simp; omega
  have e2 : (decide (k ≤ 0) || its.toArray.isEmpty) = false := by rw [some_]; simp; omega
  have e3 : ¬ ((its.toArray.size : Nat) : Int) * k > (2 ^ 63 - 1) / 8 := by rw [prod]; omega
  have e4 : Builtin.Tuple.tupleTooMany (((its.toArray.size : Nat) : Int) * k) = false := by
    rw [prod]
    unfold Builtin.Tuple.tupleTooMany
    simp only [sizeLine_eq, decide_eq_false_iff_not]
    omega
  have flat : (List.replicate k.toNat its).flatten.length ≤ sizeLine := by rw [PyProof.Rows.lm_len_rep_flat, sizeLine_eq]; omega
  refine wpAny_binaryOp_repeat_ref (T := "tuple") (U := "int") (by decide) ⟨_, at_l, rfl⟩ (fun _ => typeIs_int _ k tk) noFill_tuple_mul F.fills_int_mul F.slot_int_rmul repeat_tuple F.slot_int_index.lookup ?_
  refine call_meets F.slot_int_rmul (typeIs_int s k tk) F.entry_int_rmul (F.args_int_rmul_2 _ _) (int_rmul_tuple k tk l its.toArray n dd sl) ⟨at_l, rfl, ⟨_, at_l, rfl⟩, ?_⟩
  refine call_meets F.slot_tuple_mul ⟨_, at_l, rfl⟩ F.entry_tuple_mul (F.args_tuple_mul_2 _ _) (tuple_mulW l its.toArray n dd sl k tk e0 e1 e2 e3 e4 (by rw [size_rep, List.size_toArray]; exact flat)) ⟨at_l, ?_⟩
  rw [size_rep]
  have laid : ObjOk X.prog X.w (upd H s.heap.objs.size (.tup (List.replicate k.toNat xs).flatten)) (s.heap.push { cls := .type "tuple", data := .seq (List.replicate k.toNat its).flatten.toArray }) s.heap.objs.size (.tup (List.replicate k.toNat xs).flatten) :=
    ⟨by rw [PyProof.Rows.lm_len_rep_flat, lens, sizeLine_eq]; omega, _, r.rep k.toNat, IsTup.new _ _⟩
  exact ⟨.ref s.heap.objs.size, _, I.laid (t' := s.toks) (fun _ _ z => Heap.get?_push_of_some _ z) (Nat.le_refl _) laid, rfl, q _ (I.hok.fresh (Nat.le_refl _))⟩
theorem o_mul : OpR X (binaryOp .Mult) (rV2 X.K cl fMul) := by
  intro pins s σ H x y v u Q I rx ry ⟨a, b, h, ω, t, S, ra, rb, e, q⟩
  unfold fMul at e
  split at e
  · rw [ra.int_inv] at rx; rw [rb.int_inv] at ry
    obtain ⟨c, rfl⟩ := ne_ite e
    obtain ⟨t1, rfl⟩ := rx
    obtain ⟨t2, rfl⟩ := ry
    exact mul_int ⟨.int _, H, I.tok _, ⟨_, rfl⟩, q _ _ _ (Nx.refl _ _) S rep_int⟩ (mulB_ok c)
  · rename_i xs k
    obtain ⟨c, rfl⟩ := ne_ite e
    rw [rb.int_inv] at ry
    obtain ⟨p, vs, rfl, b1, c1⟩ := tupOf_ok (xs := xs) S ra rfl
    have l1 := c1.length
    refine op_many pins s σ H _ _ v u Q I rx ry ⟨p, k, vs, rfl, rfl, b1, fun e => ?_, c.2.1, c.2.2.1, by rw [← l1]; exact c.2.2.2, fun p hp => give_tup S (c1.flat _) q hp⟩
    subst e
    exact c.1 (List.eq_nil_of_length_eq_zero (by rw [l1]; rfl))
  · split at e
    · rename_i k _ _ _ xs ea
      obtain ⟨c, rfl⟩ := ne_ite e
      rw [rb.int_inv] at ry
      obtain ⟨p, vs, rfl, b1, c1⟩ := lstOf_ok S ra ea
      refine op_rep pins s σ H _ _ v u Q I rx ry ⟨p, k, vs, rfl, rfl, b1, by omega, by omega, ?_, fun p hp => give_lst S (c1.flat _) q hp⟩
      rw [← c1.length, sizeLine_eq]
      have h1 : k.toNat ≤ 100000 := by omega
      have h2 : xs.length ≤ 100 := c.2.2
      have := Nat.mul_le_mul h2 h1
      omega
    · cases e
  · cases e
def rNew2 (K : PySem.W.Frag) (cl : Nat → Addr) (f : T → T → Store → Option (List T)) : R2 := fun x y H Q => ∃ a b h ω ts, StOk K cl ω h H ∧ Rep K ω a x ∧ Rep K ω b y ∧ f a b h = some ts ∧ ∀ p vs, Reps K ω ts vs → H p = none → Q (.ref p) (upd H p (.lst vs))
def fRep (a b : T) (h : Store) : Option (List T) := match b with
  | .int k => match lstOf h a with
    | some xs => if k < 100000 ∧ -100000 < k ∧ xs.length ≤ 100 then some (List.replicate k.toNat xs).flatten else none
    | none => none
  | _ => none
theorem n_rep : OpR X (binaryOp .Mult) (rNew2 X.K cl fRep) := by
  intro pins s σ H x y v u Q I rx ry ⟨a, b, h, ω, t, S, ra, rb, e, q⟩
  unfold fRep at e
  split at e
  · rename_i k
    split at e
    · rename_i xs ea
      obtain ⟨c, rfl⟩ := ne_ite e
      rw [rb.int_inv] at ry
      obtain ⟨p, vs, rfl, b1, c1⟩ := lstOf_ok S ra ea
      refine op_rep pins s σ H _ _ v u Q I rx ry ⟨p, k, vs, rfl, rfl, b1, by omega, by omega, ?_, fun p hp => q p _ (c1.flat _) hp⟩
      rw [← c1.length, sizeLine_eq]
      have h1 : k.toNat ≤ 100000 := by omega
      have h2 : xs.length ≤ 100 := c.2.2
      have := Nat.mul_le_mul h2 h1
      omega
    · cases e
  · cases e
def mNew2 (f : T → T → Store → Option (List T)) (m n : M T) : M (List T) := fun env h => (m env h).bind fun a h1 => (n env h1).bind fun b h2 => Out.ofO (f a b h2) h2
theorem new2_step {K : PySem.W.Frag} {W : WX} {m n : M T} {f : T → T → Store → Option (List T)} {σ : L2.St} {H : Hp} {Q : VK} (h : tN K cl W (mNew2 f m n) σ H Q) : tE K cl W m σ H fun x H1 => tE K cl W n σ H1 fun y H2 => rNew2 K cl f x y H2 Q := by
  obtain ⟨env, h, ω, he, hs, q⟩ := h
  unfold mNew2 at q
  refine ⟨env, h, ω, he, hs, ?_⟩
  revert q
  cases m env h with
  | bad => exact fun z => z
  | ex x h1 => exact fun z => z
  | ok tx h1 =>
    intro q ω1 H1 N1 S1 vx rx
    refine ⟨env, h1, ω1, he.mono N1.toGr, S1, ?_⟩
    simp only [Out.bind] at q
    revert q
    cases n env h1 with
    | bad => exact fun z => z
    | ex x h1 => exact fun z ω2 H2 cls d N2 S2 x => z ω2 H2 cls d (N1.trans N2) S2 x
    | ok ty h2 =>
      intro q ω2 H2 N2 S2 vy ry
      simp only at q
      cases e : f tx ty h2 with
      | none => rw [e] at q; exact q.elim
      | some ts =>
        rw [e] at q
        refine ⟨tx, ty, h2, ω2, ts, S2, rx.mono N2.toGr, ry, e, fun p vs rv hp => ?_⟩
        exact q ω2 _ ((N1.trans N2).trans (nx_lay hp)) (S2.lay hp) p vs rv upd_same (S2.freshF hp) (S2.freshR hp) ((N1.trans N2).dom p hp)
theorem kn_bin {W : WX} {a b : Expr} {m n : M T} {pos : Pos} {op : Operator} {f : T → T → Store → Option (List T)} (ho : OpR X (binaryOp op) (rNew2 X.K cl f)) (ha : PE X a (tE X.K cl W m)) (hb : PE X b (tE X.K cl W n)) : PE X (.BinOp a op b pos) (tN X.K cl W (mNew2 f m n)) :=
  (pe_op ho ha hb).weak fun _ _ _ h => new2_step h
end
end Sm
namespace Sm
open PySem PySem.Spec PyProof.Rows L2
mutual
def dat : T → Option PyData
  | .non => some .none
  | .bl b => some (.bool b)
  | .int i => some (.int i)
  | .str s => some (.str s)
  | .tup xs => (dats xs).map .tuple
  | .lst xs => (dats xs).map .list
  | .loc _ => none
  | .scr _ => none
  | .emp => none
  | .adr _ _ _ _ => none
  | .fnc _ => none
  | .dct _ _ => none
def dats : List T → Option (List PyData)
  | [] => some []
  | x :: r => match dat x, dats r with
    | some d, some l => some (d :: l)
    | _, _ => none
end
def datS (h : Store) : T → Option PyData
  | .loc n => match h[n]? with
    | some (.lst xs) => (dats xs).map .list
    | _ => none
  | t => dat t
section
variable {K : PySem.W.Frag} {cl : Nat → Addr} {ω : Wd} {h : Store} {H : Hp}
mutual
theorem dat_ok (S : StOk K cl ω h H) : ∀ {t : T} {v : V} {d : PyData}, Rep K ω t v → dat t = some d → Dp K H v d
  | .non, v, d, r, e => by simp only [dat, Option.some.injEq] at e; subst e; rw [r.non_inv]; exact .non
  | .bl b, v, d, r, e => by simp only [dat, Option.some.injEq] at e; subst e; rw [r.bl_inv]; exact .bl b
  | .int i, v, d, r, e => by simp only [dat, Option.some.injEq] at e; subst e; rw [r.int_inv]; exact .int i
  | .str s, v, d, r, e => by simp only [dat, Option.some.injEq] at e; subst e; rw [r.str_inv]; exact .str s
  | .tup xs, v, d, r, e => by
    simp only [dat, Option.map_eq_some_iff] at e
    obtain ⟨ds, e1, rfl⟩ := e
    simp only [Rep] at r
    obtain ⟨p, vs, rfl, b, c⟩ := r
    exact .tup (sqT_mono S.phi b) (dats_ok S c e1)
  | .lst xs, v, d, r, e => by
    simp only [dat, Option.map_eq_some_iff] at e
    obtain ⟨ds, e1, rfl⟩ := e
    simp only [Rep] at r
    obtain ⟨p, vs, rfl, b, c⟩ := r
    exact .lst (SqL.of (S.phi _ _ b)) (dats_ok S c e1)
  | .loc n, v, d, r, e => by simp [dat] at e
  | .scr n, v, d, r, e => by simp [dat] at e
  | .emp, v, d, r, e => by simp [dat] at e
  | .adr _ _ _ _, v, d, r, e => by simp [dat] at e
  | .dct _ _, v, d, r, e => by simp [dat] at e
  | .fnc _, v, d, r, e => by simp [dat] at e
theorem dats_ok (S : StOk K cl ω h H) : ∀ {ts : List T} {vs : List V} {ds : List PyData}, Reps K ω ts vs → dats ts = some ds → DpAll K H vs ds
  | [], vs, ds, r, e => by
    simp only [dats, Option.some.injEq] at e
    subst e
    rw [r.nil_inv]
    exact .nil
  | x :: xs, vs, ds, r, e => by
    simp only [dats] at e
    split at e
    · rename_i d ds' e1 e2
      cases e
      obtain ⟨v, vr, rfl, a, b⟩ := r.inv
      exact .cons (dat_ok S a e1) (dats_ok S b e2)
    · cases e
end
theorem datS_ok (S : StOk K cl ω h H) {t : T} {v : V} {d : PyData} (r : Rep K ω t v) (e : datS h t = some d) : Dp K H v d := by
  cases t with
  | loc n =>
    simp only [datS] at e
    split at e
    · rename_i xs hn
      rw [Option.map_eq_some_iff] at e
      obtain ⟨ds, e1, rfl⟩ := e
      obtain ⟨p, vs, rfl, _, b, c, _⟩ := lst_at S r hn
      exact .lst (SqL.of b) (dats_ok S c e1)
    · cases e
  | _ => exact dat_ok S r (by simpa only [datS] using e)
end
def eqG (a b : T) (h : Store) : Option Bool := match datS h a, datS h b with
  | some d, some e => if SeqAt.shaped d = true ∧ SeqAt.shaped e = true then some (PyData.eqv d e) else none
  | _, _ => none
def eqB (a b : T) (h : Store) : Option Bool := match a, b with
  | .int i, .int j => some (decide (i = j))
  | .bl i, .bl j => some (decide (i = j))
  | .str i, .str j => some (decide (i = j))
  | a, b => eqG a b h
def fEq : F2 := fun a b h => (eqB a b h).map .bl
def fNe : F2 := fun a b h => (eqB a b h).map fun c => .bl (!c)
def cmpI (p : Int → Int → Bool) : F2
  | .int i, .int j, _ => some (.bl (p i j))
  | _, _, _ => none
def fLt : F2
  | .int i, .int j, _ => some (.bl (decide (i < j)))
  | .str i, .str j, _ => some (.bl (decide (i.cps.toList < j.cps.toList)))
  | .tup xs, .tup ys, _ => match intsOf? xs, intsOf? ys with
    | some ns, some ms => some (.bl (HT.lexLt ns ms))
    | _, _ => none
  | _, _, _ => none
def fLe : F2 := cmpI fun i j => decide (i ≤ j)
def fGt : F2 := cmpI fun i j => decide (j < i)
def fGe : F2 := cmpI fun i j => decide (j ≤ i)
def isNon : T → Bool
  | .non => true
  | _ => false
def fIs : F2
  | a, .non, _ => some (.bl (isNon a))
  | .bl a, .bl b, _ => some (.bl (decide (a = b)))
  | _, _, _ => none
def fIsNot : F2
  | a, .non, _ => some (.bl (!isNon a))
  | .bl a, .bl b, _ => some (.bl (!decide (a = b)))
  | _, _, _ => none
def flatT : T → Bool
  | .non => true
  | .bl _ => true
  | .int _ => true
  | .str _ => true
  | _ => false
def eqT : T → T → Bool
  | .non, .non => true
  | .bl a, .bl b => a == b
  | .bl c, .int i => (if c then 1 else 0) == i
  | .int i, .bl c => i == (if c then 1 else 0)
  | .int a, .int b => a == b
  | .str a, .str b => a == b
  | _, _ => false
def inT (x : T) (xs : List T) : Bool := xs.any fun y => eqT y x
def inG (a b : T) (h : Store) : Option Bool := match datS h a, datS h b with
  | some d, some (.list ds) => if SeqAt.shaped d = true ∧ SeqAt.shaped (.list ds) = true then some (ds.any fun z => PyData.eqv z d) else none
  | _, _ => none
def fIn : F2 := fun a b h => match b with
  | .str z => match a with
    | .str w => match w.cps.toList with
      | [c] => some (.bl (decide (c ∈ z.cps.toList)))
      | _ => none
    | _ => none
  | b => match seqOf h b with
    | some xs => if flatT a = true ∧ xs.all flatT = true then some (.bl (inT a xs)) else (inG a b h).map .bl
    | none => none
section
variable {K : PySem.W.Frag} {ω : Wd}
theorem Rep.nonIff {t : T} {v : V} (r : Rep K ω t v) : decide (v = .non) = isNon t := by
  cases t with
  | non => rw [r.non_inv]; rfl
  | bl b => rw [r.bl_inv]; rfl
  | int b => rw [r.int_inv]; rfl
  | str b => rw [r.str_inv]; rfl
  | tup xs => simp only [Rep] at r; obtain ⟨p, vs, rfl, _⟩ := r; rfl
  | lst xs => simp only [Rep] at r; obtain ⟨p, vs, rfl, _⟩ := r; rfl
  | loc n => simp only [Rep] at r; obtain ⟨p, rfl, _⟩ := r; rfl
  | scr n => simp only [Rep] at r; obtain ⟨p, rfl, _⟩ := r; rfl
  | emp => simp only [Rep] at r; obtain ⟨p, rfl, _⟩ := r; rfl
  | adr a d f ts => simp only [Rep] at r; obtain ⟨rfl, _⟩ := r; rfl
  | fnc x => simp only [Rep] at r; subst r; rfl
  | dct ks ts => simp only [Rep] at r; obtain ⟨p, vs, rfl, _⟩ := r; rfl
theorem Rep.flat {t : T} {v : V} (r : Rep K ω t v) : flatV v = flatT t := by
  cases t with
  | non => rw [r.non_inv]; rfl
  | bl b => rw [r.bl_inv]; rfl
  | int b => rw [r.int_inv]; rfl
  | str b => rw [r.str_inv]; rfl
  | tup xs => simp only [Rep] at r; obtain ⟨p, vs, rfl, _⟩ := r; rfl
  | lst xs => simp only [Rep] at r; obtain ⟨p, vs, rfl, _⟩ := r; rfl
  | loc n => simp only [Rep] at r; obtain ⟨p, rfl, _⟩ := r; rfl
  | scr n => simp only [Rep] at r; obtain ⟨p, rfl, _⟩ := r; rfl
  | emp => simp only [Rep] at r; obtain ⟨p, rfl, _⟩ := r; rfl
  | adr a d f ts => simp only [Rep] at r; obtain ⟨rfl, _⟩ := r; rfl
  | fnc x => simp only [Rep] at r; subst r; rfl
  | dct ks ts => simp only [Rep] at r; obtain ⟨p, vs, rfl, _⟩ := r; rfl
theorem Rep.eqv {t u : T} {v w : V} (r : Rep K ω t v) (q : Rep K ω u w) (f : flatT t = true) (g : flatT u = true) : eqV v w = eqT t u := by
  cases t <;> simp only [flatT, Bool.false_eq_true] at f <;> cases u <;> simp only [flatT, Bool.false_eq_true] at g <;>
    simp only [Rep] at r q <;> subst r <;> subst q <;> rfl
theorem Reps.allFlat : ∀ {ts : List T} {vs : List V}, Reps K ω ts vs → vs.all flatV = ts.all flatT
  | [], _, r => by rw [r.nil_inv]; rfl
  | t :: ts, _, r => by
    obtain ⟨v, vr, rfl, a, b⟩ := r.inv
    rw [List.all_cons, List.all_cons, a.flat, Reps.allFlat b]
theorem Reps.inV {t : T} {v : V} (q : Rep K ω t v) (f : flatT t = true) : ∀ {ts : List T} {vs : List V}, Reps K ω ts vs → ts.all flatT = true → L2.inV v vs = inT t ts
  | [], _, r, _ => by rw [r.nil_inv]; rfl
  | u :: ts, _, r, g => by
    obtain ⟨w, vr, rfl, a, b⟩ := r.inv
    rw [List.all_cons, Bool.and_eq_true] at g
    have ih := Reps.inV q f b g.2
    unfold L2.inV inT at ih ⊢
    rw [List.any_cons, List.any_cons, a.eqv q g.1 f, ih]
theorem Reps.ints : ∀ {ts : List T} {vs : List V} {ns : List Int}, Reps K ω ts vs → intsOf? ts = some ns → vs = ns.map V.int
  | [], _, ns, r, e => by
    simp only [intsOf?, Option.some.injEq] at e
    subst e
    exact r.nil_inv
  | t :: ts, _, ns, r, e => by
    obtain ⟨v, vr, rfl, a, b⟩ := r.inv
    cases t with
    | int i =>
      simp only [intsOf?, Option.map_eq_some_iff] at e
      obtain ⟨ms, e1, rfl⟩ := e
      rw [a.int_inv, Reps.ints b e1]
      rfl
    | _ => simp [intsOf?] at e
end
section
variable {X : Cx} {cl : Nat → Addr}
theorem eqB_ok (hu : X.A.units + 64 < cLine) {pins : List (Addr × Obj)} {s : Shared} {σ : L2.St} {H : Hp} {x y : V} {v u : Value} {Q : VK} {a b : T} {h : Store} {ω : Wd} {c : Bool} (I : Inv X pins σ H s) (rx : RelV x v) (ry : RelV y u)
    (S : StOk X.K cl ω h H) (ra : Rep X.K ω a x) (rb : Rep X.K ω b y) (e : eqB a b h = some c) (q : Q (.bl c) H) : wpAny (model X.prog X.w) X.A (compareOp .Eq v u) (EP X pins σ Q) X.xe s := by
  unfold eqB at e
  split at e
  · rw [ra.int_inv] at rx; rw [rb.int_inv] at ry; cases e
    exact op_eq pins s σ H _ _ v u Q I rx ry ⟨rfl, by simpa using q⟩
  · rw [ra.bl_inv] at rx; rw [rb.bl_inv] at ry; cases e
    exact op_eq pins s σ H _ _ v u Q I rx ry ⟨rfl, by simpa using q⟩
  · rw [ra.str_inv] at rx; rw [rb.str_inv] at ry; cases e
    exact op_eq pins s σ H _ _ v u Q I rx ry ⟨rfl, by simpa using q⟩
  · unfold eqG at e
    split at e
    · rename_i d d' e1 e2
      obtain ⟨c, rfl⟩ := ne_ite e
      exact op_eqD hu pins s σ H _ _ v u Q I rx ry ⟨d, d', datS_ok S ra e1, datS_ok S rb e2, c.1, c.2, q⟩
    · cases e
theorem neB_ok (hu : X.A.units + 64 < cLine) {pins : List (Addr × Obj)} {s : Shared} {σ : L2.St} {H : Hp} {x y : V} {v u : Value} {Q : VK} {a b : T} {h : Store} {ω : Wd} {c : Bool} (I : Inv X pins σ H s) (rx : RelV x v) (ry : RelV y u)
    (S : StOk X.K cl ω h H) (ra : Rep X.K ω a x) (rb : Rep X.K ω b y) (e : eqB a b h = some c) (q : Q (.bl (!c)) H) : wpAny (model X.prog X.w) X.A (compareOp .NotEq v u) (EP X pins σ Q) X.xe s := by
  unfold eqB at e
  split at e
  · rw [ra.int_inv] at rx; rw [rb.int_inv] at ry; cases e
    exact op_ne pins s σ H _ _ v u Q I rx ry ⟨rfl, by simpa using q⟩
  · rw [ra.bl_inv] at rx; rw [rb.bl_inv] at ry; cases e
    exact op_ne pins s σ H _ _ v u Q I rx ry ⟨rfl, by simpa using q⟩
  · rw [ra.str_inv] at rx; rw [rb.str_inv] at ry; cases e
    exact op_ne pins s σ H _ _ v u Q I rx ry ⟨rfl, by simpa using q⟩
  · unfold eqG at e
    split at e
    · rename_i d d' e1 e2
      obtain ⟨c, rfl⟩ := ne_ite e
      exact op_neD hu pins s σ H _ _ v u Q I rx ry ⟨d, d', datS_ok S ra e1, datS_ok S rb e2, c.1, c.2, q⟩
    · cases e
theorem o_eq (hu : X.A.units + 64 < cLine) : OpR X (compareOp .Eq) (rV2 X.K cl fEq) := by
  intro pins s σ H x y v u Q I rx ry ⟨a, b, h, ω, t, S, ra, rb, e, q⟩
  unfold fEq at e
  rw [Option.map_eq_some_iff] at e
  obtain ⟨c, e1, rfl⟩ := e
  exact eqB_ok hu I rx ry S ra rb e1 (q _ _ _ (Nx.refl _ _) S rep_bl)
theorem o_ne (hu : X.A.units + 64 < cLine) : OpR X (compareOp .NotEq) (rV2 X.K cl fNe) := by
  intro pins s σ H x y v u Q I rx ry ⟨a, b, h, ω, t, S, ra, rb, e, q⟩
  unfold fNe at e
  rw [Option.map_eq_some_iff] at e
  obtain ⟨c, e1, rfl⟩ := e
  exact neB_ok hu I rx ry S ra rb e1 (q _ _ _ (Nx.refl _ _) S rep_bl)
theorem o_cmpI {op : CmpOp} {p : Int → Int → Bool} (ho : OpR X (compareOp op) (rI0 fun i j => .bl (p i j))) : OpR X (compareOp op) (rV2 X.K cl (cmpI p)) := by
  intro pins s σ H x y v u Q I rx ry ⟨a, b, h, ω, t, S, ra, rb, e, q⟩
  unfold cmpI at e
  split at e
  · rw [ra.int_inv] at rx; rw [rb.int_inv] at ry; cases e
    exact ho pins s σ H _ _ v u Q I rx ry ⟨_, _, rfl, rfl, q _ _ _ (Nx.refl _ _) S rep_bl⟩
  · cases e
theorem o_le : OpR X (compareOp .LtE) (rV2 X.K cl fLe) := o_cmpI op_le
theorem o_gt : OpR X (compareOp .Gt) (rV2 X.K cl fGt) := o_cmpI op_gt
theorem o_ge : OpR X (compareOp .GtE) (rV2 X.K cl fGe) := o_cmpI op_ge
theorem o_lt (hu : X.A.units < cLine) : OpR X (compareOp .Lt) (rV2 X.K cl fLt) := by
  intro pins s σ H x y v u Q I rx ry ⟨a, b, h, ω, t, S, ra, rb, e, q⟩
  unfold fLt at e
  split at e
  · rw [ra.int_inv] at rx; rw [rb.int_inv] at ry; cases e
    exact op_lt pins s σ H _ _ v u Q I rx ry ⟨_, _, rfl, rfl, q _ _ _ (Nx.refl _ _) S rep_bl⟩
  · rw [ra.str_inv] at rx; rw [rb.str_inv] at ry; cases e
    exact op_lt_str pins s σ H _ _ v u Q I rx ry ⟨_, _, rfl, rfl, q _ _ _ (Nx.refl _ _) S rep_bl⟩
  · rename_i xs ys
    split at e
    · rename_i ns ms e1 e2
      cases e
      obtain ⟨p, vs, rfl, b1, c1⟩ := tupOf_ok (xs := xs) S ra rfl
      obtain ⟨p2, vs2, rfl, b2, c2⟩ := tupOf_ok (xs := ys) S rb rfl
      rw [c1.ints e1] at b1
      rw [c2.ints e2] at b2
      exact op_ltT hu pins s σ H _ _ v u Q I rx ry ⟨p, p2, ns, ms, rfl, rfl, b1, b2, q _ _ _ (Nx.refl _ _) S rep_bl⟩
    · cases e
  · cases e
theorem o_is : OpR X (compareOp .Is) (rV2 X.K cl fIs) := by
  intro pins s σ H x y v u Q I rx ry ⟨a, b, h, ω, t, S, ra, rb, e, q⟩
  unfold fIs at e
  split at e
  · rw [rb.non_inv] at ry; cases e
    exact op_isN pins s σ H _ _ v u Q I rx ry ⟨rfl, by rw [ra.nonIff]; exact q _ _ _ (Nx.refl _ _) S rep_bl⟩
  · rw [ra.bl_inv] at rx; rw [rb.bl_inv] at ry; cases e
    exact op_is_bl pins s σ H _ _ v u Q I rx ry ⟨_, _, rfl, rfl, q _ _ _ (Nx.refl _ _) S rep_bl⟩
  · cases e
theorem o_isnot : OpR X (compareOp .IsNot) (rV2 X.K cl fIsNot) := by
  intro pins s σ H x y v u Q I rx ry ⟨a, b, h, ω, t, S, ra, rb, e, q⟩
  unfold fIsNot at e
  split at e
  · rw [rb.non_inv] at ry; cases e
    exact op_notN pins s σ H _ _ v u Q I rx ry ⟨rfl, by rw [ra.nonIff]; exact q _ _ _ (Nx.refl _ _) S rep_bl⟩
  · rw [ra.bl_inv] at rx; rw [rb.bl_inv] at ry; cases e
    exact op_isnot_bl pins s σ H _ _ v u Q I rx ry ⟨_, _, rfl, rfl, q _ _ _ (Nx.refl _ _) S rep_bl⟩
  · cases e
theorem sign_of {w : Str} {c : Nat} (h : w.cps.toList = [c]) : w = ⟨#[c]⟩ := by
  cases w with
  | mk cps =>
    have : cps = #[c] := by
      apply Array.ext'
      simpa using h
    rw [this]
theorem o_in (hu : X.A.units + 65 < cLine) : OpR X (compareOp .In) (rV2 X.K cl fIn) := by
  intro pins s σ H x y v u Q I rx ry ⟨a, b, h, ω, t, S, ra, rb, e, q⟩
  unfold fIn at e
  split at e
  · rename_i z
    split at e
    · rename_i w
      split at e
      · rename_i c hc
        cases e
        rw [ra.str_inv] at rx; rw [rb.str_inv] at ry
        exact op_in_sign pins s σ H _ _ v u Q I rx ry ⟨c, z, by rw [sign_of hc], rfl, q _ _ _ (Nx.refl _ _) S rep_bl⟩
      · cases e
    · cases e
  · split at e
    · rename_i xs ea
      by_cases c : flatT a = true ∧ xs.all flatT = true
      · rw [if_pos c] at e
        cases e
        obtain ⟨p, vs, rfl, b1, c1⟩ := seqOf_ok S rb ea
        exact op_in_seq pins s σ H _ _ v u Q I rx ry ⟨p, vs, rfl, b1, by rw [ra.flat]; exact c.1, by rw [c1.allFlat]; exact c.2, by
          rw [if_neg Bool.false_ne_true, Reps.inV ra c.1 c1 c.2]
          exact q _ _ _ (Nx.refl _ _) S rep_bl⟩
      · rw [if_neg c, Option.map_eq_some_iff] at e
        obtain ⟨w, e1, e2⟩ := e
        unfold inG at e1
        split at e1
        · rename_i d ds ed el
          obtain ⟨cs, ce⟩ := ne_ite e1
          refine op_inD hu pins s σ H _ _ v u Q I rx ry ⟨d, ds, datS_ok S ra ed, datS_ok S rb el, cs.1, cs.2, ?_⟩
          rw [ce]
          refine q _ _ _ (Nx.refl _ _) S ?_
          rw [← e2]
          exact rep_bl
        · cases e1
    · cases e
end
end Sm
namespace Sm
open PySem PySem.Spec PyProof.Rows L2
def fIdx : F2 := fun a b h => match b with
  | .int i => match a with
    | .str z => if z.length ≤ 100000 then (atI z.cps.toList i).map fun c => .str ⟨#[c]⟩ else none
    | a => (seqOf h a).bind fun xs => atI xs i
  | _ => none
section
variable {K : PySem.W.Frag} {ω : Wd}
theorem Reps.atI {ts : List T} {vs : List V} {i : Int} {t : T} (r : Reps K ω ts vs) (e : L2.atI ts i = some t) : ∃ v, L2.atI vs i = some v ∧ Rep K ω t v := by
  unfold L2.atI at e ⊢
  rw [Option.bind_eq_some_iff] at e
  obtain ⟨j, e1, e2⟩ := e
  obtain ⟨v, e3, q⟩ := r.get e2
  refine ⟨v, ?_, q⟩
  rw [← r.length, Option.bind_eq_some_iff]
  exact ⟨j, e1, e3⟩
end
section
variable {X : Cx} {cl : Nat → Addr} {W : WX} {a b : Expr} {m n : M T} {pos : Pos}
theorem ix_ok : IxR X (rV2 X.K cl fIdx) := by
  intro value slice pins s σ H x y v u Q I rx ry ⟨a, b, h, ω, t, S, ra, rb, e, q⟩ hsub
  unfold fIdx at e
  split at e
  · rename_i i
    rw [rb.int_inv] at ry
    split at e
    · rename_i z
      obtain ⟨c, e⟩ : z.length ≤ 100000 ∧ (L2.atI z.cps.toList i).map (fun c => T.str ⟨#[c]⟩) = some t := by
        split at e
        · rename_i c; exact ⟨c, e⟩
        · cases e
      rw [Option.map_eq_some_iff] at e
      obtain ⟨k, e1, rfl⟩ := e
      rw [ra.str_inv] at rx
      exact ix_seq value slice pins s σ H _ _ v u Q I rx ry (.inr (.inr ⟨z, i, k, rfl, rfl, line5 c, e1, q _ _ _ (Nx.refl _ _) S rep_str⟩)) hsub
    · rw [Option.bind_eq_some_iff] at e
      obtain ⟨xs, e1, e2⟩ := e
      obtain ⟨p, vs, rfl, b1, c1⟩ := seqOf_ok S ra e1
      obtain ⟨w, e3, rw'⟩ := c1.atI e2
      have q' := q _ _ _ (Nx.refl _ _) S rw'
      rcases b1 with b1 | b1
      · exact ix_seq value slice pins s σ H _ _ v u Q I rx ry (.inl ⟨p, vs, i, w, rfl, rfl, b1, e3, q'⟩) hsub
      · exact ix_seq value slice pins s σ H _ _ v u Q I rx ry (.inr (.inl ⟨p, vs, i, w, rfl, rfl, b1, e3, q'⟩)) hsub
  · cases e
theorem k_idx (hs : PlainIx b) (ha : PE X a (tE X.K cl W m)) (hb : PE X b (tE X.K cl W n)) : PE X (.Subscript a b pos) (tE X.K cl W (mBin fIdx m n)) :=
  (pe_ix ix_ok ha hb hs).weak fun _ _ _ h => two_step h
def cutT (xs : List T) (lo hi : Option Int) : List T := (xs.drop (HT.sIx xs.length 0 lo)).take (HT.sIx xs.length xs.length hi - HT.sIx xs.length 0 lo)
theorem Reps.cut {K : PySem.W.Frag} {ω : Wd} {ts : List T} {vs : List V} (r : Reps K ω ts vs) (lo hi : Option Int) : Reps K ω (cutT ts lo hi) (cutV vs lo hi) := by
  unfold cutT cutV
  rw [r.length]
  exact (r.drop _).take _
def mPart : Option (M T) → M (Option Int)
  | none => fun _ h => .ok none h
  | some m => fun env h => (m env h).bind fun t h1 => match t with
    | .int i => .ok (some i) h1
    | _ => .bad
def tO (K : PySem.W.Frag) (cl : Nat → Addr) (W : WX) (m : M (Option Int)) : TO := fun σ H Q => ∃ env h ω, EnvOk K ω env σ ∧ StOk K cl ω h H ∧ PostG K cl W ω H σ (m env h) fun o _ _ H' => Q o H'
theorem _root_.L2.PO.weak {e : Option Expr} {t t' : TO} (h : PO X e t) (m : ∀ σ H Q, t' σ H Q → t σ H Q) : PO X e t' := ⟨fun pins s σ H Q I q => h.run pins s σ H Q I (m σ H Q q)⟩
theorem ko_none : PO X none (tO X.K cl W (mPart none)) := po_none.weak fun σ H Q ⟨env, h, ω, he, hs, q⟩ => q ω H (Nx.refl _ _) hs
theorem ko_some {e : Expr} (h : PE X e (tE X.K cl W m)) : PO X (some e) (tO X.K cl W (mPart (some m))) := by
  refine (po_some h).weak fun σ H Q ⟨env, h, ω, he, hs, q⟩ => ⟨env, h, ω, he, hs, (PostG.bind q).mono fun t h1 ω1 H1 N1 S1 q1 v r => ?_⟩
  cases t with
  | int i => exact ⟨i, r.int_inv, q1 ω1 H1 (Nx.refl _ _) S1⟩
  | _ => exact q1.elim
def fSl (a : T) (lo hi : Option Int) (h : Store) : Option T := match a with
  | .str z => if z.length ≤ 100000 then some (.str (Txt.slice z lo hi)) else none
  | .tup xs => some (.tup (cutT xs lo hi))
  | a => (lstOf h a).map fun xs => .lst (cutT xs lo hi)
def mSl (m : M T) (lo hi : M (Option Int)) : M T := fun env h => (m env h).bind fun a h1 => (lo env h1).bind fun l h2 => (hi env h2).bind fun u h3 => Out.ofO (fSl a l u h3) h3
theorem sl_any : SlR X (fun x lo hi H Q => ∃ a h ω t, StOk X.K cl ω h H ∧ Rep X.K ω a x ∧ fSl a lo hi h = some t ∧ ∀ ω' H' v, Nx ω H ω' H' → StOk X.K cl ω' h H' → Rep X.K ω' t v → Q v H') := by
  intro pins s σ H x v vl vu lo hi sl Q I rx hs pl pu ⟨a, h, ω, t, S, ra, e, q⟩
  unfold fSl at e
  split at e
  · rename_i z
    obtain ⟨c, rfl⟩ := ne_ite e
    rw [ra.str_inv] at rx
    exact C8.sl_txt pins s σ H _ v vl vu lo hi sl Q I rx hs pl pu ⟨z, rfl, line5 c, q _ _ _ (Nx.refl _ _) S rep_str⟩
  · rename_i xs
    cases e
    obtain ⟨p, vs, rfl, b1, c1⟩ := tupOf_ok (xs := xs) S ra rfl
    refine sl_tupA pins s σ H _ v vl vu lo hi sl Q I rx hs pl pu ⟨p, vs, rfl, b1, fun w => ?_, fun w p hp => give_tup S (c1.cut lo hi) q hp⟩
    have e1 : cutT xs lo hi = xs := by
      unfold cutT
      rw [c1.length, w.1, w.2, List.drop_zero, ← c1.length, Nat.sub_zero, List.take_length]
    rw [e1] at q
    exact q _ _ _ (Nx.refl _ _) S ra
  · rw [Option.map_eq_some_iff] at e
    obtain ⟨xs, e1, rfl⟩ := e
    obtain ⟨p, vs, rfl, b1, c1⟩ := lstOf_ok S ra e1
    exact sl_list pins s σ H _ v vl vu lo hi sl Q I rx hs pl pu ⟨p, vs, rfl, SqL.of b1, fun p hp => give_lst S (c1.cut lo hi) q hp⟩
theorem k_slice {lo hi : Option Expr} {ml mh : M (Option Int)} {p2 : Pos} (he : PE X a (tE X.K cl W m)) (hl : PO X lo (tO X.K cl W ml)) (hu : PO X hi (tO X.K cl W mh)) : PE X (.Subscript a (.Slice lo hi none p2) pos) (tE X.K cl W (mSl m ml mh)) := by
  refine (pe_slice (sl_any (cl := cl)) he hl hu).weak fun σ H Q ⟨env, h, ω, he, hs, q⟩ => ⟨env, h, ω, he, hs, (PostG.bind q).mono fun t h1 ω1 H1 N1 S1 q1 v r => ⟨env, h1, ω1, he.mono N1.toGr, S1, (PostG.bind q1).mono fun l h2 ω2 H2 N2 S2 q2 => ⟨env, h2, ω2, (he.mono N1.toGr).mono N2.toGr, S2, (PostG.bind q2).mono fun u h3 ω3 H3 N3 S3 q3 => ?_⟩⟩⟩
  obtain ⟨t', e, q4⟩ := q3.ofO
  exact ⟨t, h3, ω3, t', S3, (r.mono N2.toGr).mono N3.toGr, e, fun ω' H' v N S r => q4 ω' H' N S v r⟩
def mCallF (f : FA) (r : M (List T)) : M T := fun env h => (r env h).bind fun as h1 => Out.ofO (f as h1) h1
variable {r : M (List T)} {f : FA}
theorem callF_step {K : PySem.W.Frag} {σ : L2.St} {H : Hp} {Q : VK} (h : tE K cl W (mCallF f r) σ H Q) : tA K cl W r σ H fun vs H1 => rVA K cl f vs H1 Q := by
  obtain ⟨env, h, ω, he, hs, q⟩ := h
  refine ⟨env, h, ω, he, hs, (PostG.bind q).mono fun ts h1 ω1 H1 N1 S1 q1 vs rs => ?_⟩
  obtain ⟨t, e, q3⟩ := q1.ofO
  exact ⟨ts, h1, ω1, t, S1, rs, e, fun ω' H' v N S r => q3 ω' H' N S v r⟩
theorem k_callB {x : Str} {id : String} {p : Pos} {e : Expr} {es : List Expr} (hc : CallR X (.builtin id) (rVA X.K cl f)) (hg : Gl X x) (hm : X.mg x = none) (hv : bootBuiltins x = some (.builtin id)) (ha : PA X (e :: es) (tA X.K cl W r)) (hn : x ≠ "__name__" := by decide) (hdb : (x == ("__debug__" : Str)) = false := by decide)
    (he : starEach (e :: es) X.env = (false, eval e X.env) :: starEach es X.env := by rfl) (hpl : (backTo pos (starEach es X.env)).any (·.1) = false := by rfl) : PE X (.Call (.Name x p) (e :: es) [] pos) (tE X.K cl W (mCallF f r)) :=
  (pe_callB hc hg hm hv ha hn hdb he hpl).weak fun _ _ _ h => callF_step h
theorem k_callTy {x : Str} {Ty : String} {p : Pos} {e : Expr} {es : List Expr} (hc : CallR X (.type Ty) (rVA X.K cl f)) (hg : Gl X x) (hm : X.mg x = none) (hv : bootBuiltins x = some (.type Ty)) (ha : PA X (e :: es) (tA X.K cl W r)) (hn : x ≠ "__name__" := by decide) (hdb : (x == ("__debug__" : Str)) = false := by decide)
    (he : starEach (e :: es) X.env = (false, eval e X.env) :: starEach es X.env := by rfl) (hpl : (backTo pos (starEach es X.env)).any (·.1) = false := by rfl) : PE X (.Call (.Name x p) (e :: es) [] pos) (tE X.K cl W (mCallF f r)) :=
  (pe_callTy hc hg hm hv ha hn hdb he hpl).weak fun _ _ _ h => callF_step h
def blsOf? : List T → Option (List Bool)
  | [] => some []
  | .bl i :: r => (blsOf? r).map (i :: ·)
  | _ => none
theorem Reps.bls {K : PySem.W.Frag} {ω : Wd} : ∀ {ts : List T} {vs : List V} {ns : List Bool}, Reps K ω ts vs → blsOf? ts = some ns → vs = ns.map V.bl
  | [], _, ns, r, e => by
    simp only [blsOf?, Option.some.injEq] at e
    subst e
    exact r.nil_inv
  | t :: ts, _, ns, r, e => by
    obtain ⟨v, vr, rfl, a, b⟩ := r.inv
    cases t with
    | bl i =>
      simp only [blsOf?, Option.map_eq_some_iff] at e
      obtain ⟨ms, e1, rfl⟩ := e
      rw [a.bl_inv, Reps.bls b e1]
      rfl
    | _ => simp [blsOf?] at e
def maxL : List Int → Int
  | [] => 0
  | [x] => x
  | x :: y :: r => if x < maxL (y :: r) then maxL (y :: r) else x
def minL : List Int → Int
  | [] => 0
  | [x] => x
  | x :: y :: r => if minL (y :: r) < x then minL (y :: r) else x
theorem maxL_is : ∀ {ns : List Int}, ns ≠ [] → maxL ns ∈ ns ∧ ∀ y ∈ ns, y ≤ maxL ns
  | [], h => absurd rfl h
  | [x], _ => by simp [maxL]
  | x :: y :: r, _ => by
    obtain ⟨h1, h2⟩ := maxL_is (ns := y :: r) (by simp)
    unfold maxL
    by_cases c : x < maxL (y :: r)
    · rw [if_pos c]
      refine ⟨List.mem_cons_of_mem _ h1, fun z hz => ?_⟩
      rcases List.mem_cons.mp hz with rfl | hz
      · omega
      · exact h2 z hz
    · rw [if_neg c]
      refine ⟨List.mem_cons_self .., fun z hz => ?_⟩
      rcases List.mem_cons.mp hz with rfl | hz
      · omega
      · have := h2 z hz; omega
theorem minL_is : ∀ {ns : List Int}, ns ≠ [] → minL ns ∈ ns ∧ ∀ y ∈ ns, minL ns ≤ y
  | [], h => absurd rfl h
  | [x], _ => by simp [minL]
  | x :: y :: r, _ => by
    obtain ⟨h1, h2⟩ := minL_is (ns := y :: r) (by simp)
    unfold minL
    by_cases c : minL (y :: r) < x
    · rw [if_pos c]
      refine ⟨List.mem_cons_of_mem _ h1, fun z hz => ?_⟩
      rcases List.mem_cons.mp hz with rfl | hz
      · omega
      · exact h2 z hz
    · rw [if_neg c]
      refine ⟨List.mem_cons_self .., fun z hz => ?_⟩
      rcases List.mem_cons.mp hz with rfl | hz
      · omega
      · have := h2 z hz; omega
def fLen : FA := fun as h => match as with
  | [.str y] => if y.length ≤ 100000 then some (.int y.length) else none
  | [t] => (seqOf h t).map fun xs => .int xs.length
  | _ => none
def fAll : FA := fun as h => match as with
  | [t] => (lstOf h t).bind fun xs => (blsOf? xs).map fun ns => .bl (ns.all id)
  | _ => none
def fMax : FA := fun as h => match as with
  | [.int i, .int j] => some (.int (if j > i then j else i))
  | [t] => (lstOf h t).bind fun xs => (intsOf? xs).bind fun ns => if ns ≠ [] then some (.int (maxL ns)) else none
  | _ => none
def fMin : FA := fun as h => match as with
  | [.int i, .int j] => some (.int (if j < i then j else i))
  | [.tup xs] => (intsOf? xs).bind fun ns => if ns ≠ [] then some (.int (minL ns)) else none
  | [t] => (lstOf h t).bind fun xs => (intsOf? xs).bind fun ns => if ns ≠ [] then some (.int (minL ns)) else none
  | _ => none
def fInt : FA := fun as _ => match as with
  | [.int i] => some (.int i)
  | [.bl k] => some (.int (if k then 1 else 0))
  | _ => none
def fTuple : FA := fun as h => match as with
  | [.tup xs] => some (.tup xs)
  | [t] => (lstOf h t).map .tup
  | _ => none
theorem c_len : CallR X (.builtin "len") (rVA X.K cl fLen) := by
  intro pins s σ H xs us Q I rx ⟨as, h, ω, t, S, ra, e, q⟩
  unfold fLen at e
  split at e
  · rename_i y
    obtain ⟨c, rfl⟩ := ne_ite e
    obtain ⟨v, vr, rfl, a, b⟩ := ra.inv
    rw [b.nil_inv, a.str_inv] at rx
    exact call_len pins s σ H _ us Q I rx ⟨_, _, rfl, ⟨line5 c, rfl⟩, q _ _ _ (Nx.refl _ _) S rep_int⟩
  · rename_i t' _
    rw [Option.map_eq_some_iff] at e
    obtain ⟨ys, e1, rfl⟩ := e
    obtain ⟨v, vr, rfl, a, b⟩ := ra.inv
    obtain ⟨p, vs, rfl, b1, c1⟩ := seqOf_ok S a e1
    rw [b.nil_inv] at rx
    refine call_len pins s σ H _ us Q I rx ⟨_, _, rfl, b1.elim (fun z => .inl ⟨vs, z, rfl⟩) (fun z => .inr ⟨vs, z, rfl⟩), ?_⟩
    rw [← c1.length]
    exact q _ _ _ (Nx.refl _ _) S rep_int
  · cases e
theorem c_all (hc : X.calm = true) : CallR X (.builtin "all") (rVA X.K cl fAll) := by
  intro pins s σ H xs us Q I rx ⟨as, h, ω, t, S, ra, e, q⟩
  unfold fAll at e
  split at e
  · rw [Option.bind_eq_some_iff] at e
    obtain ⟨ys, e1, e⟩ := e
    rw [Option.map_eq_some_iff] at e
    obtain ⟨ns, e2, rfl⟩ := e
    obtain ⟨v, vr, rfl, a, b⟩ := ra.inv
    obtain ⟨p, vs, rfl, b1, c1⟩ := lstOf_ok S a e1
    rw [b.nil_inv] at rx
    rw [c1.bls e2] at b1
    exact cr_all hc pins s σ H _ us Q I rx ⟨p, ns, rfl, SqL.of b1, q _ _ _ (Nx.refl _ _) S rep_bl⟩
  · cases e
theorem c_max (hc : X.calm = true) : CallR X (.builtin "max") (rVA X.K cl fMax) := by
  intro pins s σ H xs us Q I rx ⟨as, h, ω, t, S, ra, e, q⟩
  unfold fMax at e
  split at e
  · cases e
    obtain ⟨v, vr, rfl, a, b⟩ := ra.inv
    obtain ⟨v2, vr2, rfl, a2, b2⟩ := b.inv
    rw [b2.nil_inv, a.int_inv, a2.int_inv] at rx
    exact call_max2 hc pins s σ H _ us Q I rx ⟨_, _, rfl, q _ _ _ (Nx.refl _ _) S rep_int⟩
  · rw [Option.bind_eq_some_iff] at e
    obtain ⟨ys, e1, e⟩ := e
    rw [Option.bind_eq_some_iff] at e
    obtain ⟨ns, e2, e⟩ := e
    obtain ⟨c, rfl⟩ := ne_ite e
    obtain ⟨v, vr, rfl, a, b⟩ := ra.inv
    obtain ⟨p, vs, rfl, b1, c1⟩ := lstOf_ok S a e1
    rw [b.nil_inv] at rx
    rw [c1.ints e2] at b1
    obtain ⟨m1, m2⟩ := maxL_is c
    refine cr_max hc pins s σ H _ us Q I rx ⟨p, ns, rfl, SqL.of b1, List.length_pos_iff.mpr c, fun m k1 k2 => ?_⟩
    have : m = maxL ns := by
      have := m2 m k1
      have := k2 _ m1
      omega
    rw [this]
    exact q _ _ _ (Nx.refl _ _) S rep_int
  · cases e
theorem reads_ints {hp : Heap} : ∀ {ns : List Int} {its : List Value}, IntsAre its ns → PySem.W.HoldAll hp its ns
  | _, _, .nil => ⟨[], .nil⟩
  | _, _, .cons p t h => by
    obtain ⟨as, r⟩ := reads_ints (hp := hp) h
    exact ⟨[] ++ as, .cons (.int _ _) r⟩
theorem minOf_is (x : Int) : ∀ xs : List Int, PySem.W.minOf x xs ∈ x :: xs ∧ ∀ y ∈ x :: xs, PySem.W.minOf x xs ≤ y := fun xs => by
  unfold PySem.W.minOf
  induction xs generalizing x with -- from the left
  | nil => simp
  | cons z zs ih =>
    rw [List.foldl_cons]
    have e : (if PySem.W.DatumOrd.lt z x = true then z else x) = if z < x then z else x := by
      show (if decide (z < x) = true then z else x) = _
      simp
    rw [e]
    by_cases c : z < x
    · rw [if_pos c]
      obtain ⟨i1, i2⟩ := ih z
      refine ⟨List.mem_cons_of_mem _ i1, fun y hy => ?_⟩
      rcases List.mem_cons.mp hy with q | q
      · have := i2 z (List.mem_cons_self ..)
        omega
      · exact i2 y q
    · rw [if_neg c]
      obtain ⟨i1, i2⟩ := ih x
      refine ⟨?_, fun y hy => ?_⟩
      · rcases List.mem_cons.mp i1 with q | q
        · exact List.mem_cons.mpr (.inl q)
        · exact List.mem_cons_of_mem _ (List.mem_cons_of_mem _ q)
      · rcases List.mem_cons.mp hy with q | q
        · exact i2 y (List.mem_cons.mpr (.inl q))
        · rcases List.mem_cons.mp q with q2 | q2
          · have := i2 x (List.mem_cons_self ..)
            omega
          · exact i2 y (List.mem_cons_of_mem _ q2)
theorem cr_minT (hc : X.calm = true) (hu : X.A.units + 64 < cLine) : CallR X (.builtin "min") (fun vs H Q => ∃ (a : Addr) (ns : List Int), vs = [V.ref a] ∧ SqT X.K H a (ns.map V.int) ∧ 0 < ns.length ∧ ∀ m, m ∈ ns → (∀ y, y ∈ ns → m ≤ y) → Q (.int m) H) := by
  intro pins s σ H vs us Q I r ⟨a, ns, e0, hs, hne, q⟩
  subst e0
  obtain ⟨its, rv, hT, _⟩ := I.tuple hs
  rw [Vals.ref1 r]
  cases ns with
  | nil => simp at hne
  | cons x xs =>
    refine PySem.W.min_tuple_datum (α := Int) (x := x) (xs := xs) (I.ok.hd hc) hT (by simpa using reads_ints rv.ints) (by show _ + 1 + 0 < cLine; omega) fun i v h' tk _ hv hk => ?_
    obtain ⟨as, rd⟩ := hv
    have rd : Reads h' v (.int (PySem.W.minOf x xs)) as := rd
    cases rd with
    | int i t =>
      obtain ⟨m1, m2⟩ := minOf_is x xs
      exact ⟨.int _, H, I.kept hk, ⟨_, rfl⟩, q _ m1 m2⟩
theorem c_min (hc : X.calm = true) (hu : X.A.units + 64 < cLine) : CallR X (.builtin "min") (rVA X.K cl fMin) := by
  intro pins s σ H xs us Q I rx ⟨as, h, ω, t, S, ra, e, q⟩
  unfold fMin at e
  split at e
  · cases e
    obtain ⟨v, vr, rfl, a, b⟩ := ra.inv
    obtain ⟨v2, vr2, rfl, a2, b2⟩ := b.inv
    rw [b2.nil_inv, a.int_inv, a2.int_inv] at rx
    exact call_min2 hc pins s σ H _ us Q I rx ⟨_, _, rfl, q _ _ _ (Nx.refl _ _) S rep_int⟩
  · rename_i ys
    rw [Option.bind_eq_some_iff] at e
    obtain ⟨ns, e2, e⟩ := e
    obtain ⟨c, rfl⟩ := ne_ite e
    obtain ⟨v, vr, rfl, a, b⟩ := ra.inv
    simp only [Rep] at a
    obtain ⟨p, vs, rfl, b1, c1⟩ := a
    rw [b.nil_inv] at rx
    rw [c1.ints e2] at b1
    obtain ⟨m1, m2⟩ := minL_is c
    refine cr_minT hc hu pins s σ H _ us Q I rx ⟨p, ns, rfl, sqT_mono S.phi b1, List.length_pos_iff.mpr c, fun m k1 k2 => ?_⟩
    have : m = minL ns := by
      have := m2 m k1
      have := k2 _ m1
      omega
    rw [this]
    exact q _ _ _ (Nx.refl _ _) S rep_int
  · rw [Option.bind_eq_some_iff] at e
    obtain ⟨ys, e1, e⟩ := e
    rw [Option.bind_eq_some_iff] at e
    obtain ⟨ns, e2, e⟩ := e
    obtain ⟨c, rfl⟩ := ne_ite e
    obtain ⟨v, vr, rfl, a, b⟩ := ra.inv
    obtain ⟨p, vs, rfl, b1, c1⟩ := lstOf_ok S a e1
    rw [b.nil_inv] at rx
    rw [c1.ints e2] at b1
    obtain ⟨m1, m2⟩ := minL_is c
    refine cr_min hc pins s σ H _ us Q I rx ⟨p, ns, rfl, SqL.of b1, List.length_pos_iff.mpr c, fun m k1 k2 => ?_⟩
    have : m = minL ns := by
      have := m2 m k1
      have := k2 _ m1
      omega
    rw [this]
    exact q _ _ _ (Nx.refl _ _) S rep_int
  · cases e
theorem c_int : CallR X (.type "int") (rVA X.K cl fInt) := by
  intro pins s σ H xs us Q I rx ⟨as, h, ω, t, S, ra, e, q⟩
  unfold fInt at e
  split at e
  · cases e
    obtain ⟨v, vr, rfl, a, b⟩ := ra.inv
    rw [b.nil_inv, a.int_inv] at rx
    exact call_int1 pins s σ H _ us Q I rx (.inl ⟨_, rfl, q _ _ _ (Nx.refl _ _) S rep_int⟩)
  · cases e
    obtain ⟨v, vr, rfl, a, b⟩ := ra.inv
    rw [b.nil_inv, a.bl_inv] at rx
    exact call_int1 pins s σ H _ us Q I rx (.inr ⟨_, rfl, q _ _ _ (Nx.refl _ _) S rep_int⟩)
  · cases e
theorem c_tuple : CallR X (.type "tuple") (rVA X.K cl fTuple) := by
  intro pins s σ H xs us Q I rx ⟨as, h, ω, t, S, ra, e, q⟩
  unfold fTuple at e
  split at e
  · rename_i ys
    cases e
    obtain ⟨v, vr, rfl, a, b⟩ := ra.inv
    obtain ⟨p, vs, rfl, b1, c1⟩ := tupOf_ok (xs := ys) S a rfl
    rw [b.nil_inv] at rx
    exact call_tuple_of pins s σ H _ us Q I rx ⟨p, vs, rfl, .inr ⟨b1, q _ _ _ (Nx.refl _ _) S a⟩⟩
  · rw [Option.map_eq_some_iff] at e
    obtain ⟨ys, e1, rfl⟩ := e
    obtain ⟨v, vr, rfl, a, b⟩ := ra.inv
    obtain ⟨p, vs, rfl, b1, c1⟩ := lstOf_ok S a e1
    rw [b.nil_inv] at rx
    exact call_tuple_of pins s σ H _ us Q I rx ⟨p, vs, rfl, .inl ⟨SqL.of b1, fun l hl => give_tup S c1 q hl⟩⟩
  · cases e
def rNewA (K : PySem.W.Frag) (cl : Nat → Addr) (f : List T → Store → Option (List T)) : List V → Hp → VK → Prop := fun xs H Q => ∃ as h ω ts, StOk K cl ω h H ∧ Reps K ω as xs ∧ f as h = some ts ∧ ∀ p vs, Reps K ω ts vs → H p = none → Q (.ref p) (upd H p (.lst vs))
def mNewA (f : List T → Store → Option (List T)) (r : M (List T)) : M (List T) := fun env h => (r env h).bind fun as h1 => Out.ofO (f as h1) h1
theorem newA_step {K : PySem.W.Frag} {g : List T → Store → Option (List T)} {σ : L2.St} {H : Hp} {Q : VK} (h : tN K cl W (mNewA g r) σ H Q) : tA K cl W r σ H fun vs H1 => rNewA K cl g vs H1 Q := by
  obtain ⟨env, h, ω, he, hs, q⟩ := h
  unfold mNewA at q
  refine ⟨env, h, ω, he, hs, ?_⟩
  revert q
  cases r env h with
  | bad => exact fun z => z
  | ex x h1 => exact fun z => z
  | ok tx h1 =>
    intro q ω1 H1 N1 S1 vs rs
    simp only [Out.bind] at q
    cases e : g tx h1 with
    | none => rw [e] at q; exact q.elim
    | some ts =>
      rw [e] at q
      refine ⟨tx, h1, ω1, ts, S1, rs, e, fun p vs rv hp => ?_⟩
      exact q ω1 _ (N1.trans (nx_lay hp)) (S1.lay hp) p vs rv upd_same (S1.freshF hp) (S1.freshR hp) (N1.dom p hp)
def fList (as : List T) (h : Store) : Option (List T) := match as with
  | [t] => seqOf h t
  | _ => none
theorem n_list : CallR X (.type "list") (rNewA X.K cl fList) := by
  intro pins s σ H xs us Q I rx ⟨as, h, ω, t, S, ra, e, q⟩
  unfold fList at e
  split at e
  · obtain ⟨v, vr, rfl, a, b⟩ := ra.inv
    obtain ⟨p, vs, rfl, b1, c1⟩ := seqOf_ok S a e
    rw [b.nil_inv] at rx
    exact call_list_of pins s σ H _ us Q I rx ⟨p, vs, rfl, b1, fun l hl => q l vs c1 hl⟩
  · cases e
theorem kn_callTy {x : Str} {Ty : String} {p : Pos} {e : Expr} {es : List Expr} {g : List T → Store → Option (List T)} (hc : CallR X (.type Ty) (rNewA X.K cl g)) (hg : Gl X x) (hm : X.mg x = none) (hv : bootBuiltins x = some (.type Ty)) (ha : PA X (e :: es) (tA X.K cl W r)) (hn : x ≠ "__name__" := by decide) (hdb : (x == ("__debug__" : Str)) = false := by decide)
    (he : starEach (e :: es) X.env = (false, eval e X.env) :: starEach es X.env := by rfl) (hpl : (backTo pos (starEach es X.env)).any (·.1) = false := by rfl) : PE X (.Call (.Name x p) (e :: es) [] pos) (tN X.K cl W (mNewA g r)) :=
  (pe_callTy hc hg hm hv ha hn hdb he hpl).weak fun _ _ _ h => newA_step h
def tyOf (h : Store) : T → Option String
  | .non => some "NoneType"
  | .bl _ => some "bool"
  | .int _ => some "int"
  | .str _ => some "str"
  | .tup _ => some "tuple"
  | .lst _ => some "list"
  | .loc n => match h[n]? with
    | some (.lst _) => some "list"
    | some (.dK _) => some "dict"
    | _ => none
  | .scr _ => none
  | .emp => some "dict"
  | .adr _ _ _ _ => none
  | .fnc _ => none
  | .dct _ _ => none
def isiB (a b : String) : Bool := a == b || (a == "bool" && b == "int")
def isiTys : List String := ["NoneType", "bool", "int", "str", "tuple", "list", "dict"]
theorem kit_all : ∀ a ∈ isiTys, ∀ b ∈ ["int", "bool", "str", "tuple", "list", "dict"], kitB a b = some (isiB a b) := by decide +kernel
theorem tyOf_mem {h : Store} {t : T} {a : String} (e : tyOf h t = some a) : a ∈ isiTys := by
  unfold tyOf at e
  split at e <;> first
    | (cases e; decide)
    | (split at e <;> first | (cases e; decide) | cases e)
    | cases e
theorem tyOf_ok {K : PySem.W.Frag} {ω : Wd} {h : Store} {H : Hp} (S : StOk K cl ω h H) {t : T} {v : V} {a : String} (ra : Rep K ω t v) (e : tyOf h t = some a) : TyX K H v (.type a) := by
  cases t with
  | non => cases e; rw [ra.non_inv]; exact .base .non
  | bl b => cases e; rw [ra.bl_inv]; exact .base (.bl b)
  | int b => cases e; rw [ra.int_inv]; exact .base (.int b)
  | str b => cases e; rw [ra.str_inv]; exact .base (.str b)
  | tup xs =>
    cases e
    obtain ⟨p, vs, rfl, b1, c1⟩ := tupOf_ok (xs := xs) S ra rfl
    rcases b1 with (b1 | ⟨o, b1⟩) | ⟨o, its, n, k, c, _⟩
    · exact .base (.tup b1)
    · exact .fTuple b1
    · exact .kTuple k c
  | lst xs =>
    cases e
    obtain ⟨p, vs, rfl, b1, c1⟩ := lstOf_ok (xs := xs) S ra rfl
    exact .base (.lst b1)
  | loc n =>
    simp only [tyOf] at e
    simp only [Rep] at ra
    obtain ⟨p, rfl, q⟩ := ra
    split at e
    · rename_i xs hn
      cases e
      obtain ⟨_, vs, b, _⟩ := S.cells n _ p hn q
      exact .base (.lst b)
    · rename_i xs hn
      cases e
      obtain ⟨_, vs, b, _⟩ := S.cells n _ p hn q
      exact .base (.dK b)
    · cases e
  | scr ns => simp [tyOf] at e
  | adr a d f ts => cases e
  | fnc x => cases e
  | dct ks ts => cases e
  | emp =>
    cases e
    simp only [Rep] at ra
    obtain ⟨p, rfl, q⟩ := ra
    exact .base (.dK (S.phi _ _ q))
def fIsi (ty : String) : F1 := fun t h => (tyOf h t).map fun a => .bl (isiB a ty)
theorem k_isi {ty : String} {x : Str} {e : Expr} {p p2 : Pos} (hty : ty ∈ ["int", "bool", "str", "tuple", "list", "dict"]) (he : PE X e (tE X.K cl W m)) (hg : Gl X "isinstance") (hm : X.mg "isinstance" = none) (hg2 : Gl X x) (hm2 : X.mg x = none) (hv2 : bootBuiltins x = some (.type ty)) (hv : bootBuiltins "isinstance" = some (.builtin "isinstance"))
    (hn2 : x ≠ "__name__" := by decide) (hdb2 : (x == ("__debug__" : Str)) = false := by decide)
    (hst : starEach [e, .Name x p2] X.env = (false, eval e X.env) :: starEach [.Name x p2] X.env := by rfl) (hst2 : starEach [.Name x p2] X.env = (false, eval (.Name x p2) X.env) :: starEach [] X.env := by rfl) (hpl : (backTo pos (starEach [.Name x p2] X.env)).any (·.1) = false := by rfl) :
    PE X (.Call (.Name "isinstance" p) [e, .Name x p2] [] pos) (tE X.K cl W (mUn (fIsi ty) m)) := by
  have a2 : PE X (.Name x p2) (tC (.ty ty)) := pe_bltn hg2 hm2 hv2 rfl hn2 hdb2
  refine (pe_callB call_isi hg hm hv (pa_cons he (pa_cons a2 pa_nil hst2) hst) (by decide) (by decide) hst hpl).weak fun σ H Q ⟨env, h, ω, he, hs, q⟩ => ⟨env, h, ω, he, hs, (PostG.bind q).mono fun t h1 ω1 H1 N1 S1 q1 v r => ?_⟩
  obtain ⟨t', e, q2⟩ := q1.ofO
  unfold fIsi at e
  rw [Option.map_eq_some_iff] at e
  obtain ⟨a, e1, rfl⟩ := e
  exact ⟨v, .ty ty, .type a, .type ty, isiB a ty, rfl, .ty ty, tyOf_ok S1 r e1, kit_ty (kit_all a (tyOf_mem e1) ty hty), q2 ω1 H1 (Nx.refl _ _) S1 _ rep_bl⟩
end
end Sm
namespace Sm
open PySem PySem.Spec PyProof.Rows L2
structure Src where
  items : List T
  gs : List (Nat × List T)
def gsOk (h : Store) (gs : List (Nat × List T)) : Prop := ∀ g ∈ gs, h[g.1]? = some (.lst g.2)
@[simp] theorem gsOk_nil (h : Store) : gsOk h [] = True := by simp [gsOk]
open Classical in
noncomputable instance gsDec (h : Store) (gs : List (Nat × List T)) : Decidable (gsOk h gs) := propDecidable _
structure ItOk (K : PySem.W.Frag) (cl : Nat → Addr) (J : It) (s : Src) (ω0 : Wd) : Prop where
  goes : ∀ i ω h H, Gr ω0 ω → StOk K cl ω h H → gsOk h s.gs → i < s.items.length → J.go i H
  stops : ∀ ω h H, Gr ω0 ω → StOk K cl ω h H → gsOk h s.gs → J.stop s.items.length H
  yields : ∀ i ω h H x H', Gr ω0 ω → StOk K cl ω h H → gsOk h s.gs → i < s.items.length → J.yld i H x H' → ∃ ω' t, Nx ω H ω' H' ∧ StOk K cl ω' h H' ∧ s.items[i]? = some t ∧ Rep K ω' t x
def tI (K : PySem.W.Frag) (cl : Nat → Addr) (W : WX) (m : M Src) : TI := fun σ H R => ∃ env h ω, EnvOk K ω env σ ∧ StOk K cl ω h H ∧ PostG K cl W ω H σ (m env h) fun s _ ω' H' => ∀ J, ItOk K cl J s ω' → R J H'
theorem _root_.L2.PI.weak {X : Cx} {tg e : Expr} {t t' : TI} (h : PI X tg e t) (m : ∀ σ H R, t' σ H R → t σ H R) : PI X tg e t' := ⟨fun pins s σ H R I q => h.run pins s σ H R I (m σ H R q)⟩
section
variable {X : Cx} {cl : Nat → Addr} {W : WX} {tg : Expr}
theorem pi_any {l : Expr} {tl : TE} (hl : PE X l tl) : PI X tg l (fun σ H R => tl σ H fun x H1 => (∃ a xs, x = .ref a ∧ SqL X.K H1 a xs ∧ R (Itl X.K a) H1) ∨ (∃ a xs, x = .ref a ∧ SqT X.K H1 a xs ∧ R (Itt X.K a) H1) ∨ ∃ z, x = .str z ∧ R (Its z) H1) := by
  constructor
  intro pins s σ H R I q0
  refine thn (hl.run pins s σ H _ I q0) fun v s1 ⟨x, H1, I1, rx, cases3⟩ => ?_
  obtain ⟨a, xs, rfl, hq, q⟩ | ⟨a, xs, rfl, hq, q⟩ | ⟨z, rfl, q⟩ := cases3
  · cases rx
    have ⟨us, _, p, _⟩ := I1.list hq
    exact wpAny_pyIter_list p.isList (pi_one (tk := s1.toks) I1 _ (turn_list a _) ⟨_, Heap.get?_push_size _ rfl, rfl, rfl⟩ q)
  · cases rx
    have ⟨us, _, p, _⟩ := I1.tuple hq
    exact wpAny_pyIter_tuple p (pi_one (tk := s1.toks) I1 _ (turn_tuple a _) ⟨_, Heap.get?_push_size _ rfl, rfl, rfl⟩ q)
  · have ⟨t, et⟩ := rx
    subst et
    by_cases ha : z.cps.all (· < 128) = true
    · exact wpAny_pyIter_ascii ha (pi_one (tk := s1.toks) I1 _ (turn_str _ z t "str_ascii_iterator" (.inl rfl)) ⟨_, Heap.get?_push_size _ rfl, rfl, rfl⟩ q)
    · exact wpAny_pyIter_wide (Bool.eq_false_iff.mpr ha) (pi_one (tk := s1.toks) I1 _ (turn_str _ z t "str_iterator" (.inr rfl)) ⟨_, Heap.get?_push_size _ rfl, rfl, rfl⟩ q)
def gdOf (h : Store) : T → List (Nat × List T)
  | .loc n => match h[n]? with
    | some (.lst xs) => [(n, xs)]
    | _ => []
  | _ => []
def seqK (h : Store) : T → Option (Bool × List T)
  | .tup xs => some (true, xs)
  | t => (lstOf h t).map fun xs => (false, xs)
theorem seqK_ok {K : PySem.W.Frag} {cl : Nat → Addr} {ω : Wd} {h : Store} {H : Hp} {t : T} {v : V} {b : Bool} {xs : List T} (S : StOk K cl ω h H) (r : Rep K ω t v) (e : seqK h t = some (b, xs)) : ∃ p vs, v = .ref p ∧ SqX K H b p vs ∧ Reps K ω xs vs := by
  unfold seqK at e
  split at e
  · cases e
    exact tupOf_ok (xs := xs) S r rfl
  · rw [Option.map_eq_some_iff] at e
    obtain ⟨ys, e1, e2⟩ := e
    cases e2
    obtain ⟨p, vs, rfl, b1, c1⟩ := lstOf_ok S r e1
    exact ⟨p, vs, rfl, SqL.of b1, c1⟩
theorem seqK_later {K : PySem.W.Frag} {cl : Nat → Addr} {ω0 ω : Wd} {h0 h : Store} {H : Hp} {t : T} {p : Addr} {b : Bool} {xs : List T} (r : Rep K ω0 t (.ref p)) (e : seqK h0 t = some (b, xs)) (g : Gr ω0 ω) (S : StOk K cl ω h H) (go : gsOk h (gdOf h0 t)) :
    ∃ vs, SqX K H b p vs ∧ Reps K ω xs vs := by
  have e' : seqK h t = some (b, xs) := by
    cases t with
    | loc n =>
      simp only [seqK, lstOf] at e ⊢
      simp only [gdOf] at go
      cases hn : h0[n]? with
      | none => rw [hn] at e; cases e
      | some c =>
        rw [hn] at e go
        cases c with
        | lst ys =>
          simp only [Option.map_some, Option.some.injEq, Prod.mk.injEq] at e
          obtain ⟨e1, e2⟩ := e
          have := go (n, ys) (by simp)
          simp only at this
          rw [this, ← e1, ← e2]
          rfl
        | _ => cases e
    | _ => exact e
  obtain ⟨q, vs, e1, b1, c1⟩ := seqK_ok S (r.mono g) e'
  cases e1
  exact ⟨vs, b1, c1⟩
def mSeq (m : M T) : M Src := fun env h => (m env h).bind fun t h1 => match t with
  | .str z => .ok ⟨z.cps.toList.map fun c => .str ⟨#[c]⟩, []⟩ h1
  | t => match seqK h1 t with
    | some (_, xs) => .ok ⟨xs, gdOf h1 t⟩ h1
    | none => .bad
theorem ki_seq {e : Expr} {m : M T} (he : PE X e (tE X.K cl W m)) : PI X tg e (tI X.K cl W (mSeq m)) := by
  refine (pi_any he).weak fun σ H R ⟨env, h, ω, he, hs, q⟩ => ⟨env, h, ω, he, hs, (PostG.bind q).mono fun t h1 ω1 H1 N1 S1 q1 v r => ?_⟩
  split at q1
  · rename_i z
    rw [r.str_inv]
    refine .inr (.inr ⟨z, rfl, q1 ω1 H1 (Nx.refl _ _) S1 _ ?_⟩)
    have w := walk_str (z := z)
    have hl : (z.cps.toList.map fun c => T.str ⟨#[c]⟩).length = z.cps.size := by simp
    refine ⟨fun i ω h H _ _ _ hi => w.goes i H (by rw [← hl]; exact hi) trivial, fun ω h H _ _ _ => by
      show (Its z).stop (z.cps.toList.map fun c => T.str ⟨#[c]⟩).length H
      rw [hl]; exact w.stops H trivial, fun i ω h H x H' _ S _ hi y => ?_⟩
    obtain ⟨rfl, c, e1, rfl⟩ := w.yields i H x H' (by rw [← hl]; exact hi) trivial y
    refine ⟨ω, .str ⟨#[c]⟩, Nx.refl _ _, S, ?_, rep_str⟩
    show (z.cps.toList.map fun c => T.str ⟨#[c]⟩)[i]? = _
    rw [List.getElem?_map, Array.getElem?_toList, e1]
    rfl
  · split at q1
    · rename_i b xs ex
      obtain ⟨p, vs, rfl, b1, c1⟩ := seqK_ok S1 r ex
      have hl := c1.length
      have later : ∀ {ω : Wd} {h : Store} {H : Hp}, Gr ω1 ω → StOk X.K cl ω h H → gsOk h (gdOf h1 t) → ∃ ws, SqX X.K H b p ws ∧ Reps X.K ω xs ws := fun g S go => seqK_later r ex g S go
      cases b with
      | false =>
        refine .inl ⟨p, vs, rfl, b1, q1 ω1 H1 (Nx.refl _ _) S1 _ ⟨fun i ω h H g S go hi => ?_, fun ω h H g S go => ?_, fun i ω h H x H' g S go hi y => ?_⟩⟩
        · obtain ⟨ws, s1, c⟩ := later g S go
          exact (walk_list (xs := ws)).goes i H (by rw [← c.length]; exact hi) s1
        · obtain ⟨ws, s1, c⟩ := later g S go
          have := (walk_list (xs := ws)).stops H s1
          rw [← c.length] at this
          exact this
        · obtain ⟨ws, s1, c⟩ := later g S go
          obtain ⟨rfl, e1⟩ := (walk_list (xs := ws)).yields i H x H' (by rw [← c.length]; exact hi) s1 y
          obtain ⟨t', e2, r2⟩ := c.getV e1
          exact ⟨ω, t', Nx.refl _ _, S, e2, r2⟩
      | true =>
        refine .inr (.inl ⟨p, vs, rfl, b1, q1 ω1 H1 (Nx.refl _ _) S1 _ ⟨fun i ω h H g S go hi => ?_, fun ω h H g S go => ?_, fun i ω h H x H' g S go hi y => ?_⟩⟩)
        · obtain ⟨ws, s1, c⟩ := later g S go
          exact (walk_tup (xs := ws)).goes i H (by rw [← c.length]; exact hi) s1
        · obtain ⟨ws, s1, c⟩ := later g S go
          have := (walk_tup (xs := ws)).stops H s1
          rw [← c.length] at this
          exact this
        · obtain ⟨ws, s1, c⟩ := later g S go
          obtain ⟨rfl, e1⟩ := (walk_tup (xs := ws)).yields i H x H' (by rw [← c.length]; exact hi) s1 y
          obtain ⟨t', e2, r2⟩ := c.getV e1
          exact ⟨ω, t', Nx.refl _ _, S, e2, r2⟩
    · exact q1.elim
def rangeT (lo : Int) (n : Nat) : List T := (List.range n).map fun i => .int (lo + (i : Nat))
theorem rangeT_length (lo : Int) (n : Nat) : (rangeT lo n).length = n := by simp [rangeT]
theorem it_range {K : PySem.W.Frag} {lo : Int} {n : Nat} {ω0 : Wd} : ItOk K cl (Itr lo n) ⟨rangeT lo n, []⟩ ω0 := by
  have w := walk_range (lo := lo) (n := n)
  refine ⟨fun i ω h H _ _ _ hi => w.goes i H (by rw [← rangeT_length lo n]; exact hi) trivial, fun ω h H _ _ _ => ?_, fun i ω h H x H' _ S _ hi y => ?_⟩
  · show (Itr lo n).stop (rangeT lo n).length H
    rw [rangeT_length]; exact w.stops H trivial
  · have hi' : i < n := by rw [← rangeT_length lo n]; exact hi
    obtain ⟨rfl, rfl⟩ := w.yields i H x H' hi' trivial y
    refine ⟨ω, .int (lo + (i : Nat)), Nx.refl _ _, S, ?_, rep_int⟩
    show (rangeT lo n)[i]? = _
    unfold rangeT
    rw [List.getElem?_map, List.getElem?_range hi']
    rfl
def mRange1 (r : M (List T)) : M Src := fun env h => (r env h).bind fun as h1 => match as with
  | [.int j] => if j < 1000000 ∧ -1000000 < j then .ok ⟨rangeT 0 j.toNat, []⟩ h1 else .bad
  | _ => .bad
def mRange2 (r : M (List T)) : M Src := fun env h => (r env h).bind fun as h1 => match as with
  | [.int i, .int j] => if i < 1000000 ∧ -1000000 < i ∧ j < 1000000 ∧ -1000000 < j then .ok ⟨rangeT i (j - i).toNat, []⟩ h1 else .bad
  | _ => .bad
variable {r : M (List T)}
theorem ki_range1 {a : Expr} {p pos : Pos} (hg : Gl X "range") (hm : X.mg "range" = none) (ha : PA X [a] (tA X.K cl W r)) (hs : starEach [a] X.env = [(false, eval a X.env)] := by rfl) : PI X tg (.Call (.Name "range" p) [a] [] pos) (tI X.K cl W (mRange1 r)) := by
  refine (pi_range1 hg hm ha hs).weak fun σ H R ⟨env, h, ω, he, hs, q⟩ => ⟨env, h, ω, he, hs, (PostG.bind q).mono fun as h1 ω1 H1 N1 S1 q1 vs rs => ?_⟩
  split at q1
  · rename_i j
    obtain ⟨v, vr, rfl, a1, b1⟩ := rs.inv
    split at q1
    · rw [b1.nil_inv, a1.int_inv]
      exact ⟨j, rfl, by omega, by omega, q1 ω1 H1 (Nx.refl _ _) S1 _ it_range⟩
    · exact q1.elim
  · exact q1.elim
theorem ki_range2 {a b : Expr} {p pos : Pos} (hg : Gl X "range") (hm : X.mg "range" = none) (ha : PA X [a, b] (tA X.K cl W r)) (hs : starEach [a, b] X.env = [(false, eval a X.env), (false, eval b X.env)] := by rfl) (hs2 : starEach [b] X.env = [(false, eval b X.env)] := by rfl) :
    PI X tg (.Call (.Name "range" p) [a, b] [] pos) (tI X.K cl W (mRange2 r)) := by
  refine (pi_range2 hg hm ha hs hs2).weak fun σ H R ⟨env, h, ω, he, hs, q⟩ => ⟨env, h, ω, he, hs, (PostG.bind q).mono fun as h1 ω1 H1 N1 S1 q1 vs rs => ?_⟩
  split at q1
  · rename_i i j
    obtain ⟨v, vr, rfl, a1, b1⟩ := rs.inv
    obtain ⟨v2, vr2, rfl, a2, b2⟩ := b1.inv
    split at q1
    · rw [b2.nil_inv, a1.int_inv, a2.int_inv]
      exact ⟨i, j, rfl, by omega, q1 ω1 H1 (Nx.refl _ _) S1 _ it_range⟩
    · exact q1.elim
  · exact q1.elim
def pairT (x y : T) : T := .tup [x, y]
def enumT (n : Nat) : List T → List T
  | [] => []
  | x :: r => pairT (.int (n : Nat)) x :: enumT (n + 1) r
theorem enumT_length (xs : List T) : ∀ n : Nat, (enumT n xs).length = xs.length := by
  induction xs with
  | nil => exact fun _ => rfl
  | cons x r ih => exact fun n => congrArg (· + 1) (ih (n + 1))
theorem enumT_get (xs : List T) : ∀ (n i : Nat), (enumT n xs)[i]? = xs[i]?.map (pairT (.int ((n + i : Nat)))) := by
  induction xs with
  | nil => exact fun _ i => by simp [enumT]
  | cons x r ih =>
    intro n i
    cases i with
    | zero => rfl
    | succ i =>
      show (enumT (n + 1) r)[i]? = r[i]?.map _
      rw [ih, Nat.add_assoc, Nat.add_comm 1 i]
def zip3T : List T → List T → List T → List T
  | x :: xs, y :: ys, z :: zs => .tup [x, y, z] :: zip3T xs ys zs
  | _, _, _ => []
theorem zip3T_get : ∀ {xs ys zs : List T} {i : Nat} {x y z : T}, xs[i]? = some x → ys[i]? = some y → zs[i]? = some z → (zip3T xs ys zs)[i]? = some (.tup [x, y, z])
  | _ :: _, _ :: _, _ :: _, 0, _, _, _, a, b, c => by cases a; cases b; cases c; rfl
  | _ :: xs, _ :: ys, _ :: zs, i + 1, x, y, z, a, b, c => by
    show (zip3T xs ys zs)[i]? = _
    exact zip3T_get (xs := xs) (ys := ys) (zs := zs) a b c
  | [], _, _, _, _, _, _, a, _, _ => by cases a
  | _ :: _, [], _, _, _, _, _, _, b, _ => by cases b
  | _ :: _, _ :: _, [], _, _, _, _, _, _, c => by cases c
theorem zip3T_length : ∀ xs ys zs : List T, (zip3T xs ys zs).length = min (min xs.length ys.length) zs.length
  | _ :: xs, _ :: ys, _ :: zs => by
    show (zip3T xs ys zs).length + 1 = min (min (xs.length + 1) (ys.length + 1)) (zs.length + 1)
    rw [zip3T_length xs ys zs]
    omega
  | [], _, _ => by simp [zip3T]
  | _ :: _, [], _ => by simp [zip3T]
  | _ :: _, _ :: _, [] => by simp [zip3T]
def mEnum (r : M (List T)) : M Src := fun env h => (r env h).bind fun as h1 => match as with
  | [t] => match seqK h1 t with
    | some (_, xs) => .ok ⟨enumT 0 xs, gdOf h1 t⟩ h1
    | none => .bad
  | _ => .bad
def mZip (r : M (List T)) : M Src := fun env h => (r env h).bind fun as h1 => match as with
  | [t, u] => match seqK h1 t, seqK h1 u with
    | some (_, xs), some (_, ys) => .ok ⟨List.zipWith pairT xs ys, gdOf h1 t ++ gdOf h1 u⟩ h1
    | _, _ => .bad
  | _ => .bad
def mZip3 (r : M (List T)) : M Src := fun env h => (r env h).bind fun as h1 => match as with
  | [t, u, v] => match seqK h1 t, seqK h1 u, seqK h1 v with
    | some (_, xs), some (_, ys), some (_, zs) => .ok ⟨zip3T xs ys zs, gdOf h1 t ++ (gdOf h1 u ++ gdOf h1 v)⟩ h1
    | _, _, _ => .bad
  | _ => .bad
theorem gsOk_app {h : Store} {a b : List (Nat × List T)} (g : gsOk h (a ++ b)) : gsOk h a ∧ gsOk h b := ⟨fun x m => g x (by simp [m]), fun x m => g x (by simp [m])⟩
theorem rows_ok {K : PySem.W.Frag} {Rw : Hp → Tab → Prop} {its : List T} {gs : List (Nat × List T)} {ω0 : Wd}
    (later : ∀ {ω h H}, Gr ω0 ω → StOk K cl ω h H → gsOk h gs → ∃ b, Rw H b ∧ b.n = its.length ∧ ∀ i xs, b.row i xs → ∃ ts, its[i]? = some (.tup ts) ∧ Reps K ω ts xs) : ItOk K cl (rowIt Rw) ⟨its, gs⟩ ω0 where
  goes := fun i ω h H g S go hi => let ⟨b, q, e, _⟩ := later g S go; ⟨b, q, by rw [e]; exact hi⟩
  stops := fun ω h H g S go => let ⟨b, q, e, _⟩ := later g S go; ⟨b, q, e.symm⟩
  yields := by
    rintro i ω h H _ _ g S go hi ⟨A, xs, rfl, hn, rfl, all⟩
    have ⟨b, q, _, k⟩ := later g S go
    have ⟨ts, e, r⟩ := k i xs (all b q)
    refine ⟨_, .tup ts, nx_newF S hn, S.newF hn, e, ?_⟩
    simp only [Rep]
    exact ⟨A, xs, rfl, SqT.of upd_same, r.mono (gr_fix (S.freshF hn))⟩
theorem ki_enum {e : Expr} {p pos tpos : Pos} {elts : List Expr} {kk : Nat} (hg : Gl X "enumerate") (hm : X.mg "enumerate" = none) (ha : PA X [e] (tA X.K cl W r)) (hs : starEach [e] X.env = [(false, eval e X.env)] := by rfl) :
    PI X (.Tuple elts kk tpos) (.Call (.Name "enumerate" p) [e] [] pos) (tI X.K cl W (mEnum r)) := by
  refine (pi_enumX hg hm ha hs).weak fun σ H R ⟨env, h, ω, he, hs, q⟩ => ⟨env, h, ω, he, hs, (PostG.bind q).mono fun as h1 ω1 H1 N1 S1 q1 vs rs => ?_⟩
  split at q1
  · rename_i t
    split at q1
    · rename_i b xs ex
      obtain ⟨v, vr, rfl, r1, b1⟩ := rs.inv
      rw [b1.nil_inv]
      obtain ⟨p, vs, rfl, b1, c1⟩ := seqK_ok S1 r1 ex
      refine ⟨b, p, vs, rfl, b1, q1 ω1 H1 (Nx.refl _ _) S1 _ (rows_ok fun g S go => ?_)⟩
      have ⟨ws, s1, c⟩ := seqK_later r1 ex g S go
      refine ⟨_, ⟨ws, s1, rfl⟩, by rw [enumT_length]; exact c.length.symm, fun i _ ⟨x, hx, e⟩ => ?_⟩
      subst e
      have ⟨t', e3, r3⟩ := c.getV hx
      exact ⟨[.int (i : Nat), t'], by rw [enumT_get, e3, Nat.zero_add]; rfl, Reps.cons rep_int (Reps.one r3)⟩
    · exact q1.elim
  · exact q1.elim
theorem ki_zip {e e2 : Expr} {p pos tpos : Pos} {elts : List Expr} {kk : Nat} (hg : Gl X "zip") (hm : X.mg "zip" = none) (ha : PA X [e, e2] (tA X.K cl W r))
    (hst : starEach [e, e2] X.env = (false, eval e X.env) :: starEach [e2] X.env := by rfl) (hpl : (backTo pos (starEach [e2] X.env)).any (·.1) = false := by rfl) :
    PI X (.Tuple elts kk tpos) (.Call (.Name "zip" p) [e, e2] [] pos) (tI X.K cl W (mZip r)) := by
  refine (pi_zipX hg hm ha hst hpl).weak fun σ H R ⟨env, h, ω, he, hs, q⟩ => ⟨env, h, ω, he, hs, (PostG.bind q).mono fun as h1 ω1 H1 N1 S1 q1 vs rs => ?_⟩
  split at q1
  · rename_i t u
    split at q1
    · rename_i b1 xs b2 ys ex ey
      obtain ⟨v, vr, rfl, r1, q3⟩ := rs.inv
      obtain ⟨v2, vr2, rfl, r2, q4⟩ := q3.inv
      rw [q4.nil_inv]
      obtain ⟨p1, vs1, rfl, d1, c1⟩ := seqK_ok S1 r1 ex
      obtain ⟨p2, vs2, rfl, d2, c2⟩ := seqK_ok S1 r2 ey
      refine ⟨b1, b2, p1, p2, vs1, vs2, rfl, d1, d2, q1 ω1 H1 (Nx.refl _ _) S1 _ (rows_ok fun g S go => ?_)⟩
      have ⟨ws, s1, k1⟩ := seqK_later r1 ex g S (gsOk_app go).1
      have ⟨zs, s2, k2⟩ := seqK_later r2 ey g S (gsOk_app go).2
      refine ⟨_, ⟨ws, zs, s1, s2, rfl⟩, by rw [List.length_zipWith, k1.length, k2.length], fun i _ ⟨x, y, hx, hy, e⟩ => ?_⟩
      subst e
      have ⟨t1, e1, r3⟩ := k1.getV hx
      have ⟨t2, e2, r4⟩ := k2.getV hy
      exact ⟨[t1, t2], by rw [List.getElem?_zipWith, e1, e2]; rfl, Reps.cons r3 (Reps.one r4)⟩
    · exact q1.elim
  · exact q1.elim
theorem ki_zip3 {e e2 e3 : Expr} {p pos tpos : Pos} {elts : List Expr} {kk : Nat} (hg : Gl X "zip") (hm : X.mg "zip" = none) (ha : PA X [e, e2, e3] (tA X.K cl W r))
    (hst : starEach [e, e2, e3] X.env = (false, eval e X.env) :: starEach [e2, e3] X.env := by rfl) (hpl : (backTo pos (starEach [e2, e3] X.env)).any (·.1) = false := by rfl) :
    PI X (.Tuple elts kk tpos) (.Call (.Name "zip" p) [e, e2, e3] [] pos) (tI X.K cl W (mZip3 r)) := by
  refine (pi_zip3X hg hm ha hst hpl).weak fun σ H R ⟨env, h, ω, he, hs, q⟩ => ⟨env, h, ω, he, hs, (PostG.bind q).mono fun as h1 ω1 H1 N1 S1 q1 vs rs => ?_⟩
  split at q1
  · rename_i t u v
    split at q1
    · rename_i b1 xs b2 ys b3 zs ex ey ez
      obtain ⟨v, vr, rfl, r1, q3⟩ := rs.inv
      obtain ⟨v2, vr2, rfl, r2, q4⟩ := q3.inv
      obtain ⟨v3, vr3, rfl, r3, q5⟩ := q4.inv
      rw [q5.nil_inv]
      obtain ⟨p1, vs1, rfl, d1, c1⟩ := seqK_ok S1 r1 ex
      obtain ⟨p2, vs2, rfl, d2, c2⟩ := seqK_ok S1 r2 ey
      obtain ⟨p3, vs3, rfl, d3, c3⟩ := seqK_ok S1 r3 ez
      refine ⟨b1, b2, b3, p1, p2, p3, vs1, vs2, vs3, rfl, d1, d2, d3, q1 ω1 H1 (Nx.refl _ _) S1 _ (rows_ok fun g S go => ?_)⟩
      have ⟨w1, s1, k1⟩ := seqK_later r1 ex g S (gsOk_app go).1
      have ⟨w2, s2, k2⟩ := seqK_later r2 ey g S (gsOk_app (gsOk_app go).2).1
      have ⟨w3, s3, k3⟩ := seqK_later r3 ez g S (gsOk_app (gsOk_app go).2).2
      refine ⟨_, ⟨w1, w2, w3, s1, s2, s3, rfl⟩, by rw [zip3T_length, k1.length, k2.length, k3.length], fun i _ ⟨x, y, z, hx, hy, hz, e⟩ => ?_⟩
      subst e
      have ⟨t1, e1, g1⟩ := k1.getV hx
      have ⟨t2, e2, g2⟩ := k2.getV hy
      have ⟨t3, e3, g3⟩ := k3.getV hz
      exact ⟨[t1, t2, t3], zip3T_get e1 e2 e3, Reps.cons g1 (Reps.cons g2 (Reps.one g3))⟩
    · exact q1.elim
  · exact q1.elim
end
end Sm
namespace Sm
open PySem PySem.Spec PyProof.Rows L2
inductive Tgt where
  | one (i : Nat) | tup (is : List Nat)
  /-- x, (y, ..) -/
  | nest (i : Nat) (is : List Nat)
def Tgt.slots : Tgt → List Nat
  | .one i => [i]
  | .tup is => is
  | .nest i is => i :: is
def setT : List Nat → List T → Env' → Env'
  | i :: is, t :: ts, env => setT is ts (env.set i (some t))
  | _, _, env => env
def bindT : Tgt → T → Env' → Option Env'
  | .one i, t, env => some (env.set i (some t))
  | .tup is, .tup ts, env => if ts.length = is.length then some (setT is ts env) else none
  | .tup is, .lst ts, env => if ts.length = is.length then some (setT is ts env) else none
  | .nest i is, .tup [a, .tup ts], env => if ts.length = is.length then some (setT is ts (env.set i (some a))) else none
  | _, _, _ => none
def gMany : List Nat → TGs
  | [] => gNil
  | i :: is => gCons (gName i) (gMany is)
def gSeq (K : PySem.W.Frag) (n : Nat) (t : TGs) : TG := fun v σ H Q => gTup K n t v σ H Q ∨ gUnl K n t v σ H Q
theorem pg_seq {X : Cx} {pos : Pos} {es : List Expr} {k : Nat} {t : TGs} {n : Nat} (hc : X.calm = true) (h : PGs X es t)
    (hn : (assignEach es X.env).length = n) (hst : (assignEach es X.env).findIdx? (·.1) = none) : PG X (.Tuple es k pos) (gSeq X.K n t) :=
  ⟨fun pins s σ H v u Q I r w => w.elim ((pg_tup hc h hn hst).run pins s σ H v u Q I r) ((pg_unl hc h hn hst).run pins s σ H v u Q I r)⟩
def gT (K : PySem.W.Frag) : Tgt → TG
  | .one i => gName i
  | .tup is => gSeq K is.length (gMany is)
  | .nest i is => gTup K 2 (gCons (gName i) (gCons (gTup K is.length (gMany is)) gNil))
theorem wipe_set {σ : L2.St} {i : Nat} {x : Option V} : ∀ {vs : List Nat}, i ∈ vs → wipe (σ.set i x) vs = wipe σ vs
  | [], h => by cases h
  | v :: vs, h => by
    unfold wipe
    by_cases e : v = i
    · subst e
      by_cases hm : v ∈ vs
      · rw [wipe_set hm]
      · have : ∀ us : List Nat, wipe (σ.set v x) us = (wipe σ us).set v (if v ∈ us then none else x) := by
          intro us
          induction us with
          | nil => simp [wipe]
          | cons u us ih =>
            show (wipe (σ.set v x) us).set u none = ((wipe σ us).set u none).set v _
            rw [ih]
            by_cases e : u = v
            · subst e; simp
            · rw [List.set_comm _ _ (Ne.symm e)]
              have e' : ¬ v = u := fun q => e q.symm
              simp [e']
        rw [this vs, if_neg hm, List.set_set]
    · have hm : i ∈ vs := (List.mem_cons.mp h).elim (fun q => absurd q.symm e) id
      rw [wipe_set hm]
section
variable {K : PySem.W.Frag} {cl : Nat → Addr}
theorem gMany_ok {ω : Wd} {h : Store} {H : Hp} : ∀ {is : List Nat} {ts : List T} {vs : List V} {env : Env'} {σ : L2.St} {Q : L2.St → Hp → Prop}, Reps K ω ts vs → ts.length = is.length → EnvOk K ω env σ →
    (∀ σ', EnvOk K ω (setT is ts env) σ' → (∀ us, (∀ i ∈ is, i ∈ us) → wipe σ' us = wipe σ us) → Q σ' H) → gMany is vs σ H Q
  | [], ts, vs, env, σ, Q, r, hl, he, q => by
    have : ts = [] := List.eq_nil_of_length_eq_zero hl
    subst this
    exact ⟨r.nil_inv, q σ he fun _ _ => rfl⟩
  | i :: is, [], vs, env, σ, Q, r, hl, he, q => by simp at hl
  | i :: is, t :: ts, vs, env, σ, Q, r, hl, he, q => by
    obtain ⟨v, vr, rfl, a, b⟩ := r.inv
    refine ⟨v, vr, rfl, ?_⟩
    show gMany is vr (σ.set i (some v)) H Q
    refine gMany_ok (h := h) b (by simpa using hl) (he.set i a) fun σ' h1 h2 => q σ' h1 fun us hu => ?_
    rw [h2 us fun j hj => hu j (List.mem_cons_of_mem _ hj), wipe_set (hu i (List.mem_cons_self ..))]
theorem gT_ok {ω : Wd} {h : Store} {H : Hp} {tg : Tgt} {t : T} {v : V} {env env' : Env'} {σ : L2.St} {Q : L2.St → Hp → Prop} (S : StOk K cl ω h H) (r : Rep K ω t v) (he : EnvOk K ω env σ) (e : bindT tg t env = some env')
    (q : ∀ σ', EnvOk K ω env' σ' → (∀ us, (∀ i ∈ tg.slots, i ∈ us) → wipe σ' us = wipe σ us) → Q σ' H) : gT K tg v σ H Q := by
  cases tg with
  | one i =>
    simp only [bindT, Option.some.injEq] at e
    subst e
    exact q _ (he.set i r) fun us hu => wipe_set (hu i (by simp [Tgt.slots]))
  | tup is =>
    cases t with
    | tup ts =>
      simp only [bindT] at e
      obtain ⟨c, rfl⟩ := ne_ite e
      obtain ⟨p, vs, rfl, b1, c1⟩ := tupOf_ok (xs := ts) S r rfl
      exact .inl ⟨p, vs, rfl, b1, by rw [← c1.length]; exact c, gMany_ok (h := h) c1 c he q⟩
    | lst ts =>
      simp only [bindT] at e
      obtain ⟨c, rfl⟩ := ne_ite e
      obtain ⟨p, vs, rfl, b1, c1⟩ := lstOf_ok (xs := ts) S r rfl
      exact .inr ⟨p, vs, rfl, SqL.of b1, by rw [← c1.length]; exact c, gMany_ok (h := h) c1 c he q⟩
    | _ => simp [bindT] at e
  | nest i is =>
    cases t with
    | tup xs =>
      rcases xs with _ | ⟨a, _ | ⟨b, _ | ⟨c, l⟩⟩⟩
      · simp [bindT] at e
      · simp [bindT] at e
      · cases b with
        | tup ts =>
          simp only [bindT] at e
          obtain ⟨c, rfl⟩ := ne_ite e
          obtain ⟨p, vs, rfl, b1, c1⟩ := tupOf_ok (xs := [a, .tup ts]) S r rfl
          obtain ⟨v1, vr, rfl, ra, r2⟩ := c1.inv
          obtain ⟨v2, vr2, rfl, rt, r3⟩ := r2.inv
          have := r3.nil_inv
          subst this
          obtain ⟨p2, ws, rfl, b2, c2⟩ := tupOf_ok (xs := ts) S rt rfl
          refine ⟨p, [v1, .ref p2], rfl, b1, rfl, v1, [.ref p2], rfl, ?_⟩
          refine ⟨.ref p2, [], rfl, p2, ws, rfl, b2, by rw [← c2.length]; exact c, ?_⟩
          refine gMany_ok (h := h) c2 c (he.set i ra) fun σ' h1 h2 => ⟨rfl, q σ' h1 fun us hu => ?_⟩
          rw [h2 us fun j hj => hu j (List.mem_cons_of_mem _ hj), wipe_set (hu i (List.mem_cons_self ..))]
        | _ => simp [bindT] at e
      · simp [bindT] at e
    | _ => simp [bindT] at e
end
def Out.bindN {α β : Type} : Out α → (α → Store → Out β) → Out β
  | .ok a h, k => k a h
  | _, _ => .bad
@[simp] theorem bindN_ok {α β : Type} (a : α) (h : Store) (k : α → Store → Out β) : (Out.ok a h).bindN k = k a h := rfl
@[simp] theorem bindN_bad {α β : Type} (k : α → Store → Out β) : (Out.bad : Out α).bindN k = .bad := rfl
def dropE : List Nat → Env' → Env'
  | [], env => env
  | v :: vs, env => (dropE vs env).set v none
noncomputable def compLoop (gs : List (Nat × List T)) (tg : Tgt) (tt : M Bool) (me : M T) (env : Env') : List T → List T → Store → Out (List T)
  | [], acc, h => if gsOk h gs then .ok acc h else .bad
  | x :: r, acc, h => if gsOk h gs then
      match bindT tg x env with
      | some env1 => (tt env1 h).bindN fun b h1 => if b = true then (me env1 h1).bindN fun y h2 => if acc.length < 100000 then compLoop gs tg tt me env r (acc ++ [y]) h2 else .bad else compLoop gs tg tt me env r acc h1
      | none => .bad
    else .bad
noncomputable def mComp (src : M Src) (own : List Nat) (tg : Tgt) (tt : M Bool) (me : M T) : M (List T) := fun env h => (src env h).bind fun s h1 => compLoop s.gs tg tt me (dropE own env) s.items [] h1
def mYes : M Bool := fun _ h => .ok true h
def W0 : WX := fun _ _ _ _ => False
section
variable {K : PySem.W.Frag} {cl : Nat → Addr} {W : WX}
theorem PostG.later {α : Type} {ω ω2 : Wd} {H H2 : Hp} {σ : L2.St} {o : Out α} {R : α → Store → Wd → Hp → Prop} (N : Nx ω H ω2 H2) (q : PostG K cl W ω H σ o R) : PostG K cl W ω2 H2 σ o R := by
  cases o with
  | bad => exact q
  | ex e h => exact fun ω3 H3 cls d N3 S3 x => q ω3 H3 cls d (N.trans N3) S3 x
  | ok a h => exact fun ω3 H3 N3 S3 => q ω3 H3 (N.trans N3) S3
theorem PostG.bindZ {α β : Type} {Z : Out β → Prop} {ω : Wd} {H : Hp} {σ : L2.St} {o : Out α} {k : α → Store → Out β} (hb : ¬ Z .bad) (h : Z (o.bindN k)) : PostG K cl W0 ω H σ o fun a h1 _ _ => Z (k a h1) := by
  cases o with
  | bad => exact (hb h).elim
  | ex e h' => exact (hb h).elim
  | ok a h' => exact fun _ _ _ _ => h
theorem envOk_wipe {ω : Wd} {env : Env'} {σ : L2.St} (e : EnvOk K ω env σ) : ∀ vs : List Nat, EnvOk K ω (dropE vs env) (wipe σ vs)
  | [] => e
  | v :: vs => by
    have ih := envOk_wipe e vs
    unfold dropE wipe
    refine ⟨by simp [ih.1], fun i t h => ?_⟩
    by_cases q : v = i
    · subst q
      have hi : v < (dropE vs env).length := by
        have := (List.getElem?_eq_some_iff.mp h).1
        simpa using this
      rw [List.getElem?_set_self hi] at h
      cases h
    · rw [List.getElem?_set_ne q] at h
      obtain ⟨w, a, b⟩ := ih.2 i t h
      exact ⟨w, by rw [List.getElem?_set_ne q]; exact a, b⟩
theorem StOk.scratch {ω : Wd} {h : Store} {H : Hp} {D : Addr} {o : HO} (S : StOk K cl ω h H) (n1 : ω.Phi D = none) (n2 : D ∉ ω.rho) : StOk K cl ω h (upd H D o) where
  len := S.len
  nd := S.nd
  cells := fun i c q a b => (S.cells i c q a b).move (Gr.refl _) fun u z => by
    rw [upd_ne (fun e : q = D => n2 (by rw [← e]; exact List.mem_of_getElem? b))]; exact z
  phi := fun a u z => by
    rw [upd_ne (fun e : a = D => by rw [e, n1] at z; cases z)]; exact S.phi a u z
  dis := S.dis
theorem Nx.scratch {ω0 ω : Wd} {H0 H : Hp} {D : Addr} {o : HO} (N : Nx ω0 H0 ω H) (f : H0 D = none) : Nx ω0 H0 ω (upd H D o) where
  toGr := N.toGr
  newR := N.newR
  newF := N.newF
  fr := fun a u z n => by rw [upd_ne (ne_of_none z f)]; exact N.fr a u z n
  dom := fun a z => by
    by_cases e : a = D
    · rw [e]; exact f
    · rw [upd_ne e] at z; exact N.dom a z
theorem Nx.keepD {ω0 ω : Wd} {H0 H : Hp} {D : Addr} {o : HO} (N : Nx ω0 H0 ω H) (e : H0 D = some o) (n1 : ω0.Phi D = none) (n2 : D ∉ ω0.rho) (ph : ∀ u, ω.Phi D = some u → H D = some u) (no : ∀ fs, o ≠ .xd fs) : H D = some o ∧ ω.Phi D = none ∧ D ∉ ω.rho := by
  refine ⟨N.fr D o e n2, ?_, fun m => ?_⟩
  · cases q : ω.Phi D with
    | none => rfl
    | some u =>
      rcases N.newF D u q with z | z | z | z
      rotate_right
      · exact absurd z n2
      · rw [n1] at z; cases z
      · rw [e] at z; cases z
      · have k := ph u q
        rw [N.fr D o e n2] at k
        cases k
        obtain ⟨fs, z⟩ := z
        exact absurd z (no fs)
  · rcases N.newR D m with z | z
    · exact n2 z
    · rw [e] at z; cases z
end
section
variable {X : Cx} {cl : Nat → Addr} {W : WX} {elt tg iter : Expr} {ifs : List Expr} {scope : Scope} {own : List (Str × Nat)} {pos : Pos} {ms : M Src} {g : Tgt} {tt : M Bool} {me : M T}
theorem lc_step {K : PySem.W.Frag} {vs0 : List Nat} (hsub : ∀ i ∈ g.slots, i ∈ vs0) {σ : L2.St} {H : Hp} {Q : VK} (hh : tN K cl W (mComp ms vs0 g tt me) σ H Q) : tLc (tI K cl W ms) (gT K g) (tT K cl W0 tt) (tE K cl W0 me) vs0 σ H Q := by
  obtain ⟨env, h, ω, henv, hst, q⟩ := hh
  refine ⟨env, h, ω, henv, hst, ?_⟩
  unfold mComp at q
  revert q
  cases hsrc : ms env h with
  | bad => exact fun z => z
  | ex x h1 => exact fun z => z
  | ok s h1 =>
    intro q ω1 H1 N1 S1 J ij D hD
    have q : PostG K cl W ω H σ (compLoop s.gs g tt me (dropE vs0 env) s.items [] h1) _ := q
    have fH : H D = none := N1.dom D hD
    let Z : Out (List T) → Prop := fun o => PostG K cl W ω H σ o fun ts _ ω' H' => ∀ l vs, Reps K ω' ts vs → H' l = some (.lst vs) → ω'.Phi l = none → l ∉ ω'.rho → H l = none → Q (.ref l) H'
    have hZ : ¬ Z .bad := fun z => z
    -- the state at each turn
    let St' : Nat → Hp → Prop := fun i H' => ∃ ω' h' acc vs, Nx ω H ω' H' ∧ Nx ω1 H1 ω' H' ∧ StOk K cl ω' h' H' ∧ H' D = some (.lst vs) ∧ Reps K ω' acc vs ∧ ω'.Phi D = none ∧ D ∉ ω'.rho ∧
      Z (compLoop s.gs g tt me (dropE vs0 env) (s.items.drop i) acc h')
    refine ⟨fun i m H' => m = s.items.length - i ∧ i ≤ s.items.length ∧ St' i H', ⟨_, rfl, Nat.zero_le _, ω1, h1, [], [], N1.scratch fH, (Nx.refl ω1 H1).scratch hD, S1.scratch (S1.freshF hD) (S1.freshR hD), upd_same, Reps.nil, S1.freshF hD, S1.freshR hD, ?_⟩, ?_⟩
    · rw [List.drop_zero]
      exact q
    · rintro i m H' ⟨rfl, hle, ω', h', acc, vs, NH, N1', S', eD, rA, f1, f2, q2⟩
      by_cases hlt : i < s.items.length
      · have hdrop : s.items.drop i = s.items[i] :: s.items.drop (i + 1) := List.drop_eq_getElem_cons hlt
        rw [hdrop] at q2
        unfold compLoop at q2
        split at q2
        · rename_i go
          refine .inr ⟨ij.goes i ω' h' H' N1'.toGr S' go hlt, St' (i + 1), fun H'' p => ⟨_, by omega, rfl, hlt, p⟩, fun x H2 hy => ?_⟩
          obtain ⟨ω2, t, N2, S2, et, rt⟩ := ij.yields i ω' h' H' x H2 N1'.toGr S' go hlt hy
          have et' : t = s.items[i] := by
            rw [List.getElem?_eq_getElem hlt] at et
            exact (Option.some.inj et).symm
          subst et'
          obtain ⟨eD2, f12, f22⟩ := N2.keepD eD f1 f2 (fun u z => S2.phi D u z) (fun fs z => by cases z)
          have henv2 : EnvOk K ω2 (dropE vs0 env) (wipe σ vs0) := envOk_wipe (henv.mono (NH.trans N2).toGr) _
          split at q2
          · rename_i env1 eb
            refine gT_ok S2 rt henv2 eb fun σ2 he2 hw => ⟨?_, ?_⟩
            · have := hw vs0 hsub
              rw [this]
              have : ∀ vs : List Nat, ∀ us : List Nat, (∀ i ∈ vs, i ∈ us) → wipe (wipe σ vs) us = wipe σ us := by
                intro vs
                induction vs with
                | nil => intro us _; rfl
                | cons v vs ih =>
                  intro us hu
                  show wipe ((wipe σ vs).set v none) us = wipe σ us
                  rw [wipe_set (hu v (List.mem_cons_self ..)), ih us fun j hj => hu j (List.mem_cons_of_mem _ hj)]
              exact this _ _ fun _ hi => hi
            · refine ⟨env1, h', ω2, he2, S2, (PostG.bindZ hZ q2).mono fun b h3 ω3 H3 N3 S3 q4 => ?_⟩
              obtain ⟨eD3, f13, f23⟩ := N3.keepD eD2 f12 f22 (fun u z => S3.phi D u z) (fun fs z => by cases z)
              cases b with
              | false =>
                rw [if_neg Bool.false_ne_true] at q4 ⊢
                exact ⟨ω3, h3, acc, vs, (NH.trans N2).trans N3, (N1'.trans N2).trans N3, S3, eD3, (rA.mono N2.toGr).mono N3.toGr, f13, f23, q4⟩
              | true =>
                rw [if_pos rfl] at q4 ⊢
                refine ⟨env1, h3, ω3, he2.mono N3.toGr, S3, (PostG.bindZ hZ q4).mono fun y h4 ω4 H4 N4 S4 q5 v rv => ?_⟩
                obtain ⟨eD4, f14, f24⟩ := N4.keepD eD3 f13 f23 (fun u z => S4.phi D u z) (fun fs z => by cases z)
                split at q5
                · rename_i hlen
                  have rA4 : Reps K ω4 acc vs := ((rA.mono N2.toGr).mono N3.toGr).mono N4.toGr
                  exact ⟨vs, eD4, by rw [← rA.length, sizeLine_eq]; omega, ω4, h4, acc ++ [y], vs ++ [v], (((NH.trans N2).trans N3).trans N4).scratch fH, (((N1'.trans N2).trans N3).trans N4).scratch hD, S4.scratch f14 f24, upd_same, rA4.append (Reps.one rv), f14, f24, q5⟩
                · exact (hZ q5).elim
          · exact (hZ q2).elim
        · exact (hZ q2).elim
      · have e : i = s.items.length := by omega
        subst e
        rw [List.drop_length] at q2
        unfold compLoop at q2
        split at q2
        · rename_i go
          refine .inl ⟨ij.stops ω' h' H' N1'.toGr S' go, ?_⟩
          exact q2 ω' H' NH S' D vs rA eD f1 f2 fH
        · exact (hZ q2).elim
theorem kn_comp (hc : X.calm = true) (hN : X.N.Nodup) (hi : PI X tg iter (tI X.K cl W ms)) (ok : BlkOk X.N X.env.scope scope own) (hsub : ∀ i ∈ g.slots, i ∈ own.map (·.2))
    (hg : ∀ (s : Shared) (H : Hp) (C : Addr) (cl' : List (Str × Addr)) (fp : List Addr), PG (X.blk s H scope (compEnvC scope cl' C X.env) fp) tg (gT X.K g))
    (ht : ∀ (s : Shared) (H : Hp) (C : Addr) (cl' : List (Str × Addr)) (fp : List Addr), PTs (X.blk s H scope (compEnvC scope cl' C X.env) fp) ifs (tT X.K cl W0 tt))
    (he : ∀ (s : Shared) (H : Hp) (C : Addr) (cl' : List (Str × Addr)) (fp : List Addr), PE (X.blk s H scope (compEnvC scope cl' C X.env) fp) elt (tE X.K cl W0 me))
    (hs : ∀ x, foldedSetIterable iter X.env x = pure x := by intro _; rfl) : PE X (.ListComp elt [⟨tg, iter, ifs, 0⟩] scope pos) (tN X.K cl W (mComp ms (own.map (·.2)) g tt me)) :=
  (pe_lc hc hN hi ok hg ht he hs).weak fun σ H Q h => lc_step hsub h
end
end Sm
namespace Sm
open PySem PySem.Spec PyProof.Rows L2
inductive SO where
  | nx (env : Env') (h : Store) | rt (t : T) (h : Store) | bk (env : Env') (h : Store) | ct (env : Env') (h : Store) | ex (e : Ex) (env : Env') (h : Store) | bad
abbrev MS := Env' → Store → SO
def SO.seq : SO → MS → SO
  | .nx env h, k => k env h
  | o, _ => o
@[simp] theorem seq_nx (env : Env') (h : Store) (k : MS) : (SO.nx env h).seq k = k env h := rfl
@[simp] theorem seq_rt (t : T) (h : Store) (k : MS) : (SO.rt t h).seq k = .rt t h := rfl
@[simp] theorem seq_bk (env : Env') (h : Store) (k : MS) : (SO.bk env h).seq k = .bk env h := rfl
@[simp] theorem seq_ct (env : Env') (h : Store) (k : MS) : (SO.ct env h).seq k = .ct env h := rfl
@[simp] theorem seq_ex (e : Ex) (env : Env') (h : Store) (k : MS) : (SO.ex e env h).seq k = .ex e env h := rfl
@[simp] theorem seq_bad (k : MS) : SO.bad.seq k = .bad := rfl
def bindE {α : Type} : Out α → Env' → (α → Store → SO) → SO
  | .ok a h, _, k => k a h
  | .ex e h, env, _ => .ex e env h
  | .bad, _, _ => .bad
@[simp] theorem bindE_ok {α : Type} (a : α) (h : Store) (env : Env') (k : α → Store → SO) : bindE (.ok a h) env k = k a h := rfl
@[simp] theorem bindE_ex {α : Type} (e : Ex) (h : Store) (env : Env') (k : α → Store → SO) : bindE (.ex e h : Out α) env k = .ex e env h := rfl
@[simp] theorem bindE_bad {α : Type} (env : Env') (k : α → Store → SO) : bindE (.bad : Out α) env k = .bad := rfl
def PostS (K : PySem.W.Frag) (cl : Nat → Addr) (W : WX) (ω : Wd) (H : Hp) (o : SO) (D : Ends) : Prop :=
  match o with
  | .nx env' h' => ∀ ω' H' σ', Nx ω H ω' H' → StOk K cl ω' h' H' → EnvOk K ω' env' σ' → D.nx σ' H'
  | .bk env' h' => ∀ ω' H' σ', Nx ω H ω' H' → StOk K cl ω' h' H' → EnvOk K ω' env' σ' → D.bk σ' H'
  | .ct env' h' => ∀ ω' H' σ', Nx ω H ω' H' → StOk K cl ω' h' H' → EnvOk K ω' env' σ' → D.ct σ' H'
  | .rt t h' => ∀ ω' H' v, Nx ω H ω' H' → StOk K cl ω' h' H' → Rep K ω' t v → D.rt v H'
  | .ex e env' h' => ∀ ω' H' σ' cls d, Nx ω H ω' H' → StOk K cl ω' h' H' → EnvOk K ω' env' σ' → XOk K cl ω' H' e cls d → W cls d σ' H'
  | .bad => False
def tS (K : PySem.W.Frag) (cl : Nat → Addr) (W : WX) (m : MS) : TS := fun D σ H => ∃ env h ω, EnvOk K ω env σ ∧ StOk K cl ω h H ∧ PostS K cl W ω H (m env h) D
section
variable {K : PySem.W.Frag} {cl : Nat → Addr} {W : WX} {ω ω2 : Wd} {H H2 : Hp} {D : Ends}
theorem PostS.later {o : SO} (N : Nx ω H ω2 H2) (q : PostS K cl W ω H o D) : PostS K cl W ω2 H2 o D := by
  cases o with
  | nx env h => exact fun ω3 H3 σ3 N3 S3 e => q ω3 H3 σ3 (N.trans N3) S3 e
  | bk env h => exact fun ω3 H3 σ3 N3 S3 e => q ω3 H3 σ3 (N.trans N3) S3 e
  | ct env h => exact fun ω3 H3 σ3 N3 S3 e => q ω3 H3 σ3 (N.trans N3) S3 e
  | rt t h => exact fun ω3 H3 σ3 N3 S3 e => q ω3 H3 σ3 (N.trans N3) S3 e
  | ex e env h => exact fun ω3 H3 σ3 cls d N3 S3 e x => q ω3 H3 σ3 cls d (N.trans N3) S3 e x
  | bad => exact q
theorem PostS.bindE {α : Type} {o : Out α} {env : Env'} {σ : L2.St} {k : α → Store → SO} (he : EnvOk K ω env σ) (q : PostS K cl W ω H (Sm.bindE o env k) D) : PostG K cl W ω H σ o fun a h1 ω1 H1 => PostS K cl W ω1 H1 (k a h1) D := by
  cases o with
  | ok a h => exact fun ω1 H1 N1 S1 => PostS.later N1 q
  | ex e h => exact fun ω1 H1 cls d N1 S1 x => q ω1 H1 σ cls d N1 S1 (he.mono N1.toGr) x
  | bad => exact q
theorem PostS.seq {o : SO} {k : MS} (q : PostS K cl W ω H (o.seq k) D) : PostS K cl W ω H o { D with nx := fun σ' H' => tS K cl W k D σ' H' } := by
  cases o with
  | nx env h => exact fun ω1 H1 σ1 N1 S1 e => ⟨env, h, ω1, e, S1, PostS.later N1 q⟩
  | bk env h => exact q
  | ct env h => exact q
  | rt t h => exact q
  | ex e env h => exact q
  | bad => exact q
end
def sNil : MS := fun env h => .nx env h
def sSeq (a b : MS) : MS := fun env h => (a env h).seq b
def sRet (m : M T) : MS := fun env h => bindE (m env h) env fun t h1 => .rt t h1
def sRetN : MS := fun _ h => .rt .non h
def sExp (m : M T) : MS := fun env h => bindE (m env h) env fun _ h1 => .nx env h1
def sIf (c : M Bool) (a b : MS) : MS := fun env h => bindE (c env h) env fun k h1 => if k = true then a env h1 else b env h1
def sSet (i : Nat) (m : M T) : MS := fun env h => bindE (m env h) env fun t h1 => .nx (env.set i (some t)) h1
def sAsg (g : Tgt) (m : M T) : MS := fun env h => bindE (m env h) env fun t h1 => match bindT g t env with
  | some env1 => .nx env1 h1
  | none => .bad
def sPar (i j : Nat) (m n : M T) : MS := fun env h => bindE (m env h) env fun t h1 => bindE (n env h1) env fun u h2 => .nx ((env.set i (some t)).set j (some u)) h2
def sBreak : MS := fun env h => .bk env h
def sCont : MS := fun env h => .ct env h
section
variable {X : Cx} {cl : Nat → Addr} {W : WX} {e : Expr} {m n : M T} {pos : Pos} {a b : MS} {st : Stmt} {rest : List Stmt}
theorem ks_nil : PSs X [] (tS X.K cl W sNil) := pss_nil.weak fun D σ H ⟨env, h, ω, he, hs, q⟩ => q ω H σ (Nx.refl _ _) hs he
theorem ks_cons (h1 : PS X st (tS X.K cl W a)) (h2 : PSs X rest (tS X.K cl W b)) : PSs X (st :: rest) (tS X.K cl W (sSeq a b)) :=
  (pss_cons h1 h2).weak fun D σ H ⟨env, h, ω, he, hs, q⟩ => ⟨env, h, ω, he, hs, PostS.seq q⟩
theorem ks_one (h1 : PS X st (tS X.K cl W a)) : PSs X [st] (tS X.K cl W a) := pss_one h1
theorem ks_ret (h : PE X e (tE X.K cl W m)) : PS X (.Return (some e) pos) (tS X.K cl W (sRet m)) :=
  (ps_ret h).weak fun D σ H ⟨env, h, ω, he, hs, q⟩ => ⟨env, h, ω, he, hs, (PostS.bindE he q).mono fun t h1 ω1 H1 N1 S1 q1 v r => q1 ω1 H1 v (Nx.refl _ _) S1 r⟩
theorem ks_expr (h : PE X e (tE X.K cl W m)) (hs : swapsWith e none pos.line X.env = pure false := by rfl) : PS X (.Expr e pos) (tS X.K cl W (sExp m)) :=
  (ps_expr h hs).weak fun D σ H ⟨env, h, ω, he, hs, q⟩ => ⟨env, h, ω, he, hs, (PostS.bindE he q).mono fun t h1 ω1 H1 N1 S1 q1 v r => q1 ω1 H1 σ (Nx.refl _ _) S1 (he.mono N1.toGr)⟩
theorem ks_if {c : Expr} {mc : M Bool} {as bs : List Stmt} (hc : PT X c (tT X.K cl W mc)) (ha : PSs X as (tS X.K cl W a)) (hb : PSs X bs (tS X.K cl W b)) : PS X (.If c as bs pos) (tS X.K cl W (sIf mc a b)) := by
  refine (ps_if hc ha hb).weak fun D σ H ⟨env, h, ω, he, hs, q⟩ => ⟨env, h, ω, he, hs, (PostS.bindE he q).mono fun k h1 ω1 H1 N1 S1 q1 => ?_⟩
  cases k with
  | true => rw [if_pos rfl] at q1 ⊢; exact ⟨env, h1, ω1, he.mono N1.toGr, S1, q1⟩
  | false => rw [if_neg Bool.false_ne_true] at q1 ⊢; exact ⟨env, h1, ω1, he.mono N1.toGr, S1, q1⟩
theorem set_step {K : PySem.W.Frag} {i : Nat} {D : Ends} {σ : L2.St} {H : Hp} (h : tS K cl W (sSet i m) D σ H) : tAsg (tE K cl W m) (gName i) D σ H := by
  obtain ⟨env, h, ω, he, hs, q⟩ := h
  exact ⟨env, h, ω, he, hs, (PostS.bindE he q).mono fun t h1 ω1 H1 N1 S1 q1 v r => q1 ω1 H1 _ (Nx.refl _ _) S1 ((he.mono N1.toGr).set i r)⟩
theorem ks_set {i : Nat} {x : Str} {pos' : Pos} (hN : X.N.Nodup) (hi : X.N[i]? = some x) (hx : Loc X.env.scope x) (he : PE X e (tE X.K cl W m)) (hs : swapsWith e (some (.Name x pos')) pos.line X.env = pure false := by rfl) (hf : X.fn x = true ∨ X.env.scope.names.lookup x = some .local := by first | exact .inl rfl | exact .inr rfl | assumption) :
    PS X (.Assign [.Name x pos'] e pos) (tS X.K cl W (sSet i m)) := (ps_set hN hi hx he hs hf).weak fun D σ H h => set_step h
theorem frz_of_new {K : PySem.W.Frag} {r : M (List T)} {σ : L2.St} {H : Hp} {Q : VK} (hh : tE K cl W (mFrz r) σ H Q) : tN K cl W r σ H Q := by
  obtain ⟨env, h, ω, he, hs, q⟩ := hh
  refine ⟨env, h, ω, he, hs, ?_⟩
  unfold mFrz at q
  revert q
  cases r env h with
  | bad => exact fun z => z
  | ex x h1 => exact fun z => z
  | ok ts h1 =>
    intro q ω1 H1 N1 S1 l vs rvs e1 n1 n2 f1
    refine q _ H1 (N1.fixIt (o := .lst vs) n1 f1) (S1.fixIt e1 n1 n2) _ ?_
    simp only [Rep]
    exact ⟨l, vs, rfl, upd_same, rvs.mono (gr_fix n1)⟩
section
variable {elt tg iter : Expr} {ifs : List Expr} {scope : Scope} {own : List (Str × Nat)} {ms : M Src} {g : Tgt} {tt : M Bool} {me : M T} {i : Nat} {y : Str} {py spos : Pos}
theorem ks_setLc (hc : X.calm = true) (hN : X.N.Nodup) (hy : X.N[i]? = some y) (hyl : X.env.scope.names.lookup y = some .local)
    (hsw : swapsWith (.ListComp elt [⟨tg, iter, ifs, 0⟩] scope pos) (some (.Name y py)) spos.line X.env = pure true) (hi : PI X tg iter (tI X.K cl W ms)) (ok : BlkOk X.N X.env.scope scope own) (hsub : ∀ i ∈ g.slots, i ∈ own.map (·.2))
    (hg : ∀ (s : Shared) (H : Hp) (C : Addr) (cl' : List (Str × Addr)) (fp : List Addr), PG (X.blk s H scope (compEnvC scope cl' C X.env) fp) tg (gT X.K g))
    (ht : ∀ (s : Shared) (H : Hp) (C : Addr) (cl' : List (Str × Addr)) (fp : List Addr), PTs (X.blk s H scope (compEnvC scope cl' C X.env) fp) ifs (tT X.K cl W0 tt))
    (he : ∀ (s : Shared) (H : Hp) (C : Addr) (cl' : List (Str × Addr)) (fp : List Addr), PE (X.blk s H scope (compEnvC scope cl' C X.env) fp) elt (tE X.K cl W0 me))
    (hs : ∀ x, foldedSetIterable iter X.env x = pure x := by intro _; rfl) :
    PS X (.Assign [.Name y py] (.ListComp elt [⟨tg, iter, ifs, 0⟩] scope pos) spos) (tS X.K cl W (sSet i (mFrz (mComp ms (own.map (·.2)) g tt me)))) :=
  (ps_setLc hc hN hy hyl hsw hi ok hg ht he hs).weak fun D σ H h => lc_step hsub (frz_of_new (set_step h))
end
theorem ks_asg {tg : Expr} {g : Tgt} (hg : PG X tg (gT X.K g)) (he : PE X e (tE X.K cl W m)) (hs : swapsWithSole [tg] e pos.line X.env = pure false := by rfl) (hw : swappedStores [tg] e X.env = pure none := by rfl)
    (h1 : (assignEach [tg] X.env).map (·.2) = [assign tg X.env] := by rfl) : PS X (.Assign [tg] e pos) (tS X.K cl W (sAsg g m)) := by
  refine (ps_asg he hg hs hw h1).weak fun D σ H ⟨env, h, ω, he, hs, q⟩ => ⟨env, h, ω, he, hs, (PostS.bindE he q).mono fun t h1 ω1 H1 N1 S1 q1 v r => ?_⟩
  split at q1
  · rename_i env1 eb
    exact gT_ok S1 r (he.mono N1.toGr) eb fun σ' e' _ => q1 ω1 H1 σ' (Nx.refl _ _) S1 e'
  · exact q1.elim
end
section
variable {X : Cx} {pos : Pos}
theorem kg_one {i : Nat} {x : Str} (hN : X.N.Nodup) (hi : X.N[i]? = some x) (hx : Loc X.env.scope x) (hf : X.fn x = true ∨ X.env.scope.names.lookup x = some .local := by first | exact .inl rfl | exact .inr rfl | assumption) : PG X (.Name x pos) (gT X.K (.one i)) := pg_name hN hi hx hf
theorem kgs_nil : PGs X [] (gMany []) := pgs_nil
theorem kgs_cons {i : Nat} {x : Str} {p : Pos} {es : List Expr} {is : List Nat} (hN : X.N.Nodup) (hi : X.N[i]? = some x) (hx : Loc X.env.scope x) (h2 : PGs X es (gMany is)) (hf : X.fn x = true ∨ X.env.scope.names.lookup x = some .local := by first | exact .inl rfl | exact .inr rfl | assumption)
    (hs : (assignEach (.Name x p :: es) X.env).map (·.2) = assign (.Name x p) X.env :: (assignEach es X.env).map (·.2) := by rfl) : PGs X (.Name x p :: es) (gMany (i :: is)) := pgs_cons (pg_name hN hi hx hf) h2 hs
theorem kg_tup {es : List Expr} {k : Nat} {is : List Nat} (hc : X.calm = true) (h : PGs X es (gMany is)) (hn : (assignEach es X.env).length = is.length := by rfl) (hst : (assignEach es X.env).findIdx? (·.1) = none := by rfl) : PG X (.Tuple es k pos) (gT X.K (.tup is)) := pg_seq hc h hn hst
theorem kg_nest {i : Nat} {x : Str} {p p2 : Pos} {es : List Expr} {k k2 : Nat} {is : List Nat} (hc : X.calm = true) (hN : X.N.Nodup) (hi : X.N[i]? = some x) (hx : Loc X.env.scope x) (h : PGs X es (gMany is)) (hf : X.fn x = true ∨ X.env.scope.names.lookup x = some .local := by first | exact .inl rfl | exact .inr rfl | assumption)
    (hn : (assignEach es X.env).length = is.length := by rfl) (hst : (assignEach es X.env).findIdx? (·.1) = none := by rfl)
    (hs : (assignEach [.Name x p, .Tuple es k2 p2] X.env).map (·.2) = assign (.Name x p) X.env :: (assignEach [.Tuple es k2 p2] X.env).map (·.2) := by rfl) (hs2 : (assignEach [.Tuple es k2 p2] X.env).map (·.2) = assign (.Tuple es k2 p2) X.env :: (assignEach [] X.env).map (·.2) := by rfl)
    (hn2 : (assignEach [.Name x p, .Tuple es k2 p2] X.env).length = 2 := by rfl) (hst2 : (assignEach [.Name x p, .Tuple es k2 p2] X.env).findIdx? (·.1) = none := by rfl) :
    PG X (.Tuple [.Name x p, .Tuple es k2 p2] k pos) (gT X.K (.nest i is)) := pg_tup hc (pgs_cons (pg_name hN hi hx hf) (pgs_cons (pg_tup hc h hn hst) pgs_nil hs2) hs) hn2 hst2
end
theorem envOk_drop {K : PySem.W.Frag} {ω : Wd} {env : Env'} {σ : L2.St} (e : EnvOk K ω env σ) : ∀ vs : List Nat, EnvOk K ω (dropE vs env) σ
  | [] => e
  | v :: vs => (envOk_drop e vs).drop v
noncomputable def forLoop (gs : List (Nat × List T)) (tg : Tgt) (kill : List Nat) (body : MS) : List T → MS
  | [], env, h => if gsOk h gs then .nx env h else .bad
  | x :: r, env, h => if gsOk h gs then
      match bindT tg x env with
      | some env1 => match body env1 h with
        | .nx env2 h2 => forLoop gs tg kill body r (dropE kill env2) h2
        | .ct env2 h2 => forLoop gs tg kill body r (dropE kill env2) h2
        | .bk env2 h2 => .nx env2 h2
        | o => o
      | none => .bad
    else .bad
noncomputable def sFor (src : M Src) (tg : Tgt) (kill : List Nat) (body : MS) : MS := fun env h => bindE (src env h) env fun s h1 => forLoop s.gs tg kill body s.items (dropE kill env) h1
section
variable {X : Cx} {cl : Nat → Addr} {W : WX} {tg iter : Expr} {g : Tgt} {kill : List Nat} {body : MS} {bd : List Stmt} {ms : M Src} {pos : Pos}
theorem ks_for (hp : PassesOwn (model X.prog X.w) X.A X.env X.xe) (hc : X.calm = true) (hi : PI X tg iter (tI X.K cl W ms)) (hg : PG X tg (gT X.K g)) (hb : PSs X bd (tS X.K cl W body))
    (hs : ∀ x, foldedSetIterable iter X.env x = pure x := by intro _; rfl) : PS X (.For tg iter bd [] pos) (tS X.K cl W (sFor ms g kill body)) := by
  refine (ps_for hp hc hi hg hb hs).weak fun D σ H ⟨env, h, ω, he, hst, q⟩ => ⟨env, h, ω, he, hst, (PostS.bindE he q).mono fun s h1 ω1 H1 N1 S1 q1 J ij => ?_⟩
  let St' : Nat → L2.St → Hp → Prop := fun i σ' H' => ∃ env' h' ω', Nx ω1 H1 ω' H' ∧ EnvOk X.K ω' env' σ' ∧ StOk X.K cl ω' h' H' ∧ PostS X.K cl W ω' H' (forLoop s.gs g kill body (s.items.drop i) env' h') D
  refine ⟨fun i m σ' H' => m = s.items.length - i ∧ i ≤ s.items.length ∧ St' i σ' H', ⟨_, rfl, Nat.zero_le _, dropE kill env, h1, ω1, Nx.refl _ _, envOk_drop (he.mono N1.toGr) _, S1, by rw [List.drop_zero]; exact q1⟩, ?_⟩
  rintro i m σ' H' ⟨rfl, hle, env', h', ω', N', e', S', q'⟩
  by_cases hlt : i < s.items.length
  · have hdrop : s.items.drop i = s.items[i] :: s.items.drop (i + 1) := List.drop_eq_getElem_cons hlt
    rw [hdrop] at q'
    unfold forLoop at q'
    split at q'
    · rename_i go
      refine .inr ⟨ij.goes i ω' h' H' N'.toGr S' go hlt, St' (i + 1), fun σ'' H'' p => ⟨_, by omega, rfl, hlt, p⟩, fun x H2 hy => ?_⟩
      obtain ⟨ω2, t, N2, S2, et, rt⟩ := ij.yields i ω' h' H' x H2 N'.toGr S' go hlt hy
      have et' : t = s.items[i] := by
        rw [List.getElem?_eq_getElem hlt] at et
        exact (Option.some.inj et).symm
      subst et'
      split at q'
      · rename_i env1 eb
        refine gT_ok S2 rt (e'.mono N2.toGr) eb fun σ2 he2 _ => ⟨env1, h', ω2, he2, S2, ?_⟩
        have q2 := PostS.later N2 q'
        revert q2
        cases body env1 h' with
        | nx env2 h2 => exact fun q2 ω3 H3 σ3 N3 S3 e3 => ⟨_, h2, ω3, (N'.trans N2).trans N3, envOk_drop e3 _, S3, PostS.later N3 q2⟩
        | ct env2 h2 => exact fun q2 ω3 H3 σ3 N3 S3 e3 => ⟨_, h2, ω3, (N'.trans N2).trans N3, envOk_drop e3 _, S3, PostS.later N3 q2⟩
        | bk env2 h2 => exact fun q2 => q2
        | rt t h2 => exact fun q2 => q2
        | ex e env2 h2 => exact fun q2 => q2
        | bad => exact fun q2 => q2
      · exact q'.elim
    · exact q'.elim
  · have e : i = s.items.length := by omega
    subst e
    rw [List.drop_length] at q'
    unfold forLoop at q'
    split at q'
    · rename_i go
      exact .inl ⟨ij.stops ω' h' H' N'.toGr S' go, q' ω' H' σ' (Nx.refl _ _) S' e'⟩
    · exact q'.elim
end
inductive WS where
  | out (o : SO) | go (env : Env') (h : Store)
def wStep (c : M Bool) (kill : List Nat) (body : MS) (env : Env') (h : Store) : WS :=
  match c env h with
  | .ok false h1 => .out (.nx env h1)
  | .ok true h1 => match body env h1 with
    | .nx env2 h2 => .go (dropE kill env2) h2
    | .ct env2 h2 => .go (dropE kill env2) h2
    | .bk env2 h2 => .out (.nx env2 h2)
    | o => .out o
  | .ex e h1 => .out (.ex e env h1)
  | .bad => .out .bad
def whileN (c : M Bool) (kill : List Nat) (body : MS) : Nat → Env' → Store → Option SO
  | 0, _, _ => none
  | n + 1, env, h => match wStep c kill body env h with
    | .out o => some o
    | .go env2 h2 => whileN c kill body n env2 h2
open Classical in
noncomputable def whileL (c : M Bool) (kill : List Nat) (body : MS) : MS := fun env h => if hx : ∃ n o, whileN c kill body n env h = some o then hx.choose_spec.choose else .bad
section
variable {c : M Bool} {kill : List Nat} {body : MS}
theorem whileN_mono : ∀ {n k : Nat} {env : Env'} {h : Store} {o : SO}, whileN c kill body n env h = some o → whileN c kill body (n + k) env h = some o
  | 0, _, _, _, _, e => by cases e
  | n + 1, k, env, h, o, e => by
    rw [show n + 1 + k = (n + k) + 1 by omega]
    unfold whileN at e ⊢
    split at e
    · exact e
    · exact whileN_mono e
theorem whileN_inj {n k : Nat} {env : Env'} {h : Store} {o u : SO} (e1 : whileN c kill body n env h = some o) (e2 : whileN c kill body k env h = some u) : o = u := by
  have a := whileN_mono (k := k) e1
  have b := whileN_mono (k := n) e2
  rw [Nat.add_comm] at b
  rw [a] at b
  exact Option.some.inj b
theorem whileL_of {n : Nat} {env : Env'} {h : Store} {o : SO} (e : whileN c kill body n env h = some o) : whileL c kill body env h = o := by
  unfold whileL
  have hx : ∃ n o, whileN c kill body n env h = some o := ⟨n, o, e⟩
  rw [dif_pos hx]
  exact whileN_inj hx.choose_spec.choose_spec e
theorem whileL_eq (env : Env') (h : Store) : whileL c kill body env h = match wStep c kill body env h with
    | .out o => o
    | .go env2 h2 => whileL c kill body env2 h2 := by
  cases e : wStep c kill body env h with
  | out o =>
    refine whileL_of (n := 1) ?_
    unfold whileN
    rw [e]
  | go env2 h2 =>
    show whileL c kill body env h = whileL c kill body env2 h2
    by_cases hx : ∃ n o, whileN c kill body n env2 h2 = some o
    · obtain ⟨n, o, q⟩ := hx
      rw [whileL_of q]
      refine whileL_of (n := n + 1) ?_
      unfold whileN
      rw [e]
      exact q
    · have hy : ¬ ∃ n o, whileN c kill body n env h = some o := fun ⟨n, o, q⟩ => by
        cases n with
        | zero => cases q
        | succ n =>
          unfold whileN at q
          rw [e] at q
          exact hx ⟨n, o, q⟩
      unfold whileL
      rw [dif_neg hx, dif_neg hy]
end
noncomputable def sWhile (c : M Bool) (kill : List Nat) (body : MS) : MS := fun env h => whileL c kill body (dropE kill env) h
section
variable {X : Cx} {cl : Nat → Addr} {W : WX} {c : Expr} {mc : M Bool} {kill : List Nat} {body : MS} {bd : List Stmt} {pos : Pos}
theorem ks_while (hp : PassesOwn (model X.prog X.w) X.A X.env X.xe) (hc : PT X c (tT X.K cl W mc)) (hb : PSs X bd (tS X.K cl W body)) : PS X (.While c bd [] pos) (tS X.K cl W (sWhile mc kill body)) := by
  refine (ps_while hp hc hb).weak fun D σ H ⟨env, h, ω, he, hst, q⟩ => ?_
  have q : PostS X.K cl W ω H (whileL mc kill body (dropE kill env) h) D := q
  have hx : ∃ n o, whileN mc kill body n (dropE kill env) h = some o := Classical.byContradiction fun z => by
    unfold whileL at q
    rw [dif_neg z] at q
    exact q
  obtain ⟨n, o, eo⟩ := hx
  rw [whileL_of eo] at q
  refine ⟨fun m σ' H' => ∃ env' h' ω', EnvOk X.K ω' env' σ' ∧ StOk X.K cl ω' h' H' ∧ ∃ o, whileN mc kill body m env' h' = some o ∧ PostS X.K cl W ω' H' o D, ⟨n, _, h, ω, envOk_drop he _, hst, o, eo, q⟩, ?_⟩
  rintro m σ' H' ⟨env', h', ω', e', S', o', eo', q'⟩
  cases m with
  | zero => cases eo'
  | succ m =>
    refine ⟨env', h', ω', e', S', ?_⟩
    unfold whileN wStep at eo'
    revert eo'
    cases mc env' h' with
    | bad =>
      intro eo'
      cases eo'
      exact q'
    | ex e h1 =>
      intro eo'
      cases eo'
      exact fun ω1 H1 cls d N1 S1 x => q' ω1 H1 σ' cls d N1 S1 (e'.mono N1.toGr) x
    | ok k h1 =>
      intro eo' ω1 H1 N1 S1
      cases k with
      | false =>
        cases eo'
        rw [if_neg Bool.false_ne_true]
        exact q' ω1 H1 σ' N1 S1 (e'.mono N1.toGr)
      | true =>
        rw [if_pos rfl]
        refine ⟨fun σ2 H2 => ∃ env' h' ω', EnvOk X.K ω' env' σ2 ∧ StOk X.K cl ω' h' H2 ∧ ∃ o, whileN mc kill body m env' h' = some o ∧ PostS X.K cl W ω' H2 o D, fun σ2 H2 z => ⟨m, Nat.lt_succ_self _, z⟩, env', h1, ω1, e'.mono N1.toGr, S1, ?_⟩
        have q2 := PostS.later N1 q'
        dsimp only at eo'
        revert eo'
        cases body env' h1 with
        | nx env2 h2 => exact fun eo' ω3 H3 σ3 N3 S3 e3 => ⟨_, h2, ω3, envOk_drop e3 _, S3, o', eo', PostS.later N3 q2⟩
        | ct env2 h2 => exact fun eo' ω3 H3 σ3 N3 S3 e3 => ⟨_, h2, ω3, envOk_drop e3 _, S3, o', eo', PostS.later N3 q2⟩
        | bk env2 h2 => intro eo'; cases eo'; exact q2
        | rt t h2 => intro eo'; cases eo'; exact q2
        | ex e env2 h2 => intro eo'; cases eo'; exact q2
        | bad => intro eo'; cases eo'; exact q2
end
end Sm
namespace Sm
open PySem PySem.Spec PyProof.Rows L2
theorem pus_append : ∀ {xs ys : List T}, pus (xs ++ ys) = (pus xs && pus ys)
  | [], ys => by simp [pus]
  | x :: xs, ys => by
    show (x.pu && pus (xs ++ ys)) = ((x.pu && pus xs) && pus ys)
    rw [pus_append, Bool.and_assoc]
theorem pus_all : ∀ {xs : List T}, pus xs = xs.all T.pu
  | [] => rfl
  | x :: xs => by unfold pus; rw [pus_all]; rfl
theorem pus_set {xs : List T} {i : Nat} {t : T} (h : pus xs = true) (ht : t.pu = true) : pus (xs.set i t) = true := by
  rw [pus_all, List.all_eq_true] at h ⊢
  intro x hx
  rcases List.mem_or_eq_of_mem_set hx with z | z
  · exact h x z
  · rw [z]; exact ht
theorem pus_sub {xs ys : List T} (h : pus xs = true) (hs : ∀ y ∈ ys, y ∈ xs) : pus ys = true := by
  rw [pus_all, List.all_eq_true] at h ⊢
  exact fun y hy => h y (hs y hy)
theorem Reps.eraseIdx {K : PySem.W.Frag} {ω : Wd} : ∀ (n : Nat) {ts : List T} {vs : List V}, Reps K ω ts vs → Reps K ω (ts.eraseIdx n) (vs.eraseIdx n)
  | n, [], _, r => by rw [r.nil_inv]; exact Reps.nil
  | 0, t :: ts, _, r => by
    obtain ⟨v, vr, rfl, a, b⟩ := r.inv
    exact b
  | n + 1, t :: ts, _, r => by
    obtain ⟨v, vr, rfl, a, b⟩ := r.inv
    exact Reps.cons a (Reps.eraseIdx n b)
theorem Reps.dropLast {K : PySem.W.Frag} {ω : Wd} {ts : List T} {vs : List V} (r : Reps K ω ts vs) : Reps K ω ts.dropLast vs.dropLast := by
  rw [List.dropLast_eq_take, List.dropLast_eq_take, r.length]
  exact r.take _
abbrev FM := T → List T → Store → Option (T × Store)
def rVM (K : PySem.W.Frag) (cl : Nat → Addr) (f : FM) : V → List V → Hp → VK → Prop := fun x xs H Q => ∃ a as h ω t h', StOk K cl ω h H ∧ Rep K ω a x ∧ Reps K ω as xs ∧ f a as h = some (t, h') ∧ ∀ ω' H' v, Nx ω H ω' H' → StOk K cl ω' h' H' → Rep K ω' t v → Q v H'
def outM (o : Option (T × Store)) : Out T := match o with
  | some (t, h) => .ok t h
  | none => .bad
def mMethL (f : FM) (m : M T) (r : M (List T)) : M T := fun env h => (m env h).bind fun a h1 => match lstOf h1 a with
  | some _ => (r env h1).bind fun as h2 => outM (f a as h2)
  | none => .bad
section
variable {X : Cx} {cl : Nat → Addr} {W : WX} {o e : Expr} {es : List Expr} {m : M T} {r : M (List T)} {f : FM} {name : Str} {apos cpos : Pos} {id : String}
theorem methL_step {K : PySem.W.Frag} {σ : L2.St} {H : Hp} {Q : VK} (h : tE K cl W (mMethL f m r) σ H Q) : tE K cl W m σ H fun x H1 => tyV K "list" x H1 ∧ tA K cl W r σ H1 fun xs H2 => rVM K cl f x xs H2 Q := by
  obtain ⟨env, h, ω, he, hs, q⟩ := h
  refine ⟨env, h, ω, he, hs, (PostG.bind q).mono fun a h1 ω1 H1 N1 S1 q1 v rv => ?_⟩
  split at q1
  · rename_i xs ea
    obtain ⟨p, vs, rfl, b1, c1⟩ := lstOf_ok S1 rv ea
    refine ⟨.inl ⟨rfl, vs, SqL.of b1⟩, env, h1, ω1, he.mono N1.toGr, S1, (PostG.bind q1).mono fun as h2 ω2 H2 N2 S2 q2 ws rws => ?_⟩
    cases ef : f a as h2 with
    | none => rw [ef] at q2; exact q2.elim
    | some th =>
      rw [ef] at q2
      exact ⟨a, as, h2, ω2, th.1, th.2, S2, rv.mono N2.toGr, rws, ef, fun ω' H' v N S r => q2 ω' H' N S v r⟩
  · exact q1.elim
theorem k_methL (slot : Slot "list" name id) (hty : typeOf (.builtin id) = pure (.type "method_descriptor")) (hm : MtR X id (rVM X.K cl f)) (ho : PE X o (tE X.K cl W m)) (ha : PA X (e :: es) (tA X.K cl W r))
    (hba : attributeBase o name X.env (eval o X.env) = eval o X.env := by rfl)
    (hfew : ((backTo cpos (starEach (e :: es) X.env)).all (fun x => !x.1) && (backToKw cpos (keywordEach [] X.env)).all (fun x => x.1.isSome) && decide ((e :: es).length + ([] : List Keyword).length + (if ([] : List Keyword).isEmpty then 0 else 1) < 30)) = true := by rfl)
    (hline : (apos.endLine == cpos.line) = true := by rfl) (hs : starEach (e :: es) X.env = (false, eval e X.env) :: starEach es X.env := by rfl) (hplain : (backTo cpos (starEach es X.env)).any (·.1) = false := by rfl) :
    PE X (.Call (.Attribute o name apos) (e :: es) [] cpos) (tE X.K cl W (mMethL f m r)) :=
  (pe_bm PySem.F.plainAttrs_list slot hty hm ho ha hba hfew hline hs hplain).weak fun _ _ _ h => methL_step h
theorem k_methL0 (slot : Slot "list" name id) (hty : typeOf (.builtin id) = pure (.type "method_descriptor")) (hm : MtR X id (rVM X.K cl f)) (ho : PE X o (tE X.K cl W m))
    (hba : attributeBase o name X.env (eval o X.env) = eval o X.env := by rfl) (hline : (apos.endLine == cpos.line) = true := by rfl) : PE X (.Call (.Attribute o name apos) [] [] cpos) (tE X.K cl W (mMethL f m mNil)) := by
  refine (pe_bm0 PySem.F.plainAttrs_list slot hty hm ho hba hline).weak fun σ H Q ⟨env, h, ω, he, hs, q⟩ => ?_
  refine ⟨env, h, ω, he, hs, (PostG.bind q).mono fun a h1 ω1 H1 N1 S1 q1 v rv => ?_⟩
  split at q1
  · rename_i xs ea
    obtain ⟨p, vs, rfl, b1, c1⟩ := lstOf_ok S1 rv ea
    refine ⟨.inl ⟨rfl, vs, SqL.of b1⟩, ?_⟩
    have q2 : PostG X.K cl W ω1 H1 σ (outM (f a [] h1)) _ := q1
    cases ef : f a [] h1 with
    | none => rw [ef] at q2; exact q2.elim
    | some th =>
      rw [ef] at q2
      exact ⟨a, [], h1, ω1, th.1, th.2, S1, rv, Reps.nil, ef, fun ω' H' v N S r => q2 ω' H' N S v r⟩
  · exact q1.elim
def cellL (h : Store) (n : Nat) : Option (List T) := match h[n]? with
  | some (.lst xs) => some xs
  | _ => none
theorem cellL_ok {K : PySem.W.Frag} {ω : Wd} {h : Store} {H : Hp} (S : StOk K cl ω h H) {n : Nat} {v : V} {xs : List T} (r : Rep K ω (.loc n) v) (e : cellL h n = some xs) : ∃ p vs, v = .ref p ∧ ω.rho[n]? = some p ∧ H p = some (.lst vs) ∧ Reps K ω xs vs ∧ pus xs = true := by
  unfold cellL at e
  split at e
  · rename_i ys hn
    cases e
    exact lst_at S r hn
  · cases e
def fMove (n : Nat) (xs : List T) (y : T) (h : Store) : Option (T × Store) := match y with
  | .loc m => match cellL h m with
    | some ys => if m ≠ n ∧ xs.length < 100000 then some (.non, (h.set m .dead).set n (.lst (xs ++ [.lst ys]))) else none
    | none => none
  | _ => none
def fAppend : FM := fun a as h => match a, as with
  | .loc n, [y] => match cellL h n with
    | some xs => if xs.length < 100000 ∧ y.pu = true then some (.non, h.set n (.lst (xs ++ [y]))) else fMove n xs y h
    | none => none
  | _, _ => none
def fInsert : FM := fun a as h => match a, as with
  | .loc n, [.int i, y] => match cellL h n with
    | some xs => if xs.length < 100000 ∧ y.pu = true ∧ 0 ≤ i ∧ i < 100000 then some (.non, h.set n (.lst (xs.take i.toNat ++ [y] ++ xs.drop i.toNat))) else none
    | none => none
  | _, _ => none
def fPop : FM := fun a as h => match a, as with
  | .loc n, [] => match cellL h n with
    | some xs => match xs[xs.length - 1]? with
      | some y => some (y, h.set n (.lst xs.dropLast))
      | none => none
    | none => none
  | .loc n, [.int i] => match cellL h n with
    | some xs => match ixN xs.length i with
      | some k => match xs[k]? with
        | some y => if i < 100000 ∧ -100000 < i then some (y, h.set n (.lst (xs.eraseIdx k))) else none
        | none => none
      | none => none
    | none => none
  | _, _ => none
def fIndex : FM := fun a as h => match as with
  | [y] => match lstOf h a with
    | some xs => if flatT y = true ∧ xs.all flatT = true then (xs.findIdx? fun z => eqT z y).map fun j => (.int (j : Nat), h) else none
    | none => none
  | _ => none
theorem line_lt {n : Nat} (h : n < 100000) : n < sizeLine := by rw [sizeLine_eq]; omega
theorem cellL_at {h : Store} {n : Nat} {xs : List T} (e : cellL h n = some xs) : h[n]? = some (.lst xs) := by
  unfold cellL at e
  split at e
  · rename_i ys hn
    cases e
    exact hn
  · cases e
theorem put_lst {K : PySem.W.Frag} {ω : Wd} {h : Store} {H : Hp} (S : StOk K cl ω h H) {n : Nat} {p : Addr} {ys zs : List T} {vs : List V} (e0 : h[n]? = some (.lst zs)) (e : ω.rho[n]? = some p) (hp : pus ys = true) (r : Reps K ω ys vs) : StOk K cl ω (h.set n (.lst ys)) (upd H p (.lst vs)) ∧ Nx ω H ω (upd H p (.lst vs)) :=
  ⟨S.put e0 (fun z => by cases z) e ⟨hp, vs, upd_same, r⟩, nx_put S e⟩
theorem m_append : MtR X "list.append" (rVM X.K cl fAppend) := by
  intro pins s σ H x xs v us Q I rx rxs ⟨a, as, h, ω, t, h', S, ra, ras, e, q⟩
  unfold fAppend at e
  split at e
  · rename_i n y
    split at e
    · rename_i ys ey
      obtain ⟨p, vs, rfl, e1, e2, e3, e4⟩ := cellL_ok S ra ey
      obtain ⟨w, wr, rfl, r1, r2⟩ := ras.inv
      rw [r2.nil_inv] at rxs
      by_cases c : ys.length < 100000 ∧ y.pu = true
      · rw [if_pos c] at e
        cases e
        obtain ⟨S', N'⟩ := put_lst S (cellL_at ey) e1 (by rw [pus_append, e4, Bool.true_and]; simpa [pus] using c.2) (e3.append (Reps.one r1))
        exact mt_append pins s σ H _ _ v us Q I rx rxs ⟨p, vs, w, rfl, rfl, e2, by rw [← e3.length]; exact line_lt c.1, q _ _ _ N' S' rep_non⟩
      · rw [if_neg c] at e
        unfold fMove at e
        split at e
        · rename_i m
          split at e
          · rename_i zs ez
            by_cases d : m ≠ n ∧ ys.length < 100000
            · rw [if_pos d] at e
              cases e
              obtain ⟨p2, vs2, rfl, b1, b2, b3, b4⟩ := cellL_ok S r1 ez
              have S1 := S.freeze (cellL_at ez) b1 b2
              have al := S.alive (cellL_at ez) (fun z => by cases z) b1
              have N1 := nx_freeze S (o := .lst vs2) al b1
              have g := N1.toGr
              have r5 : Rep X.K (ω.fix p2 (.lst vs2)) (.lst zs) (.ref p2) := by
                simp only [Rep]
                exact ⟨p2, vs2, rfl, upd_same, b3.mono g⟩
              have at0 : (h.set m .dead)[n]? = some (.lst ys) := by
                rw [List.getElem?_set_ne d.1]
                exact cellL_at ey
              obtain ⟨S', N'⟩ := put_lst S1 at0 (show (ω.fix p2 (.lst vs2)).rho[n]? = some p from e1) (by rw [pus_append, e4, Bool.true_and]; simpa [pus, T.pu] using b4) ((e3.mono g).append (Reps.one r5))
              exact mt_append pins s σ H _ _ v us Q I rx rxs ⟨p, vs, .ref p2, rfl, rfl, e2, by rw [← e3.length]; exact line_lt d.2, q _ _ _ (N1.trans N') S' rep_non⟩
            · rw [if_neg d] at e
              cases e
          · cases e
        · cases e
    · cases e
  · cases e
theorem m_insert : MtR X "list.insert" (rVM X.K cl fInsert) := by
  intro pins s σ H x xs v us Q I rx rxs ⟨a, as, h, ω, t, h', S, ra, ras, e, q⟩
  unfold fInsert at e
  split at e
  · rename_i n i y
    split at e
    · rename_i ys ey
      obtain ⟨c, e2⟩ := ne_ite e
      cases e2
      obtain ⟨p, vs, rfl, e1, e2, e3, e4⟩ := cellL_ok S ra ey
      obtain ⟨w, wr, rfl, r1, r2⟩ := ras.inv
      obtain ⟨w2, wr2, rfl, r3, r4⟩ := r2.inv
      rw [r4.nil_inv, r1.int_inv] at rxs
      have e5 := pus_sub (ys := ys.take i.toNat) e4 fun y hy => List.mem_of_mem_take hy
      have e6 := pus_sub (ys := ys.drop i.toNat) e4 fun y hy => List.mem_of_mem_drop hy
      obtain ⟨S', N'⟩ := put_lst S (cellL_at ey) e1 (by rw [pus_append, pus_append, e5, e6, Bool.true_and, Bool.and_true]; simpa [pus] using c.2.1) (((e3.take i.toNat).append (Reps.one r3)).append (e3.drop i.toNat))
      exact mt_insert pins s σ H _ _ v us Q I rx rxs ⟨p, vs, i, w2, rfl, rfl, e2, by rw [← e3.length]; exact line_lt c.1, c.2.2.1, by omega, q _ _ _ N' S' rep_non⟩
    · cases e
  · cases e
theorem m_pop : MtR X "list.pop" (rVM X.K cl fPop) := by
  intro pins s σ H x xs v us Q I rx rxs ⟨a, as, h, ω, t, h', S, ra, ras, e, q⟩
  unfold fPop at e
  split at e
  · rename_i n
    split at e
    · rename_i ys ey
      split at e
      · rename_i y ez
        cases e
        obtain ⟨p, vs, rfl, e1, e2, e3, e4⟩ := cellL_ok S ra ey
        rw [ras.nil_inv] at rxs
        obtain ⟨w, ew, rw'⟩ := e3.get ez
        rw [e3.length] at ew
        obtain ⟨S', N'⟩ := put_lst S (cellL_at ey) e1 (pus_sub (ys := ys.dropLast) e4 fun y hy => List.dropLast_subset _ hy) e3.dropLast
        exact mt_pop pins s σ H _ _ v us Q I rx rxs ⟨p, vs, w, rfl, rfl, e2, ew, q _ _ _ N' S' rw'⟩
      · cases e
    · cases e
  · rename_i n i
    split at e
    · rename_i ys ey
      split at e
      · rename_i k ek
        split at e
        · rename_i y ez
          obtain ⟨c, e2⟩ := ne_ite e
          cases e2
          obtain ⟨p, vs, rfl, e1, e2, e3, e4⟩ := cellL_ok S ra ey
          obtain ⟨w, wr, rfl, r1, r2⟩ := ras.inv
          rw [r2.nil_inv, r1.int_inv] at rxs
          obtain ⟨z, ew, rw'⟩ := e3.get ez
          rw [e3.length] at ek
          obtain ⟨S', N'⟩ := put_lst S (cellL_at ey) e1 (pus_sub (ys := ys.eraseIdx k) e4 fun y hy => List.eraseIdx_subset hy) (e3.eraseIdx k)
          exact mt_popAt pins s σ H _ _ v us Q I rx rxs ⟨p, vs, i, k, z, rfl, rfl, e2, by omega, by omega, (ixN_seq ek).1, ew, q _ _ _ N' S' rw'⟩
        · cases e
      · cases e
    · cases e
  · cases e
theorem m_index : MtR X "list.index" (rVM X.K cl fIndex) := by
  intro pins s σ H x xs v us Q I rx rxs ⟨a, as, h, ω, t, h', S, ra, ras, e, q⟩
  unfold fIndex at e
  split at e
  · rename_i y
    split at e
    · rename_i ys ey
      split at e
      · rename_i c
        rw [Option.map_eq_some_iff] at e
        obtain ⟨j, ej, e5⟩ := e
        cases e5
        obtain ⟨p, vs, rfl, b1, c1⟩ := lstOf_ok S ra ey
        obtain ⟨w, wr, rfl, r1, r2⟩ := ras.inv
        rw [r2.nil_inv] at rxs
        rw [List.findIdx?_eq_some_iff_getElem] at ej
        obtain ⟨hj, ez, hno⟩ := ej
        obtain ⟨z, ew, rw'⟩ := c1.get (List.getElem?_eq_getElem hj)
        have ff := c.2
        rw [List.all_eq_true] at ff
        refine mt_index pins s σ H _ _ v us Q I rx rxs ⟨p, vs, w, j, z, rfl, rfl, SqL.of b1, by rw [r1.flat]; exact c.1, by rw [c1.allFlat]; exact c.2, ew, ?_, fun m z' hm hz => ?_, q _ _ _ (Nx.refl _ _) S rep_int⟩
        · rw [rw'.eqv r1 (ff _ (List.getElem_mem hj)) c.1]; exact ez
        · obtain ⟨t', et, rt⟩ := c1.getV hz
          have hml : m < ys.length := by omega
          rw [List.getElem?_eq_getElem hml] at et
          cases et
          rw [rt.eqv r1 (ff _ (List.getElem_mem hml)) c.1]
          have := hno m hm
          simpa using this
      · cases e
    · cases e
  · cases e
def sItem (mv mo mi : M T) : MS := fun env h => bindE (mv env h) env fun v h1 => bindE (mo env h1) env fun a h2 => bindE (mi env h2) env fun i h3 => match a, i with
  | .loc n, .int k => match cellL h3 n with
    | some xs => match ixN xs.length k with
      | some j => if v.pu = true then .nx env (h3.set n (.lst (xs.set j v))) else .bad
      | none => .bad
    | none => .bad
  | _, _ => .bad
theorem ks_item {ob ix ev : Expr} {p pos : Pos} {mv mo mi : M T} (hv : PE X ev (tE X.K cl W mv)) (ho : PE X ob (tE X.K cl W mo)) (hi : PE X ix (tE X.K cl W mi))
    (ha : ∀ v, assign (.Subscript ob ix p) X.env v = (do
      let ov ← holding [v] (eval ob X.env)
      let iv ← holding [v, ov] (eval ix X.env)
      standAt p
      holding [v, ov, iv] (setItem ov iv v)
      release [v, ov, iv] []) := by intro _; rfl)
    (hs : swapsWithSole [.Subscript ob ix p] ev pos.line X.env = pure false := by rfl) (hw : swappedStores [.Subscript ob ix p] ev X.env = pure none := by rfl)
    (h1 : (assignEach [.Subscript ob ix p] X.env).map (·.2) = [assign (.Subscript ob ix p) X.env] := by rfl) : PS X (.Assign [.Subscript ob ix p] ev pos) (tS X.K cl W (sItem mv mo mi)) := by
  refine (ps_asg hv (pg_sub ho hi set_list ha) hs hw h1).weak fun D σ H ⟨env, h, ω, he, hs, q⟩ => ⟨env, h, ω, he, hs, (PostS.bindE he q).mono fun t h1 ω1 H1 N1 S1 q1 v r => ?_⟩
  refine ⟨env, h1, ω1, he.mono N1.toGr, S1, (PostS.bindE (he.mono N1.toGr) q1).mono fun a h2 ω2 H2 N2 S2 q2 o ro => ?_⟩
  refine ⟨env, h2, ω2, (he.mono N1.toGr).mono N2.toGr, S2, (PostS.bindE ((he.mono N1.toGr).mono N2.toGr) q2).mono fun i h3 ω3 H3 N3 S3 q3 z rz => ?_⟩
  split at q3
  · rename_i n k
    split at q3
    · rename_i xs ex
      split at q3
      · rename_i j ej
        split at q3
        · rename_i hp
          obtain ⟨p, vs, rfl, e1, e2, e3, e4⟩ := cellL_ok S3 (ro.mono N3.toGr) ex
          obtain ⟨S', N'⟩ := put_lst S3 (cellL_at ex) e1 (pus_set (i := j) e4 hp) (e3.set ((r.mono N2.toGr).mono N3.toGr) j)
          rw [e3.length] at ej
          exact ⟨p, vs, k, j, rfl, rz.int_inv, e2, ej, q3 _ _ σ N' S' (((he.mono N1.toGr).mono N2.toGr).mono N3.toGr)⟩
        · exact q3.elim
      · exact q3.elim
    · exact q3.elim
  · exact q3.elim
end
end Sm
namespace Sm
open PySem PySem.Spec PyProof.Rows L2
mutual
def frz (n : Nat) (h : Store) : T → Option T
  | .loc m => if m < n then some (.loc m) else match h[m]? with
    | some (.lst xs) => some (.lst xs)
    | _ => none
  | .tup xs => (frzs n h xs).map .tup
  | .lst xs => (frzs n h xs).map .lst
  | .non => some .non
  | .bl b => some (.bl b)
  | .int i => some (.int i)
  | .str s => some (.str s)
  | .scr s => some (.scr s)
  | .emp => some .emp
  | .adr _ _ _ _ => none
  | .fnc _ => none
  | .dct ks ts => (frzs n h ts).map (.dct ks)
def frzs (n : Nat) (h : Store) : List T → Option (List T)
  | [] => some []
  | x :: r => match frz n h x, frzs n h r with
    | some y, some ys => some (y :: ys)
    | _, _ => none
end
mutual
theorem frz_pu {n : Nat} {h : Store} : ∀ {t : T}, t.pu = true → frz n h t = some t
  | .non, _ => by simp only [frz]
  | .bl _, _ => by simp only [frz]
  | .int _, _ => by simp only [frz]
  | .str _, _ => by simp only [frz]
  | .scr _, _ => by simp only [frz]
  | .emp, _ => by simp only [frz]
  | .adr _ _ _ _, hp => by simp [T.pu] at hp
  | .fnc _, hp => by simp [T.pu] at hp
  | .tup xs, hp => by
    simp only [T.pu] at hp
    simp only [frz, frzs_pu hp, Option.map_some]
  | .lst xs, hp => by
    simp only [T.pu] at hp
    simp only [frz, frzs_pu hp, Option.map_some]
  | .dct ks xs, hp => by
    simp only [T.pu] at hp
    simp only [frz, frzs_pu hp, Option.map_some]
  | .loc m, hp => by simp [T.pu] at hp
theorem frzs_pu {n : Nat} {h : Store} : ∀ {ts : List T}, pus ts = true → frzs n h ts = some ts
  | [], _ => by simp only [frzs]
  | x :: r, hp => by
    simp only [pus, Bool.and_eq_true] at hp
    simp only [frzs, frz_pu hp.1, frzs_pu hp.2]
end
theorem frzs_len {n : Nat} {h : Store} : ∀ {ts us : List T}, frzs n h ts = some us → us.length = ts.length
  | [], us, e => by
    simp only [frzs, Option.some.injEq] at e
    rw [← e]
  | x :: r, us, e => by
    simp only [frzs] at e
    split at e
    · rename_i y ys e1 e2
      cases e
      rw [List.length_cons, List.length_cons, frzs_len e2]
    · cases e
def sameIns (h h' : Store) : Prop := ∀ (i c : Nat) (fs : List (Str × T)), i < h.length → h'[i]? = some (.ins c fs) → h[i]? = some (.ins c fs)
def Ex.pu : Ex → Bool
  | .txt _ => true
  | .fld _ _ t => t.pu
open Classical in
noncomputable instance sameDec (h h' : Store) : Decidable (sameIns h h') := propDecidable _
noncomputable def retF (h : Store) (t : T) (h' : Store) : Out T := if sameIns h h' then (if t.pu = true then .ok t (h'.take h.length) else match frz h.length h' t with
  | some t' => .ok t' (h'.take h.length)
  | none => .bad) else .bad
noncomputable def finF (keep : Bool) (h : Store) : SO → Out T
  | .rt t h' => if keep = true then .ok t h' else retF h t h'
  | .nx _ h' => if keep = true then .ok .non h' else retF h .non h'
  | .ex e _ h' => if keep = true then .ex e h' else if sameIns h h' ∧ e.pu = true then .ex e (h'.take h.length) else .bad
  | _ => .bad
def startE (n : Nat) (ts : List T) : Env' := ts.map some ++ List.replicate (n - ts.length) none
abbrev Fn := List T → Store → Out T
noncomputable def fn (nargs nslots : Nat) (keep : Bool) (body : MS) : Fn := fun ts h => if ts.length = nargs then finF keep h (body (startE nslots ts) h) else .bad
def spF (K : PySem.W.Frag) (cl : Nat → Addr) (F : Fn) (n : Nat) : Sp := fun vs H Q E => vs.length = n ∧ ∃ ts h ω, StOk K cl ω h H ∧ Reps K ω ts vs ∧ PostG K cl (fun cls d _ H' => E cls d H') ω H [] (F ts h) fun t _ ω' H' => ∀ v, Rep K ω' t v → Q v H'
section
variable {K : PySem.W.Frag} {cl : Nat → Addr} {ω ω' : Wd} {h h' : Store} {H H' : Hp}
mutual
theorem Rep.closed {ω'' : Wd} (pre : ω.rho <+: ω'.rho) (e : ω''.rho = ω.rho) (m : ∀ a o, ω'.Phi a = some o → ω''.Phi a = some o) : ∀ {t : T} {v0 v : V}, Rep K ω t v0 → Rep K ω' t v → Rep K ω'' t v
  | .non, _, _, _, r => by simpa only [Rep] using r
  | .bl _, _, _, _, r => by simpa only [Rep] using r
  | .int _, _, _, _, r => by simpa only [Rep] using r
  | .str _, _, _, _, r => by simpa only [Rep] using r
  | .tup xs, _, _, r0, r => by
    simp only [Rep] at r0 r ⊢
    obtain ⟨p, vs, e1, a, b⟩ := r
    obtain ⟨p0, vs0, _, _, b0⟩ := r0
    exact ⟨p, vs, e1, sqT_mono m a, Reps.closed pre e m b0 b⟩
  | .lst xs, _, _, r0, r => by
    simp only [Rep] at r0 r ⊢
    obtain ⟨p, vs, e1, a, b⟩ := r
    obtain ⟨p0, vs0, _, _, b0⟩ := r0
    exact ⟨p, vs, e1, m _ _ a, Reps.closed pre e m b0 b⟩
  | .loc n, _, _, r0, r => by
    simp only [Rep] at r0 r ⊢
    obtain ⟨p, e1, a⟩ := r
    obtain ⟨p0, _, a0⟩ := r0
    obtain ⟨l, q⟩ := pre
    have a' := a0
    rw [← q, List.getElem?_append_left (List.getElem?_eq_some_iff.mp a0).1, a0] at a
    cases a
    exact ⟨p, e1, by rw [e]; exact a0⟩
  | .scr ns, _, _, r0, r => by
    simp only [Rep] at r ⊢
    obtain ⟨p, e1, a⟩ := r
    exact ⟨p, e1, sqL_mono m a⟩
  | .fnc _, _, _, _, r => by simpa only [Rep] using r
  | .adr a d f ts, _, _, r0, r => by
    simp only [Rep] at r0 r ⊢
    obtain ⟨_, ws0, _, b0⟩ := r0
    obtain ⟨e1, ws, c, b⟩ := r
    exact ⟨e1, ws, fun n => m _ _ (c n), Reps.closed pre e m b0 b⟩
  | .emp, _, _, r0, r => by
    simp only [Rep] at r ⊢
    obtain ⟨p, e1, a⟩ := r
    exact ⟨p, e1, m _ _ a⟩
  | .dct ks xs, _, _, r0, r => by
    simp only [Rep] at r0 r ⊢
    obtain ⟨p, vs, e1, a, b⟩ := r
    obtain ⟨p0, vs0, _, _, b0⟩ := r0
    exact ⟨p, vs, e1, fixR_mono m a, Reps.closed pre e m b0 b⟩
theorem Reps.closed {ω'' : Wd} (pre : ω.rho <+: ω'.rho) (e : ω''.rho = ω.rho) (m : ∀ a o, ω'.Phi a = some o → ω''.Phi a = some o) : ∀ {ts : List T} {vs0 vs : List V}, Reps K ω ts vs0 → Reps K ω' ts vs → Reps K ω'' ts vs
  | [], _, _, _, r => by simpa only [Reps] using r
  | x :: xs, _, _, r0, r => by
    obtain ⟨v0, vr0, rfl, a0, b0⟩ := r0.inv
    obtain ⟨v, vr, rfl, a, b⟩ := r.inv
    exact Reps.cons (Rep.closed pre e m a0 a) (Reps.closed pre e m b0 b)
end
theorem RepKV.closed {κ : Type} {ω'' : Wd} (pre : ω.rho <+: ω'.rho) (e : ω''.rho = ω.rho) (m : ∀ a o, ω'.Phi a = some o → ω''.Phi a = some o) : ∀ {a : List (κ × T)} {b0 b : List (κ × V)}, RepKV K ω a b0 → RepKV K ω' a b → RepKV K ω'' a b
  | [], _, _, _, r => r
  | (k, t) :: l, _, _, ⟨_, _, _, a0, b0⟩, ⟨v, lr, e1, a1, b1⟩ => ⟨v, lr, e1, a0.closed pre e m a1, RepKV.closed pre e m b0 b1⟩
noncomputable def cutW (ω' : Wd) (n : Nat) (H' : Hp) : Wd := ⟨ω'.rho.take n, fun a => if a ∈ ω'.rho.drop n then H' a else ω'.Phi a⟩
theorem cut_phi (S' : StOk K cl ω' h' H') (n : Nat) : ∀ a o, ω'.Phi a = some o → (cutW ω' n H').Phi a = some o := fun a o e => by
  show (if a ∈ ω'.rho.drop n then H' a else ω'.Phi a) = some o
  split
  · exact S'.phi a o e
  · exact e
theorem cut_ok (S : StOk K cl ω h H) (N : Nx ω H ω' H') (S' : StOk K cl ω' h' H') (si : sameIns h h') : Nx ω H (cutW ω' h.length H') H' ∧ StOk K cl (cutW ω' h.length H') (h'.take h.length) H' := by
  have hrho : ω'.rho.take h.length = ω.rho := by
    obtain ⟨l, q⟩ := N.pre
    rw [← q, ← S.len, List.take_left]
  have hle : h.length ≤ h'.length := by
    rw [← S.len, ← S'.len]
    exact N.pre.length_le
  have hph := cut_phi S' h.length
  refine ⟨⟨⟨?_, fun a o e => hph a o (N.phi a o e)⟩, fun p hp => N.newR p (List.mem_of_mem_take hp), fun a o e => ?_, N.fr, N.dom⟩, ⟨?_, ?_, ?_, ?_, ?_⟩⟩
  · show ω.rho <+: ω'.rho.take h.length
    rw [hrho]
    exact List.prefix_refl _
  · have e' : (if a ∈ ω'.rho.drop h.length then H' a else ω'.Phi a) = some o := e
    split at e'
    · rename_i hm
      refine .inr (.inl ?_)
      rcases N.newR a (List.mem_of_mem_drop hm) with z | z
      · exfalso
        have z' : a ∈ ω'.rho.take h.length := by rw [hrho]; exact z
        have nd := S'.nd
        rw [← List.take_append_drop h.length ω'.rho, List.nodup_append] at nd
        exact nd.2.2 a z' a hm rfl
      · exact z
    · exact N.newF a o e'
  · show (ω'.rho.take h.length).length = (h'.take h.length).length
    rw [List.length_take, List.length_take, S'.len]
  · exact S'.nd.sublist (List.take_sublist _ _)
  · intro i c p a b
    have hi : i < h.length := by
      have := (List.getElem?_eq_some_iff.mp a).1
      rw [List.length_take] at this
      omega
    rw [List.getElem?_take_of_lt hi] at a
    have b' : (ω'.rho.take h.length)[i]? = some p := b
    rw [List.getElem?_take_of_lt hi] at b'
    have k := S'.cells i c p a b'
    cases c with
    | lst xs => obtain ⟨k1, vs, k2, k3⟩ := k; exact ⟨k1, vs, k2, k3.pure hph k1⟩
    | dK xs => obtain ⟨k1, vs, k2, k3⟩ := k; exact ⟨k1, vs, k2, k3.pure hph k1⟩
    | dT xs => obtain ⟨k1, vs, k2, k3⟩ := k; exact ⟨k1, vs, k2, k3.pure hph k1.1⟩
    | dead => exact k
    | ins c fs =>
      obtain ⟨dx, l, k2, k3⟩ := k
      obtain ⟨p0, e0, dx0, l0, k20, k30⟩ := S.at_ (si i c fs hi a)
      exact ⟨dx, l, k2, RepKV.closed N.pre hrho hph k30 k3⟩
  · intro a o e
    have e' : (if a ∈ ω'.rho.drop h.length then H' a else ω'.Phi a) = some o := e
    split at e'
    · exact e'
    · exact S'.phi a o e'
  · intro i p hp
    have hp' : (ω'.rho.take h.length)[i]? = some p := hp
    have hi : i < h.length := by
      have := (List.getElem?_eq_some_iff.mp hp').1
      rw [List.length_take] at this
      omega
    have hp2 := hp'
    rw [List.getElem?_take_of_lt hi] at hp2
    rw [List.getElem?_take_of_lt hi]
    refine (S'.dis i p hp2).imp id fun z => ?_
    show (if p ∈ ω'.rho.drop h.length then H' p else ω'.Phi p) = none
    rw [if_neg (fun m => by
      have nd := S'.nd
      rw [← List.take_append_drop h.length ω'.rho, List.nodup_append] at nd
      exact nd.2.2 p (List.mem_of_getElem? hp') p m rfl)]
    exact z
mutual
theorem frz_ok (S' : StOk K cl ω' h' H') (n : Nat) : ∀ {t t' : T} {v : V}, frz n h' t = some t' → Rep K ω' t v → Rep K (cutW ω' n H') t' v
  | .non, t', v, e, r => by simp only [frz, Option.some.injEq] at e; subst e; simpa only [Rep] using r
  | .bl _, t', v, e, r => by simp only [frz, Option.some.injEq] at e; subst e; simpa only [Rep] using r
  | .int _, t', v, e, r => by simp only [frz, Option.some.injEq] at e; subst e; simpa only [Rep] using r
  | .str _, t', v, e, r => by simp only [frz, Option.some.injEq] at e; subst e; simpa only [Rep] using r
  | .scr _, t', v, e, r => by
    simp only [frz, Option.some.injEq] at e
    subst e
    simp only [Rep] at r ⊢
    obtain ⟨p, e1, a⟩ := r
    exact ⟨p, e1, sqL_mono (cut_phi S' n) a⟩
  | .adr _ _ _ _, t', v, e, r => by simp [frz] at e
  | .fnc _, t', v, e, r => by simp [frz] at e
  | .emp, t', v, e, r => by
    simp only [frz, Option.some.injEq] at e
    subst e
    simp only [Rep] at r ⊢
    obtain ⟨p, e1, a⟩ := r
    exact ⟨p, e1, cut_phi S' n _ _ a⟩
  | .tup xs, t', v, e, r => by
    simp only [frz, Option.map_eq_some_iff] at e
    obtain ⟨ys, e1, rfl⟩ := e
    simp only [Rep] at r ⊢
    obtain ⟨p, vs, e2, a, b⟩ := r
    exact ⟨p, vs, e2, sqT_mono (cut_phi S' n) a, frzs_ok S' n e1 b⟩
  | .lst xs, t', v, e, r => by
    simp only [frz, Option.map_eq_some_iff] at e
    obtain ⟨ys, e1, rfl⟩ := e
    simp only [Rep] at r ⊢
    obtain ⟨p, vs, e2, a, b⟩ := r
    exact ⟨p, vs, e2, cut_phi S' n _ _ a, frzs_ok S' n e1 b⟩
  | .dct ks xs, t', v, e, r => by
    simp only [frz, Option.map_eq_some_iff] at e
    obtain ⟨ys, e1, rfl⟩ := e
    simp only [Rep] at r ⊢
    obtain ⟨p, vs, e2, a, b⟩ := r
    exact ⟨p, vs, e2, by rw [frzs_len e1]; exact fixR_mono (cut_phi S' n) a, frzs_ok S' n e1 b⟩
  | .loc m, t', v, e, r => by
    simp only [frz] at e
    split at e
    · rename_i hm
      cases e
      simp only [Rep] at r ⊢
      obtain ⟨p, e2, a⟩ := r
      refine ⟨p, e2, ?_⟩
      show (ω'.rho.take n)[m]? = some p
      rw [List.getElem?_take_of_lt hm]
      exact a
    · rename_i hm
      split at e
      · rename_i xs hn
        cases e
        obtain ⟨p, vs, rfl, q, b, c, d⟩ := lst_at S' r hn
        simp only [Rep]
        refine ⟨p, vs, rfl, ?_, c.pure (cut_phi S' n) d⟩
        show (if p ∈ ω'.rho.drop n then H' p else ω'.Phi p) = _
        rw [if_pos]
        · exact b
        · have hmn : n ≤ m := by omega
          refine List.mem_of_getElem? (i := m - n) ?_
          rw [List.getElem?_drop, Nat.add_sub_cancel' hmn]
          exact q
      · cases e
theorem frzs_ok (S' : StOk K cl ω' h' H') (n : Nat) : ∀ {ts ts' : List T} {vs : List V}, frzs n h' ts = some ts' → Reps K ω' ts vs → Reps K (cutW ω' n H') ts' vs
  | [], ts', vs, e, r => by simp only [frzs, Option.some.injEq] at e; subst e; simpa only [Reps] using r
  | x :: xs, ts', vs, e, r => by
    simp only [frzs] at e
    split at e
    · rename_i y ys e1 e2
      cases e
      obtain ⟨v, vr, rfl, a, b⟩ := r.inv
      exact Reps.cons (frz_ok S' n e1 a) (frzs_ok S' n e2 b)
    · cases e
end
theorem retF_ok {W : WX} {σ : L2.St} {t : T} {Q : VK} (S : StOk K cl ω h H) (q : PostG K cl W ω H σ (retF h t h') fun t _ ω' H' => ∀ v, Rep K ω' t v → Q v H') (N : Nx ω H ω' H') (S' : StOk K cl ω' h' H') {v : V} (r : Rep K ω' t v) : Q v H' := by
  unfold retF at q
  split at q
  · rename_i si
    obtain ⟨N2, S2⟩ := cut_ok S N S' si
    split at q
    · rename_i hp
      exact q _ H' N2 S2 v (frz_ok S' _ (frz_pu hp) r)
    · split at q
      · rename_i t' et
        exact q _ H' N2 S2 v (frz_ok S' _ et r)
      · exact q.elim
  · exact q.elim
theorem XOk.cut {e : Ex} {cls : Value} {d : Option Addr} (x : XOk K cl ω' H' e cls d) (hp : e.pu = true) {ω'' : Wd} (m : ∀ a o, ω'.Phi a = some o → ω''.Phi a = some o) : XOk K cl ω'' H' e cls d := by
  cases e with
  | txt c => exact x
  | fld c f t =>
    obtain ⟨a, b, dx, v, e1, e2, e3⟩ := x
    exact ⟨a, b, dx, v, e1, e2, e3.pure m b⟩
theorem fin_ok {E : XK} {keep : Bool} {o : SO} {Q : VK} (S : StOk K cl ω h H) (q : PostG K cl (fun cls d _ H' => E cls d H') ω H [] (finF keep h o) fun t _ ω' H' => ∀ v, Rep K ω' t v → Q v H') :
    PostS K cl (fun cls d _ H' => E cls d H') ω H o { nx := fun _ H' => Q .non H', rt := Q } := by
  cases o with
  | bad => exact q
  | bk env h' => exact q.elim
  | ct env h' => exact q.elim
  | rt t h' =>
    intro ω' H' v N S' r
    cases keep with
    | true => exact q ω' H' N S' v r
    | false => exact retF_ok S q N S' r
  | nx env h' =>
    intro ω' H' σ' N S' e
    cases keep with
    | true => exact q ω' H' N S' _ rep_non
    | false => exact retF_ok S (t := .non) q N S' rep_non
  | ex e env h' =>
    intro ω' H' σ' cls d N S' _ x
    cases keep with
    | true => exact q ω' H' cls d N S' x
    | false =>
      have q : PostG K cl (fun cls d _ H' => E cls d H') ω H [] (if sameIns h h' ∧ e.pu = true then Out.ex e (h'.take h.length) else .bad) _ := q
      split at q
      · rename_i c
        obtain ⟨N2, S2⟩ := cut_ok S N S' c.1
        exact q _ H' cls d N2 S2 (x.cut c.2 (cut_phi S' _))
      · exact q.elim
theorem startE_ok {n : Nat} {N : List Str} (hn : N.length = n) {ts : List T} {vs : List V} (r : Reps K ω ts vs) : EnvOk K ω (startE n ts) (L2.start N vs) := by
  unfold startE L2.start
  rw [hn, ← r.length]
  refine ⟨by simp [r.length], fun i t e => ?_⟩
  by_cases hi : i < ts.length
  · rw [List.getElem?_append_left (by simpa using hi), List.getElem?_map] at e
    rw [List.getElem?_append_left (by rw [List.length_map, ← r.length]; exact hi), List.getElem?_map]
    cases et : ts[i]? with
    | none => rw [et] at e; cases e
    | some u =>
      rw [et] at e
      cases e
      obtain ⟨v, e1, r1⟩ := r.get et
      exact ⟨v, by rw [e1]; rfl, r1⟩
  · rw [List.getElem?_append_right (by simpa using Nat.le_of_not_lt hi)] at e
    have := List.mem_of_getElem? e
    rw [List.mem_replicate] at this
    cases this.2
end
structure Ok (X : Cx) (W : WX) (k : Nat) : Prop where
  calm : X.calm = true
  nd : X.N.Nodup
  tk : L2N.Takes X W
  hp : PassesOwn (model X.prog X.w) X.A X.env X.xe
  room : Room k X.A
theorem tk0N {X : Cx} : L2N.Takes X (fun _ _ _ _ => False) := fun _ _ ⟨_, _, _, _, _, _, _, _, _, _, _, _, _, _, _, _, z⟩ => z.elim
theorem Ok.hu {X : Cx} {W : WX} {k : Nat} (c : Ok X W k) : X.A.units + 64 < cLine := c.room.units
theorem Ok.hu5 {X : Cx} {W : WX} {k : Nat} (c : Ok X W k) : X.A.units + 65 < cLine := by
  have := c.room.un
  omega
theorem Ok.hu0 {X : Cx} {W : WX} {k : Nat} (c : Ok X W k) : X.A.units < cLine := c.room.units0
theorem Ok.blk {X : Cx} {W : WX} {k : Nat} (c : Ok X W k) (s : Shared) (H : Hp) (scope : Scope) (cenv : Env) (fp : List Addr) : Ok (X.blk s H scope cenv fp) W0 k :=
  ⟨c.calm, c.nd, tk0N, PassesOwn.never, c.room⟩
section
variable {P : Program} {w : World} {K : PySem.W.Frag} {mg : Str → Option Value} {base : Heap} {cl : Nat → Addr}
end
def mCall (F : Fn) (r : M (List T)) : M T := fun env h => (r env h).bind fun as h1 => F as h1
section
variable {X : Cx} {W : WX} {cl : Nat → Addr} {k j n : Nat} {f : Addr} {fd : FuncData} {ps : List Str} {F : Fn} {x : Str} {p pos : Pos} {e : Expr} {es : List Expr} {r : M (List T)}
theorem PostG.reW {K : PySem.W.Frag} {α : Type} {ω : Wd} {H : Hp} {σ : L2.St} {o : Out α} {R : α → Store → Wd → Hp → Prop} (q : PostG K cl W ω H σ o R) : PostG K cl (fun cls d _ H' => W cls d σ H') ω H [] o R := by
  cases o with
  | ok a h => exact q
  | ex e h => exact q
  | bad => exact q
theorem call_step {K : PySem.W.Frag} (hn : ∀ ts h, ts.length ≠ n → F ts h = .bad) {σ : L2.St} {H : Hp} {Q : VK} (h : tE K cl W (mCall F r) σ H Q) : tA K cl W r σ H fun vs H1 => spF K cl F n vs H1 Q (WE W σ) := by
  obtain ⟨env, h, ω, he, hs, q⟩ := h
  refine ⟨env, h, ω, he, hs, (PostG.bind q).mono fun ts h1 ω1 H1 N1 S1 q1 vs rs => ?_⟩
  refine ⟨Classical.byContradiction fun z => ?_, ts, h1, ω1, S1, rs, q1.reW⟩
  rw [hn ts h1 (by rw [rs.length]; exact z)] at q1
  exact q1
theorem fn_len {nargs nslots : Nat} {keep : Bool} {body : MS} : ∀ ts h, ts.length ≠ nargs → fn nargs nslots keep body ts h = .bad := fun ts h z => by
  unfold fn
  rw [if_neg z]
theorem k_call (c : Ok X W k) (G : FnOk X.prog X.w X.K X.mg X.base (L2N.CX X.prog X.w) j f fd ps (spF X.K cl F n)) (hj : j ≤ k) (hn : ∀ ts h, ts.length ≠ n → F ts h = .bad) (hg : Gl X x) (hm : X.mg x = some (.ref f)) (hk : PySem.W.keepIn X.K (.ref f) = true) (hb : Binds X.K fd ps [])
    (ha : PA X (e :: es) (tA X.K cl W r)) (hdb : (x == ("__debug__" : Str)) = false := by decide) (he : starEach (e :: es) X.env = (false, eval e X.env) :: starEach es X.env := by rfl) (hpl : (backTo pos (starEach es X.env)).any (·.1) = false := by rfl) :
    PE X (.Call (.Name x p) (e :: es) [] pos) (tE X.K cl W (mCall F r)) :=
  (pe_callS G (c.room.mono hj) hg hm hk hb (fun σ => L2N.passAt c.tk σ) ha hdb he hpl).weak fun _ _ _ h => call_step hn h
theorem k_call0 (c : Ok X W k) (G : FnOk X.prog X.w X.K X.mg X.base (L2N.CX X.prog X.w) j f fd ps (spF X.K cl F n)) (hj : j ≤ k) (hn : ∀ ts h, ts.length ≠ n → F ts h = .bad) (hg : Gl X x) (hm : X.mg x = some (.ref f)) (hk : PySem.W.keepIn X.K (.ref f) = true) (hb : Binds X.K fd ps [])
    (hdb : (x == ("__debug__" : Str)) = false := by decide) : PE X (.Call (.Name x p) [] [] pos) (tE X.K cl W (mCall F mNil)) := by
  refine ⟨fun pins s σ H Q I h => ?_⟩
  refine wpAny_Call_Name_kw (ld_glob I hg hm ?_ hdb)
  obtain ⟨env, h, ω, he, hs, q⟩ := h
  have q' : spF X.K cl F n [] H Q (WE W σ) := by
    refine ⟨Classical.byContradiction fun z => ?_, [], h, ω, hs, Reps.nil, PostG.reW q⟩
    have q2 : PostG X.K cl W ω H σ (F [] h) _ := q
    rw [hn [] h (fun e => z (by simpa using e))] at q2
    exact q2
  exact PySem.W.callWith_K0 I.kIn hk (run_fnS (us := []) G (c.room.mono hj) hb (L2N.passAt c.tk σ) I .nil q')
end
end Sm
namespace Sm
open PySem PySem.Spec PyProof.Rows L2
structure Cal (P : Program) (w : World) (K : PySem.W.Frag) (mg : Str → Option Value) (base : Heap) (cl : Nat → Addr) (x : Str) (j : Nat) (ps : List Str) (F : Fn) (n : Nat) : Prop where
  ex : ∃ f fd, FnOk P w K mg base (L2N.CX P w) j f fd ps (spF K cl F n) ∧ mg x = some (.ref f) ∧ PySem.W.keepIn K (.ref f) = true ∧ Binds K fd ps []
  len : ∀ ts h, ts.length ≠ n → F ts h = .bad
section
variable {X : Cx} {W : WX} {cl : Nat → Addr} {k j n : Nat} {ps : List Str} {F : Fn} {x : Str} {p pos : Pos} {e : Expr} {es : List Expr} {r : M (List T)}
theorem q_call (c : Ok X W k) (G : Cal X.prog X.w X.K X.mg X.base cl x j ps F n) (hj : j ≤ k) (hg : Gl X x)
    (ha : PA X (e :: es) (tA X.K cl W r)) (hdb : (x == ("__debug__" : Str)) = false := by decide) (he : starEach (e :: es) X.env = (false, eval e X.env) :: starEach es X.env := by rfl) (hpl : (backTo pos (starEach es X.env)).any (·.1) = false := by rfl) :
    PE X (.Call (.Name x p) (e :: es) [] pos) (tE X.K cl W (mCall F r)) := by
  obtain ⟨f, fd, G1, m, kp, b⟩ := G.ex
  exact k_call c G1 hj G.len hg m kp b ha hdb he hpl
theorem q_call0 (c : Ok X W k) (G : Cal X.prog X.w X.K X.mg X.base cl x j ps F n) (hj : j ≤ k) (hg : Gl X x) (hdb : (x == ("__debug__" : Str)) = false := by decide) : PE X (.Call (.Name x p) [] [] pos) (tE X.K cl W (mCall F mNil)) := by
  obtain ⟨f, fd, G1, m, kp, b⟩ := G.ex
  exact k_call0 c G1 hj G.len hg m kp b hdb
end
section
variable {P : Program} {w : World} {K : PySem.W.Frag} {mg : Str → Option Value} {base : Heap} {cl : Nat → Addr}
theorem q_fnF {x qual : Str} {params : Arguments} {body : List Stmt} {scope : Scope} {f : Addr} {fd : FuncData} {N ps : List Str} {k nargs nslots : Nat} {keep : Bool} {sem : MS} (F : FunD K x qual params body scope [] [] f fd) (S : FnScope N ps scope) (hn : N.length = nslots) (hps : ps.length = nargs)
    (hB : ∀ (cdv : Value) (A : Around) (outer : List Env) (s : Shared) (H : Hp) (E : XK), Ok (cxOf (L2N.CX P w) P w K mg base N qual scope f cdv A outer s H E) (fun cls d _ H => E cls d H) k →
      PSs (cxOf (L2N.CX P w) P w K mg base N qual scope f cdv A outer s H E) body (tS K cl (fun cls d _ H => E cls d H) sem)) :
    FnOk P w K mg base (L2N.CX P w) (k + 1) f fd ps (spF K cl (fn nargs nslots keep sem) nargs) := by
  refine F.ok S (fun vs H Q E h => h.1.trans hps.symm) (fun cdv A outer s H vs Q E hr h => ?_)
  obtain ⟨hl, ts, h, ω, hS, hR, hP⟩ := h
  refine ⟨_, hB cdv A outer s H E ⟨rfl, S.nd, L2N.takes_of rfl rfl rfl rfl, passes_of rfl, hr⟩, startE nslots ts, h, ω, startE_ok hn hR, hS, ?_⟩
  unfold fn at hP
  split at hP
  · exact fin_ok hS hP
  · exact hP.elim
theorem q_fn {x qual : Str} {params : Arguments} {body : List Stmt} {scope : Scope} {f : Addr} {fd : FuncData} {N ps : List Str} {k nargs nslots : Nat} {keep : Bool} {sem : MS} (F : FunD K x qual params body scope [] [] f fd) (S : FnScope N ps scope) (hn : N.length = nslots) (hps : ps.length = nargs)
    (hm : mg x = some (.ref f)) (hb : Binds K fd ps [])
    (hB : ∀ (cdv : Value) (A : Around) (outer : List Env) (s : Shared) (H : Hp) (E : XK), Ok (cxOf (L2N.CX P w) P w K mg base N qual scope f cdv A outer s H E) (fun cls d _ H => E cls d H) k →
      PSs (cxOf (L2N.CX P w) P w K mg base N qual scope f cdv A outer s H E) body (tS K cl (fun cls d _ H => E cls d H) sem)) :
    Cal P w K mg base cl x (k + 1) ps (fn nargs nslots keep sem) nargs :=
  ⟨⟨f, fd, q_fnF F S hn hps hB, hm, F.kp, hb⟩, fn_len⟩
theorem q_bad {x qual : Str} {params : Arguments} {body : List Stmt} {scope : Scope} {f : Addr} {fd : FuncData} {ps : List Str} {k n : Nat} (F : FunD K x qual params body scope [] [] f fd) (hm : mg x = some (.ref f)) (hb : Binds K fd ps []) (hps : ps.length = n) :
    Cal P w K mg base cl x k ps (fun _ _ => .bad) n := by
  refine ⟨⟨f, fd, ⟨fun vs H Q E h => h.1.trans hps.symm, fun A outer s H args us vs Q E _ _ _ _ h => ?_⟩, hm, F.kp, hb⟩, fun _ _ _ => rfl⟩
  obtain ⟨_, _, _, _, _, _, z⟩ := h
  exact z.elim
end
theorem walk_ofW {l : PySem.W.OpenLaw} {n k : Nat} {q : Program} {loose : List Str} {XP : (Str → Option Value) → Heap → Prop} {YP : World → Heap → Prop} {d : DefRec} {x : Str} {F : Fn}
    (hn : l.most = some n) (hn2 : n ≤ sizeLine) (hdf : d.params.defaults = []) (hr : Room k callerA)
    (hF : ∀ (w : World) (mg : Str → Option Value) (fa : Addr) (h : Heap), YP w h → h.Ns mainGlobals mg → mg d.name = some (.ref fa) → ∃ (K : PySem.W.Frag) (cl : Nat → Addr) (fd : FuncData), K.In h ∧ (∀ (s : Shared) (u : Value), BindsTo s fd ⟨[u], []⟩ [(x, u)]) ∧
      ∀ base : Heap, K.In base → base.Ns mainGlobals mg → FnOk l.prog w K mg base (L2N.CX l.prog w) k fa fd [x] (spF K cl F 1))
    (hL : ∀ ns : List Int, ns.length ≤ n → ∃ h', F [.scr ns] [] = .ok (.bl true) h') :
    PySem.W.WalkO q loose XP YP l.row.toRowW d [] (fun f vs => PySem.call f vs) := by
  refine Att.attach_call hn hdf fun w _ s1 mg _ fa _ _ _ _ a vs ns G Y _ _ _ mgd lies arei most gens => ?_
  have ⟨K, cl, fd, KX, bind1, ok1⟩ := hF w mg fa _ Y G.T.g mgd
  refine law_call (CX := L2N.CX l.prog w) KX G.T.g G.T.b G.T.builtins G.T.nolimit gens lies arei (Nat.le_trans most hn2) hr ok1 bind1 (fun H _ sq => ⟨rfl, [.scr ns], [], ⟨[], H⟩, ?_, Reps.one ?_, ?_⟩) ?_
  · exact ⟨rfl, List.nodup_nil, nofun, fun _ _ e => e, nofun⟩
  · simp only [Rep]
    exact ⟨a, rfl, sq⟩
  · have ⟨h', e⟩ := hL ns most
    rw [e]
    intro _ _ _ _ v r
    exact r.bl_inv
  · intro H e s' z
    obtain ⟨_, _, _, _, _, _, _, _, _, _, _, _, z⟩ := z
    exact z.elim
end Sm
namespace Sm
open PySem PySem.Spec PyProof.Rows L2
section
variable {X : Cx} {W : WX} {cl : Nat → Addr} {k : Nat} {m n : M T} {r : M (List T)} {e a b : Expr} {es : List Expr} {p p2 pos : Pos} {f : F2}
theorem q_var (i : Nat) {x : Str} (hN : X.N[i]? = some x := by rfl) (hv : Vis X.env.scope x := by first | exact Or.inl rfl | exact Or.inr (Or.inl rfl) | exact Or.inr (Or.inr rfl)) (hd : (x == ("__debug__" : Str)) = false := by decide)
    (hcd : (x == ("__classdict__" : Str)) = false := by decide) : PE X (.Name x pos) (tE X.K cl W (mVar i)) := k_var (pe_var hN hv hd hcd)
theorem q_set (nd : X.N.Nodup) (i : Nat) {x : Str} {pos' : Pos} (he : PE X e (tE X.K cl W m)) (hi : X.N[i]? = some x := by rfl) (hx : Loc X.env.scope x := by first | exact .inl rfl | exact .inr rfl) (hs : swapsWith e (some (.Name x pos')) pos.line X.env = pure false := by rfl)
    (hf : X.fn x = true ∨ X.env.scope.names.lookup x = some .local := by first | exact .inl rfl | exact .inr rfl) : PS X (.Assign [.Name x pos'] e pos) (tS X.K cl W (sSet i m)) := ks_set nd hi hx he hs hf
theorem q_one (nd : X.N.Nodup) (i : Nat) {x : Str} (hi : X.N[i]? = some x := by rfl) (hx : Loc X.env.scope x := by first | exact .inl rfl | exact .inr rfl) (hf : X.fn x = true ∨ X.env.scope.names.lookup x = some .local := by first | exact .inl rfl | exact .inr rfl) : PG X (.Name x pos) (gT X.K (.one i)) := kg_one nd hi hx hf
theorem q_gcons (nd : X.N.Nodup) (i : Nat) {x : Str} {p : Pos} {es : List Expr} {is : List Nat} (h2 : PGs X es (gMany is)) (hi : X.N[i]? = some x := by rfl) (hx : Loc X.env.scope x := by first | exact .inl rfl | exact .inr rfl) (hf : X.fn x = true ∨ X.env.scope.names.lookup x = some .local := by first | exact .inl rfl | exact .inr rfl)
    (hs : (assignEach (.Name x p :: es) X.env).map (·.2) = assign (.Name x p) X.env :: (assignEach es X.env).map (·.2) := by rfl) : PGs X (.Name x p :: es) (gMany (i :: is)) := kgs_cons nd hi hx h2 hf hs
theorem q_eq (hu : X.A.units + 64 < cLine) (ha : PE X a (tE X.K cl W m)) (hb : PE X b (tE X.K cl W n)) : PE X (.Compare a [.Eq] [b] pos) (tE X.K cl W (mBin fEq m n)) := k_cmp (o_eq hu) (nomark _) ha hb
theorem q_ge (ha : PE X a (tE X.K cl W m)) (hb : PE X b (tE X.K cl W n)) : PE X (.Compare a [.GtE] [b] pos) (tE X.K cl W (mBin fGe m n)) := k_cmp o_ge (nomark _) ha hb
theorem q_is (ha : PE X a (tE X.K cl W m)) (hb : PE X b (tE X.K cl W n)) : PE X (.Compare a [.Is] [b] pos) (tE X.K cl W (mBin fIs m n)) := k_cmp o_is (nomark _) ha hb
theorem q_in (hu : X.A.units + 65 < cLine) (ha : PE X a (tE X.K cl W m)) (hb : PE X b (tE X.K cl W n)) (hm : behindInMarks .In b = false := by rfl) : PE X (.Compare a [.In] [b] pos) (tE X.K cl W (mBin fIn m n)) := k_cmp (o_in hu) hm ha hb
theorem qt_eq (hu : X.A.units + 64 < cLine) (ha : PE X a (tE X.K cl W m)) (hb : PE X b (tE X.K cl W n)) : PT X (.Compare a [.Eq] [b] pos) (tT X.K cl W (mTst (mBin fEq m n))) := kt_cmp (o_eq hu) (nomark _) ha hb
theorem qt_ne (hu : X.A.units + 64 < cLine) (ha : PE X a (tE X.K cl W m)) (hb : PE X b (tE X.K cl W n)) : PT X (.Compare a [.NotEq] [b] pos) (tT X.K cl W (mTst (mBin fNe m n))) := kt_cmp (o_ne hu) (nomark _) ha hb
theorem qt_lt (hu : X.A.units < cLine) (ha : PE X a (tE X.K cl W m)) (hb : PE X b (tE X.K cl W n)) : PT X (.Compare a [.Lt] [b] pos) (tT X.K cl W (mTst (mBin fLt m n))) := kt_cmp (o_lt hu) (nomark _) ha hb
theorem qt_gt (ha : PE X a (tE X.K cl W m)) (hb : PE X b (tE X.K cl W n)) : PT X (.Compare a [.Gt] [b] pos) (tT X.K cl W (mTst (mBin fGt m n))) := kt_cmp o_gt (nomark _) ha hb
theorem qt_ge (ha : PE X a (tE X.K cl W m)) (hb : PE X b (tE X.K cl W n)) : PT X (.Compare a [.GtE] [b] pos) (tT X.K cl W (mTst (mBin fGe m n))) := kt_cmp o_ge (nomark _) ha hb
theorem qt_is (ha : PE X a (tE X.K cl W m)) (hb : PE X b (tE X.K cl W n)) : PT X (.Compare a [.Is] [b] pos) (tT X.K cl W (mTst (mBin fIs m n))) := kt_cmp o_is (nomark _) ha hb
theorem qt_isnot (ha : PE X a (tE X.K cl W m)) (hb : PE X b (tE X.K cl W n)) : PT X (.Compare a [.IsNot] [b] pos) (tT X.K cl W (mTst (mBin fIsNot m n))) := kt_cmp o_isnot (nomark _) ha hb
theorem q_idx (ha : PE X a (tE X.K cl W m)) (hb : PE X b (tE X.K cl W n)) (hs : PlainIx b := by exact fun _ _ => rfl) : PE X (.Subscript a b pos) (tE X.K cl W (mBin fIdx m n)) := k_idx hs ha hb
theorem q_len (z : X.mg "len" = none) (ha : PA X (e :: es) (tA X.K cl W r)) (hg : Gl X "len" := by rfl) (he : starEach (e :: es) X.env = (false, eval e X.env) :: starEach es X.env := by rfl) (hpl : (backTo pos (starEach es X.env)).any (·.1) = false := by rfl) : PE X (.Call (.Name "len" p) (e :: es) [] pos) (tE X.K cl W (mCallF fLen r)) := k_callB c_len hg z boot_len ha (by decide) (by decide) he hpl
theorem q_all (c : Ok X W k) (z : X.mg "all" = none) (ha : PA X (e :: es) (tA X.K cl W r)) (hg : Gl X "all" := by rfl) (he : starEach (e :: es) X.env = (false, eval e X.env) :: starEach es X.env := by rfl) (hpl : (backTo pos (starEach es X.env)).any (·.1) = false := by rfl) : PE X (.Call (.Name "all" p) (e :: es) [] pos) (tE X.K cl W (mCallF fAll r)) := k_callB (c_all c.calm) hg z boot_all ha (by decide) (by decide) he hpl
theorem q_max (c : Ok X W k) (z : X.mg "max" = none) (ha : PA X (e :: es) (tA X.K cl W r)) (hg : Gl X "max" := by rfl) (he : starEach (e :: es) X.env = (false, eval e X.env) :: starEach es X.env := by rfl) (hpl : (backTo pos (starEach es X.env)).any (·.1) = false := by rfl) : PE X (.Call (.Name "max" p) (e :: es) [] pos) (tE X.K cl W (mCallF fMax r)) := k_callB (c_max c.calm) hg z boot_max ha (by decide) (by decide) he hpl
theorem q_min (c : Ok X W k) (z : X.mg "min" = none) (ha : PA X (e :: es) (tA X.K cl W r)) (hg : Gl X "min" := by rfl) (he : starEach (e :: es) X.env = (false, eval e X.env) :: starEach es X.env := by rfl) (hpl : (backTo pos (starEach es X.env)).any (·.1) = false := by rfl) : PE X (.Call (.Name "min" p) (e :: es) [] pos) (tE X.K cl W (mCallF fMin r)) := k_callB (c_min c.calm c.hu) hg z boot_min ha (by decide) (by decide) he hpl
theorem q_int (z : X.mg "int" = none) (ha : PA X (e :: es) (tA X.K cl W r)) (hg : Gl X "int" := by rfl) (he : starEach (e :: es) X.env = (false, eval e X.env) :: starEach es X.env := by rfl) (hpl : (backTo pos (starEach es X.env)).any (·.1) = false := by rfl) : PE X (.Call (.Name "int" p) (e :: es) [] pos) (tE X.K cl W (mCallF fInt r)) := k_callTy c_int hg z boot_int ha (by decide) (by decide) he hpl
theorem q_tuple (z : X.mg "tuple" = none) (ha : PA X (e :: es) (tA X.K cl W r)) (hg : Gl X "tuple" := by rfl) (he : starEach (e :: es) X.env = (false, eval e X.env) :: starEach es X.env := by rfl) (hpl : (backTo pos (starEach es X.env)).any (·.1) = false := by rfl) : PE X (.Call (.Name "tuple" p) (e :: es) [] pos) (tE X.K cl W (mCallF fTuple r)) := k_callTy c_tuple hg z boot_tuple ha (by decide) (by decide) he hpl
theorem qn_list (z : X.mg "list" = none) (ha : PA X (e :: es) (tA X.K cl W r)) (hg : Gl X "list" := by rfl) (he : starEach (e :: es) X.env = (false, eval e X.env) :: starEach es X.env := by rfl) (hpl : (backTo pos (starEach es X.env)).any (·.1) = false := by rfl) : PE X (.Call (.Name "list" p) (e :: es) [] pos) (tN X.K cl W (mNewA fList r)) := kn_callTy n_list hg z boot_list ha (by decide) (by decide) he hpl
theorem bootTy (ty : String) (h : ty ∈ ["int", "bool", "str", "tuple", "list", "dict"]) : bootBuiltins (Str.ofString ty) = some (.type ty) := by
  simp only [List.mem_cons, List.not_mem_nil, or_false] at h
  rcases h with rfl | rfl | rfl | rfl | rfl | rfl
  · exact boot_int
  · exact boot_bool
  · exact boot_str
  · exact boot_tuple
  · exact boot_list
  · exact boot_dict
theorem q_isi (ty : String) (he : PE X e (tE X.K cl W m)) (z : X.mg "isinstance" = none) (z2 : X.mg (Str.ofString ty) = none) (hty : ty ∈ ["int", "bool", "str", "tuple", "list", "dict"] := by decide) (hg : Gl X "isinstance" := by rfl) (hg2 : Gl X (Str.ofString ty) := by rfl)
    (hn2 : (Str.ofString ty) ≠ "__name__" := by decide) (hdb2 : (Str.ofString ty == ("__debug__" : Str)) = false := by decide)
    (hst : starEach [e, .Name (Str.ofString ty) p2] X.env = (false, eval e X.env) :: starEach [.Name (Str.ofString ty) p2] X.env := by rfl) (hst2 : starEach [.Name (Str.ofString ty) p2] X.env = (false, eval (.Name (Str.ofString ty) p2) X.env) :: starEach [] X.env := by rfl) (hpl : (backTo pos (starEach [.Name (Str.ofString ty) p2] X.env)).any (·.1) = false := by rfl) :
    PE X (.Call (.Name "isinstance" p) [e, .Name (Str.ofString ty) p2] [] pos) (tE X.K cl W (mUn (fIsi ty) m)) := k_isi hty he hg z hg2 z2 (bootTy ty hty) boot_isinstance hn2 hdb2 hst hst2 hpl
theorem q_glob {x : Str} {t : T} {v : V} {u : Value} (hm : X.mg x = some u) (rv : RelV v u) (r : ∀ ω, Rep X.K ω t v) (hg : Gl X x := by rfl) (hd : (x == ("__debug__" : Str)) = false := by decide) : PE X (.Name x pos) (tE X.K cl W (mC t)) := k_const (pe_glob hg hm rv hd) r
end
def Con (K : PySem.W.Frag) (mg : Str → Option Value) (x : Str) (t : T) : Prop := ∃ v u, mg x = some u ∧ RelV v u ∧ ∀ ω, Rep K ω t v
theorem q_con {X : Cx} {W : WX} {cl : Nat → Addr} {x : Str} {t : T} {pos : Pos} (h : Con X.K X.mg x t) (hg : Gl X x := by rfl) (hd : (x == ("__debug__" : Str)) = false := by decide) : PE X (.Name x pos) (tE X.K cl W (mC t)) := by
  obtain ⟨v, u, a, b, c⟩ := h
  exact q_glob a b c hg hd
theorem con_ints {K : PySem.W.Frag} {mg : Str → Option Value} {x : Str} {ns : List Int} (hm : mg x = some (.ref (He.ga K x))) (h : He.tupB K x (ns.map He.Dv.int) = true) : Con K mg x (.tup (ns.map T.int)) := by
  refine ⟨.ref (He.ga K x), _, hm, rfl, fun ω => ?_⟩
  simp only [Rep]
  refine ⟨_, _, rfl, He.tupB_ok h ω.Phi, ?_⟩
  clear h
  induction ns with
  | nil => exact Reps.nil
  | cons n r ih => exact Reps.cons rep_int ih
theorem con_int {K : PySem.W.Frag} {mg : Str → Option Value} {x : Str} {i : Int} (h : ∃ t, mg x = some (.int i t)) : Con K mg x (.int i) := by
  obtain ⟨t, h⟩ := h
  exact ⟨.int i, _, h, ⟨t, rfl⟩, fun ω => rep_int⟩
theorem con_str {K : PySem.W.Frag} {mg : Str → Option Value} {x z : Str} (h : ∃ t, mg x = some (.str z t)) : Con K mg x (.str z) := by
  obtain ⟨t, h⟩ := h
  exact ⟨.str z, _, h, ⟨t, rfl⟩, fun ω => rep_str⟩
def fNeg : F1
  | .int i, _ => some (.int (-i))
  | _, _ => none
section
variable {X : Cx} {cl : Nat → Addr} {W : WX} {e : Expr} {m : M T} {mb : M Bool} {pos : Pos}
theorem q_neg (he : PE X e (tE X.K cl W m)) : PE X (.UnaryOp .USub e pos) (tE X.K cl W (mUn fNeg m)) := by
  refine (pe_un un_neg he).weak fun σ H Q ⟨env, h, ω, he, hs, q⟩ => ⟨env, h, ω, he, hs, (PostG.bind q).mono fun t h1 ω1 H1 N1 S1 q1 v r => ?_⟩
  obtain ⟨u, e1, q2⟩ := q1.ofO
  cases t with
  | int i =>
    cases e1
    exact ⟨i, r.int_inv, q2 ω1 H1 (Nx.refl _ _) S1 _ rep_int⟩
  | _ => cases e1
theorem kts_nil : PTs X [] (tT X.K cl W mYes) := ⟨fun pins s σ H Q I ⟨env, h, ω, _, S, q⟩ => pts_nil.run pins s σ H Q I (q ω H (Nx.refl _ _) S)⟩
end
end Sm
namespace Sm
open PySem PySem.Spec PyProof.Rows L2
def Out.wp {α : Type} (o : Out α) (Q : α → Store → Prop) (X : Ex → Store → Prop) : Prop := match o with
  | .ok a h => Q a h
  | .ex e h => X e h
  | .bad => False
structure Pst where
  nx : Env' → Store → Prop
  rt : T → Store → Prop
  bk : Env' → Store → Prop
  ct : Env' → Store → Prop
  ex : Ex → Env' → Store → Prop
def SO.wp (o : SO) (P : Pst) : Prop := match o with
  | .nx e h => P.nx e h
  | .rt t h => P.rt t h
  | .bk e h => P.bk e h
  | .ct e h => P.ct e h
  | .ex x e h => P.ex x e h
  | .bad => False
section
variable {α β : Type} {Q : α → Store → Prop} {X : Ex → Store → Prop} {P : Pst} {env : Env'} {h : Store}
@[simp] theorem wp_ok {a : α} : (Out.ok a h).wp Q X = Q a h := rfl
@[simp] theorem wp_ex {e : Ex} : (Out.ex e h : Out α).wp Q X = X e h := rfl
@[simp] theorem wp_bad : (Out.bad : Out α).wp Q X = False := rfl
theorem wp_bind {o : Out β} {k : β → Store → Out α} : (o.bind k).wp Q X = o.wp (fun a h => (k a h).wp Q X) X := by cases o <;> rfl
@[simp] theorem so_nx : (SO.nx env h).wp P = P.nx env h := rfl
@[simp] theorem so_rt {t : T} : (SO.rt t h).wp P = P.rt t h := rfl
@[simp] theorem so_bk : (SO.bk env h).wp P = P.bk env h := rfl
@[simp] theorem so_ct : (SO.ct env h).wp P = P.ct env h := rfl
@[simp] theorem so_ex {e : Ex} : (SO.ex e env h).wp P = P.ex e env h := rfl
@[simp] theorem so_bad : SO.bad.wp P = False := rfl
theorem so_seq {o : SO} {k : MS} : (o.seq k).wp P = o.wp { P with nx := fun e h => (k e h).wp P } := by cases o <;> rfl
theorem so_bindE {o : Out β} {k : β → Store → SO} : (bindE o env k).wp P = o.wp (fun a h => (k a h).wp P) (fun e h => P.ex e env h) := by cases o <;> rfl
theorem Out.wp_mono {o : Out α} {Q' : α → Store → Prop} {X' : Ex → Store → Prop} (q : o.wp Q X) (f : ∀ a h, Q a h → Q' a h) (g : ∀ e h, X e h → X' e h) : o.wp Q' X' := by
  cases o with
  | ok a h => exact f a h q
  | ex e h => exact g e h q
  | bad => exact q
theorem Out.wp_eq {o : Out α} {a : α} (q : o.wp (fun b h' => b = a ∧ h' = h) (fun _ _ => False)) : o = .ok a h := by
  cases o with
  | ok b h' => obtain ⟨rfl, rfl⟩ := q; rfl
  | ex e h' => exact q.elim
  | bad => exact q.elim
theorem Out.wp_eq' {o : Out α} {a : α} {h1 : Store} (q : o.wp (fun b h' => b = a ∧ h' = h1) (fun _ _ => False)) : o = .ok a h1 := by
  cases o with
  | ok b h' => obtain ⟨rfl, rfl⟩ := q; rfl
  | ex e h' => exact q.elim
  | bad => exact q.elim
theorem SO.wp_mono {o : SO} {P' : Pst} (q : o.wp P) (n : ∀ e h, P.nx e h → P'.nx e h) (r : ∀ t h, P.rt t h → P'.rt t h) (b : ∀ e h, P.bk e h → P'.bk e h) (c : ∀ e h, P.ct e h → P'.ct e h) (x : ∀ z e h, P.ex z e h → P'.ex z e h) : o.wp P' := by
  cases o with
  | nx e h => exact n e h q
  | rt t h => exact r t h q
  | bk e h => exact b e h q
  | ct e h => exact c e h q
  | ex z e h => exact x z e h q
  | bad => exact q
@[simp] theorem wp_ite {c : Prop} [Decidable c] {a : T} {Q : T → Store → Prop} : (Out.ofO (if c then some a else none) h).wp Q X = (c ∧ Q a h) := by
  by_cases k : c
  · rw [if_pos k, eq_true k]; simp
  · rw [if_neg k, eq_false k]; simp [Out.wp, Out.ofO]
@[simp] theorem wp_iteB {c : Prop} [Decidable c] {o : Out α} : (if c then o else Out.bad).wp Q X = (c ∧ o.wp Q X) := by
  by_cases k : c
  · rw [if_pos k, eq_true k, true_and]
  · rw [if_neg k, eq_false k, false_and]; rfl
@[simp] theorem so_iteB {c : Prop} [Decidable c] {o : SO} : (if c then o else SO.bad).wp P = (c ∧ o.wp P) := by
  by_cases k : c
  · rw [if_pos k, eq_true k, true_and]
  · rw [if_neg k, eq_false k, false_and]; rfl
theorem forLoop_wp {gs : List (Nat × List T)} {tg : Tgt} {kill : List Nat} {body : MS} (items : List T) (I : Nat → Env' → Store → Prop)
    (step : ∀ i x env h, items[i]? = some x → I i env h → gsOk h gs ∧ ∃ env1, bindT tg x env = some env1 ∧
      (body env1 h).wp { nx := fun e h => I (i + 1) (dropE kill e) h, ct := fun e h => I (i + 1) (dropE kill e) h, bk := P.nx, rt := P.rt, ex := P.ex })
    (last : ∀ env h, I items.length env h → gsOk h gs ∧ P.nx env h) (h0 : I 0 env h) : (forLoop gs tg kill body items env h).wp P := by
  have key : ∀ (r : List T) (i : Nat) (env : Env') (h : Store), items.drop i = r → i ≤ items.length → I i env h → (forLoop gs tg kill body r env h).wp P := by
    intro r
    induction r with
    | nil =>
      intro i env h e hi hI
      have hl : i = items.length := by
        have := congrArg List.length e
        rw [List.length_drop] at this
        simp at this
        omega
      subst hl
      obtain ⟨g, p⟩ := last env h hI
      unfold forLoop
      rw [if_pos g]
      exact p
    | cons x r ih =>
      intro i env h e hi hI
      have hx : items[i]? = some x := by
        have := congrArg (·[0]?) e
        simpa using this
      have hlt : i < items.length := (List.getElem?_eq_some_iff.mp hx).1
      obtain ⟨g, env1, b1, w⟩ := step i x env h hx hI
      have er : items.drop (i + 1) = r := by
        rw [← List.drop_drop, e]
        rfl
      unfold forLoop
      rw [if_pos g, b1]
      show SO.wp (match body env1 h with
        | .nx env2 h2 => forLoop gs tg kill body r (dropE kill env2) h2
        | .ct env2 h2 => forLoop gs tg kill body r (dropE kill env2) h2
        | .bk env2 h2 => .nx env2 h2
        | o => o) P
      revert w
      cases body env1 h with
      | nx e2 h2 => exact fun w => ih (i + 1) _ _ er hlt w
      | ct e2 h2 => exact fun w => ih (i + 1) _ _ er hlt w
      | bk e2 h2 => exact fun w => w
      | rt t h2 => exact fun w => w
      | ex z e2 h2 => exact fun w => w
      | bad => exact fun w => w
  exact key items 0 env h rfl (Nat.zero_le _) h0
theorem compLoop_wp {Q : List T → Store → Prop} {gs : List (Nat × List T)} {tg : Tgt} {tt : M Bool} {me : M T} (items : List T) (I : Nat → List T → Store → Prop)
    (step : ∀ i x acc h, items[i]? = some x → acc.length ≤ i → I i acc h → gsOk h gs ∧ ∃ env1, bindT tg x env = some env1 ∧ (tt env1 h).wp (fun b h1 => if b = true then (me env1 h1).wp (fun y h2 => I (i + 1) (acc ++ [y]) h2) (fun _ _ => False) else I (i + 1) acc h1) (fun _ _ => False))
    (last : ∀ acc h, I items.length acc h → gsOk h gs ∧ Q acc h) (hn : items.length ≤ 100000) (h0 : I 0 [] h) : (compLoop gs tg tt me env items [] h).wp Q X := by
  have key : ∀ (r : List T) (i : Nat) (acc : List T) (h : Store), items.drop i = r → i ≤ items.length → acc.length ≤ i → I i acc h → (compLoop gs tg tt me env r acc h).wp Q X := by
    intro r
    induction r with
    | nil =>
      intro i acc h e hi _ hI
      have hl : i = items.length := by
        have := congrArg List.length e
        rw [List.length_drop] at this
        simp at this
        omega
      subst hl
      obtain ⟨g, p⟩ := last acc h hI
      unfold compLoop
      rw [if_pos g]
      exact p
    | cons x r ih =>
      intro i acc h e hi ha hI
      have hx : items[i]? = some x := by
        have := congrArg (·[0]?) e
        simpa using this
      have hlt : i < items.length := (List.getElem?_eq_some_iff.mp hx).1
      obtain ⟨g, env1, b1, w⟩ := step i x acc h hx ha hI
      have er : items.drop (i + 1) = r := by
        rw [← List.drop_drop, e]
        rfl
      unfold compLoop
      rw [if_pos g, b1]
      show ((tt env1 h).bindN _).wp Q X
      revert w
      cases tt env1 h with
      | bad => exact fun w => w.elim
      | ex z h1 => exact fun w => w.elim
      | ok b h1 =>
        intro w
        have w : if b = true then (me env1 h1).wp (fun y h2 => I (i + 1) (acc ++ [y]) h2) (fun _ _ => False) else I (i + 1) acc h1 := w
        show Out.wp (if b = true then _ else _) Q X
        cases b with
        | false =>
          rw [if_neg Bool.false_ne_true] at w ⊢
          exact ih (i + 1) acc h1 er hlt (by omega) w
        | true =>
          rw [if_pos rfl] at w ⊢
          revert w
          cases me env1 h1 with
          | bad => exact fun w => w.elim
          | ex z h2 => exact fun w => w.elim
          | ok y h2 =>
            intro w
            show Out.wp (if acc.length < 100000 then _ else _) Q X
            rw [if_pos (by omega)]
            exact ih (i + 1) (acc ++ [y]) h2 er hlt (by rw [List.length_append]; simp; omega) w
  exact key items 0 [] h rfl (Nat.zero_le _) (Nat.le_refl _) h0
theorem compLoop_pure {gs : List (Nat × List T)} {tg : Tgt} {tt : M Bool} {me : M T} (items : List T) (p : T → Bool) (f : T → T) (g : gsOk h gs) (hn : items.length ≤ 100000)
    (el : ∀ x ∈ items, ∃ env1, bindT tg x env = some env1 ∧ tt env1 h = .ok (p x) h ∧ (p x = true → me env1 h = .ok (f x) h)) : compLoop gs tg tt me env items [] h = .ok ((items.filter p).map f) h := by
  have key : ∀ (r acc : List T), (∀ x ∈ r, ∃ env1, bindT tg x env = some env1 ∧ tt env1 h = .ok (p x) h ∧ (p x = true → me env1 h = .ok (f x) h)) → acc.length + r.length ≤ 100000 → compLoop gs tg tt me env r acc h = .ok (acc ++ (r.filter p).map f) h := by
    intro r
    induction r with
    | nil =>
      intro acc _ _
      unfold compLoop
      rw [if_pos g]
      simp
    | cons x r ih =>
      intro acc hel hl
      rw [List.length_cons] at hl
      obtain ⟨env1, b1, t1, m1⟩ := hel x (List.mem_cons_self ..)
      unfold compLoop
      rw [if_pos g, b1]
      show (tt env1 h).bindN _ = _
      rw [t1, bindN_ok]
      cases hp : p x with
      | false =>
        rw [if_neg Bool.false_ne_true, ih acc (fun y hy => hel y (List.mem_cons_of_mem _ hy)) (by omega), List.filter_cons_of_neg (by rw [hp]; exact Bool.false_ne_true)]
      | true =>
        rw [if_pos rfl, m1 hp, bindN_ok, if_pos (by omega), ih (acc ++ [f x]) (fun y hy => hel y (List.mem_cons_of_mem _ hy)) (by rw [List.length_append]; simp; omega), List.filter_cons_of_pos hp]
        simp
  have := key items [] el (by simpa using hn)
  simpa using this
theorem compLoop_map {gs : List (Nat × List T)} {tg : Tgt} {me : M T} (items : List T) (f : T → T) (g : gsOk h gs) (hn : items.length ≤ 100000)
    (el : ∀ x ∈ items, ∃ env1, bindT tg x env = some env1 ∧ me env1 h = .ok (f x) h) : compLoop gs tg mYes me env items [] h = .ok (items.map f) h := by
  have := compLoop_pure (tg := tg) (tt := mYes) (me := me) (env := env) (h := h) items (fun _ => true) f g hn fun x hx => let ⟨e, a, b⟩ := el x hx; ⟨e, a, rfl, fun _ => b⟩
  rw [this, List.filter_eq_self.mpr fun _ _ => rfl]
theorem whileL_wp {c : M Bool} {kill : List Nat} {body : MS} (I : Nat → Env' → Store → Prop)
    (step : ∀ n env h, I n env h → (c env h).wp (fun b h1 => if b = true then (body env h1).wp { nx := fun e h => ∃ m, m < n ∧ I m (dropE kill e) h, ct := fun e h => ∃ m, m < n ∧ I m (dropE kill e) h, bk := P.nx, rt := P.rt, ex := P.ex } else P.nx env h1) (fun e h1 => P.ex e env h1))
    (n : Nat) (h0 : I n env h) : (whileL c kill body env h).wp P := by
  induction n using Nat.strongRecOn generalizing env h with
  | ind n ih =>
    have w := step n env h h0
    rw [whileL_eq]
    unfold wStep
    revert w
    cases c env h with
    | bad => exact fun w => w
    | ex e h1 => exact fun w => w
    | ok b h1 =>
      intro w
      have w : if b = true then (body env h1).wp { nx := fun e h => ∃ m, m < n ∧ I m (dropE kill e) h, ct := fun e h => ∃ m, m < n ∧ I m (dropE kill e) h, bk := P.nx, rt := P.rt, ex := P.ex } else P.nx env h1 := w
      cases b with
      | false => rwa [if_neg Bool.false_ne_true] at w
      | true =>
        rw [if_pos rfl] at w
        show SO.wp (match (match body env h1 with
          | .nx env2 h2 => WS.go (dropE kill env2) h2
          | .ct env2 h2 => WS.go (dropE kill env2) h2
          | .bk env2 h2 => WS.out (.nx env2 h2)
          | o => WS.out o) with
          | .out o => o
          | .go env2 h2 => whileL c kill body env2 h2) P
        revert w
        cases body env h1 with
        | bad => exact fun w => w
        | nx e2 h2 => exact fun ⟨m, lt, i⟩ => ih m lt i
        | ct e2 h2 => exact fun ⟨m, lt, i⟩ => ih m lt i
        | bk e2 h2 => exact fun w => w
        | rt t h2 => exact fun w => w
        | ex e e2 h2 => exact fun w => w
def fnP (h : Store) (Q : T → Store → Prop) (X : Ex → Store → Prop) : Pst where
  nx _ h' := sameIns h h' ∧ Q .non (h'.take h.length)
  rt t h' := sameIns h h' ∧ ((t.pu = true ∧ Q t (h'.take h.length)) ∨ (t.pu = false ∧ ∃ t', frz h.length h' t = some t' ∧ Q t' (h'.take h.length)))
  bk _ _ := False
  ct _ _ := False
  ex e _ h' := sameIns h h' ∧ e.pu = true ∧ X e (h'.take h.length)
def fnK (Q : T → Store → Prop) (X : Ex → Store → Prop) : Pst where
  nx _ h' := Q .non h'
  rt t h' := Q t h'
  bk _ _ := False
  ct _ _ := False
  ex e _ h' := X e h'
theorem retF_wp {Q : T → Store → Prop} {h h' : Store} {t : T} (s : sameIns h h') (q : (t.pu = true ∧ Q t (h'.take h.length)) ∨ (t.pu = false ∧ ∃ t', frz h.length h' t = some t' ∧ Q t' (h'.take h.length))) : (retF h t h').wp Q X := by
  unfold retF
  rw [if_pos s]
  obtain ⟨a, b⟩ | ⟨a, t', b, c⟩ := q
  · rw [if_pos a]
    exact b
  · rw [if_neg (by rw [a]; exact Bool.false_ne_true), b]
    exact c
theorem fn_wp {Q : T → Store → Prop} {n k : Nat} {body : MS} {ts : List T} (hl : ts.length = n) (w : (body (startE k ts) h).wp (fnP h Q X)) : (fn n k false body ts h).wp Q X := by
  unfold fn
  rw [if_pos hl]
  revert w
  cases body (startE k ts) h with
  | bad => exact fun w => w
  | bk e h' => exact fun w => w
  | ct e h' => exact fun w => w
  | nx e h' => exact fun ⟨s, q⟩ => retF_wp s (.inl ⟨rfl, q⟩)
  | rt t h' => exact fun ⟨s, q⟩ => retF_wp s q
  | ex e e' h' =>
    intro ⟨s, p, q⟩
    show Out.wp (if _ then _ else _) Q X
    rw [if_pos ⟨s, p⟩]
    exact q
theorem fnK_wp {Q : T → Store → Prop} {n k : Nat} {body : MS} {ts : List T} (hl : ts.length = n) (w : (body (startE k ts) h).wp (fnK Q X)) : (fn n k true body ts h).wp Q X := by
  unfold fn
  rw [if_pos hl]
  revert w
  cases body (startE k ts) h with
  | bad => exact fun w => w
  | bk e h' => exact fun w => w
  | ct e h' => exact fun w => w
  | nx e h' => exact fun w => w
  | rt t h' => exact fun w => w
  | ex e e' h' => exact fun w => w
end
section
variable {h h' : Store} {n : Nat}
theorem si_refl : sameIns h h := fun _ _ _ _ e => e
theorem si_app (l : Store) (a : sameIns h h') (hl : h'.length = h.length) : sameIns h (h' ++ l) := fun i c fs hi e => a i c fs hi (by rwa [List.getElem?_append_left (by omega)] at e)
theorem si_set {xs : List T} (a : sameIns h h') : sameIns h (h'.set n (.lst xs)) := fun i c fs hi e => by
  by_cases hn : n = i
  · subst hn
    rw [List.getElem?_set_self' ] at e
    cases hh : h'[n]? with
    | none => rw [hh] at e; cases e
    | some z => rw [hh] at e; cases e
  · rw [List.getElem?_set_ne hn] at e
    exact a i c fs hi e
def potAt (h : Store) (n : Nat) (v : Int) : Prop := h[n]? = some (.lst [.int v]) ∧ 0 ≤ v
theorem potAt.lt {v : Int} (p : potAt h n v) : n < h.length := (List.getElem?_eq_some_iff.mp p.1).1
theorem potAt.set {v w : Int} (p : potAt h n v) (hw : 0 ≤ w) : potAt (h.set n (.lst [.int w])) n w := ⟨List.getElem?_set_self p.lt, hw⟩
theorem potAt.app {v : Int} (p : potAt h n v) (l : Store) : potAt (h ++ l) n v := ⟨by rw [List.getElem?_append_left p.lt]; exact p.1, p.2⟩
end
section
variable {α : Type} {ts : List α}
theorem ixN_p {n : Nat} {i : Int} (h : 0 ≤ i) (hn : i < n) : ixN n i = some i.toNat := by
  unfold ixN
  simp [h, hn]
theorem atI_p {i : Int} (h : 0 ≤ i) (hn : i < ts.length) : atI ts i = ts[i.toNat]? := by
  unfold atI
  rw [ixN_p h hn]
  rfl
@[simp] theorem atI_0 {x : α} : atI (x :: ts) 0 = some x := by rw [atI_p (by decide) (by simp only [List.length_cons]; omega)]; rfl
@[simp] theorem atI_1 {x y : α} : atI (x :: y :: ts) 1 = some y := by rw [atI_p (by decide) (by simp only [List.length_cons]; omega)]; rfl
@[simp] theorem atI_2 {x y z : α} : atI (x :: y :: z :: ts) 2 = some z := by rw [atI_p (by decide) (by simp only [List.length_cons]; omega)]; rfl
@[simp] theorem atI_3 {x y z w : α} : atI (x :: y :: z :: w :: ts) 3 = some w := by rw [atI_p (by decide) (by simp only [List.length_cons]; omega)]; rfl
end
theorem mulB_r {i j : Int} (h : j.natAbs < 2 ^ 64) : mulB i j = true := by
  have : Builtin.Int.intBits j ≤ 64 := by
    unfold Builtin.Int.intBits
    split
    · omega
    · rename_i z
      have z' : j.natAbs ≠ 0 := by
        intro e
        apply z
        simp [Int.natAbs_eq_zero.mp e]
      have := (Nat.log2_lt z').mpr h
      omega
  unfold mulB
  have e : decide (Builtin.Int.intBits j > shortFactorBits) = false := by
    apply decide_eq_false
    show ¬ _ > 64
    omega
  rw [e, Bool.and_false, Bool.false_and]
  rfl
theorem mulB_l {i j : Int} (h : i.natAbs < 2 ^ 64) : mulB i j = true := by
  have := mulB_r (i := j) h
  unfold mulB at this ⊢
  rw [Bool.and_comm (decide (Builtin.Int.intBits i > _)), Int.add_comm]
  exact this
theorem divB_s {j : Int} (h0 : j ≠ 0) (h : j.natAbs < 2 ^ 64) : divB j = true := by
  unfold divB
  have z' : j.natAbs ≠ 0 := by omega
  have := (Nat.log2_lt z').mpr h
  rw [decide_eq_true h0, decide_eq_true (by omega)]
  rfl
theorem fdiv_p {i j : Int} (h : 0 ≤ j) : i.fdiv j = i / j := Int.fdiv_eq_ediv_of_nonneg i h
theorem fmod_p {i j : Int} (h : 0 ≤ j) : i.fmod j = i % j := Int.fmod_eq_emod_of_nonneg i h
end Sm
namespace Sm
open PySem PySem.Spec PyProof.Rows L2
section
variable {env : Env'} {h : Store} {m n p : M T} {r : M (List T)} {c d : M Bool} {a b : MS} {i j : Nat} {f : F2} {g : FA}
@[simp] theorem q1_var : mVar i env h = match env[i]? with
  | some (some t) => .ok t h
  | _ => .bad := rfl
@[simp] theorem q1_C {t : T} : mC t env h = .ok t h := rfl
@[simp] theorem q1_bin : mBin f m n env h = (m env h).bind fun a h1 => (n env h1).bind fun b h2 => Out.ofO (f a b h2) h2 := rfl
@[simp] theorem q1_un {f : F1} : mUn f m env h = (m env h).bind fun a h1 => Out.ofO (f a h1) h1 := rfl
def asB : T → Store → Out Bool
  | .bl b, h => .ok b h
  | _, _ => .bad
@[simp] theorem asB_bl {b : Bool} : asB (.bl b) h = .ok b h := rfl
@[simp] theorem q1_tst : mTst m env h = (m env h).bind asB := by
  unfold mTst
  cases m env h with
  | ok t h1 => cases t <;> rfl
  | _ => rfl
@[simp] theorem q1_tru : mTru m env h = (m env h).bind fun a h1 => Out.ofO (truF a h1) h1 := rfl
@[simp] theorem q1_andT : mAndT c d env h = (c env h).bind fun a h1 => if a = true then d env h1 else .ok false h1 := rfl
@[simp] theorem q1_orT : mOrT c d env h = (c env h).bind fun a h1 => if a = true then .ok true h1 else d env h1 := rfl
@[simp] theorem q1_notT : mNotT c env h = (c env h).bind fun a h1 => .ok (!a) h1 := rfl
@[simp] theorem q1_andV : mAndV m n env h = ((m env h).bind asB).bind fun a h1 => if a = true then n env h1 else .ok (.bl false) h1 := by
  unfold mAndV
  cases m env h with
  | ok t h1 => cases t <;> rfl
  | _ => rfl
@[simp] theorem q1_orV : mOrV m n env h = ((m env h).bind asB).bind fun a h1 => if a = true then .ok (.bl true) h1 else n env h1 := by
  unfold mOrV
  cases m env h with
  | ok t h1 => cases t <;> rfl
  | _ => rfl
@[simp] theorem q1_notV : mNotV m env h = ((m env h).bind asB).bind fun a h1 => .ok (.bl (!a)) h1 := by
  unfold mNotV
  cases m env h with
  | ok t h1 => cases t <;> rfl
  | _ => rfl
@[simp] theorem q1_if : mIf c m n env h = (c env h).bind fun a h1 => if a = true then m env h1 else n env h1 := rfl
@[simp] theorem q1_chain {g : F2} : mChain f g m n p env h = (m env h).bind fun a h1 => (n env h1).bind fun b h2 => ((Out.ofO (f a b h2) h2).bind asB).bind fun c h3 => if c = true then (p env h3).bind fun d h4 => Out.ofO (g b d h4) h4 else .ok (.bl false) h3 := by
  unfold mChain
  congr 1
  funext a h1
  congr 1
  funext b h2
  cases Out.ofO (f a b h2) h2 with
  | ok t h1 => cases t <;> rfl
  | _ => rfl
@[simp] theorem q1_nil : mNil env h = .ok [] h := rfl
@[simp] theorem q1_cons : mCons m r env h = (m env h).bind fun a h1 => (r env h1).bind fun as h2 => .ok (a :: as) h2 := rfl
@[simp] theorem q1_tup : mTup r env h = (r env h).bind fun ts h1 => if ts.length ≤ 10000 then .ok (.tup ts) h1 else .bad := rfl
@[simp] theorem q1_lst : mLst r env h = (r env h).bind fun ts h1 => if ts.length ≤ 10000 then .ok ts h1 else .bad := rfl
@[simp] theorem q1_frz : mFrz r env h = (r env h).bind fun ts h1 => .ok (.lst ts) h1 := rfl
@[simp] theorem q1_cell : mCell r env h = (r env h).bind fun ts h1 => if pus ts = true then .ok (.loc h1.length) (h1 ++ [.lst ts]) else .bad := rfl
@[simp] theorem q1_new2 {f : T → T → Store → Option (List T)} : mNew2 f m n env h = (m env h).bind fun a h1 => (n env h1).bind fun b h2 => Out.ofO (f a b h2) h2 := rfl
@[simp] theorem q1_newA {f : List T → Store → Option (List T)} : mNewA f r env h = (r env h).bind fun as h1 => Out.ofO (f as h1) h1 := rfl
@[simp] theorem q1_callF : mCallF g r env h = (r env h).bind fun as h1 => Out.ofO (g as h1) h1 := rfl
@[simp] theorem q1_call {F : Fn} : mCall F r env h = (r env h).bind fun as h1 => F as h1 := rfl
@[simp] theorem q1_meth {f : FM} : mMethL f m r env h = (m env h).bind fun a h1 => match lstOf h1 a with
  | some _ => (r env h1).bind fun as h2 => outM (f a as h2)
  | none => .bad := rfl
@[simp] theorem q1_sl {lo hi : M (Option Int)} : mSl m lo hi env h = (m env h).bind fun a h1 => (lo env h1).bind fun l h2 => (hi env h2).bind fun u h3 => Out.ofO (fSl a l u h3) h3 := rfl
@[simp] theorem q1_part0 : mPart none env h = .ok none h := rfl
def asI : T → Store → Out (Option Int)
  | .int b, h => .ok (some b) h
  | _, _ => .bad
@[simp] theorem asI_int {b : Int} : asI (.int b) h = .ok (some b) h := rfl
@[simp] theorem q1_part1 : mPart (some m) env h = (m env h).bind asI := by
  show (m env h).bind _ = _
  cases m env h with
  | ok t h1 => cases t <;> rfl
  | _ => rfl
@[simp] theorem q1_yes : mYes env h = .ok true h := rfl
def asR1 : List T → Store → Out Src
  | [.int j], h => if j < 1000000 ∧ -1000000 < j then .ok ⟨rangeT 0 j.toNat, []⟩ h else .bad
  | _, _ => .bad
def asR2 : List T → Store → Out Src
  | [.int i, .int j], h => if i < 1000000 ∧ -1000000 < i ∧ j < 1000000 ∧ -1000000 < j then .ok ⟨rangeT i (j - i).toNat, []⟩ h else .bad
  | _, _ => .bad
@[simp] theorem q1_range1 : mRange1 r env h = (r env h).bind asR1 := by
  unfold mRange1
  congr 1
  funext as h1
  rcases as with _ | ⟨a, _ | ⟨b, l⟩⟩
  · rfl
  · cases a <;> rfl
  · cases a <;> rfl
@[simp] theorem q1_range2 : mRange2 r env h = (r env h).bind asR2 := by
  unfold mRange2
  congr 1
  funext as h1
  rcases as with _ | ⟨a, _ | ⟨b, _ | ⟨c, l⟩⟩⟩
  · rfl
  · cases a <;> rfl
  · cases a <;> cases b <;> rfl
  · cases a <;> cases b <;> rfl
theorem asR1_ok {k : Int} (a : k < 1000000) (b : -1000000 < k) : asR1 [.int k] h = .ok ⟨rangeT 0 k.toNat, []⟩ h := if_pos ⟨a, b⟩
theorem asR2_ok {k l : Int} (a : k < 1000000) (b : -1000000 < k) (c : l < 1000000) (d : -1000000 < l) : asR2 [.int k, .int l] h = .ok ⟨rangeT k (l - k).toNat, []⟩ h := if_pos ⟨a, b, c, d⟩
def asS : T → Store → Out Src
  | .str z, h => .ok ⟨z.cps.toList.map fun c => .str ⟨#[c]⟩, []⟩ h
  | t, h => match seqK h t with
    | some (_, xs) => .ok ⟨xs, gdOf h t⟩ h
    | none => .bad
@[simp] theorem q1_seqS : mSeq m env h = (m env h).bind asS := by
  unfold mSeq
  cases m env h with
  | ok t h1 => cases t <;> rfl
  | _ => rfl
@[simp] theorem asS_tup {xs : List T} : asS (.tup xs) h = .ok ⟨xs, []⟩ h := rfl
@[simp] theorem asS_lst {xs : List T} : asS (.lst xs) h = .ok ⟨xs, []⟩ h := rfl
@[simp] theorem q2_nil : sNil env h = .nx env h := rfl
@[simp] theorem q2_seq : sSeq a b env h = (a env h).seq b := rfl
@[simp] theorem q2_ret : sRet m env h = bindE (m env h) env fun t h1 => .rt t h1 := rfl
@[simp] theorem q2_retN : sRetN env h = .rt .non h := rfl
@[simp] theorem q2_exp : sExp m env h = bindE (m env h) env fun _ h1 => .nx env h1 := rfl
@[simp] theorem q2_if : sIf c a b env h = bindE (c env h) env fun k h1 => if k = true then a env h1 else b env h1 := rfl
@[simp] theorem q2_set : sSet i m env h = bindE (m env h) env fun t h1 => .nx (env.set i (some t)) h1 := rfl
@[simp] theorem q2_asg {g : Tgt} : sAsg g m env h = bindE (m env h) env fun t h1 => match bindT g t env with
  | some env1 => .nx env1 h1
  | none => .bad := rfl
@[simp] theorem q2_par : sPar i j m n env h = bindE (m env h) env fun t h1 => bindE (n env h1) env fun u h2 => .nx ((env.set i (some t)).set j (some u)) h2 := rfl
@[simp] theorem q2_brk : sBreak env h = .bk env h := rfl
@[simp] theorem q2_cnt : sCont env h = .ct env h := rfl
def setC (h : Store) (n : Nat) (k : Int) (v : T) (env : Env') : SO := match cellL h n with
  | some xs => match ixN xs.length k with
    | some j => if v.pu = true then .nx env (h.set n (.lst (xs.set j v))) else .bad
    | none => .bad
  | none => .bad
def asLK : T → T → (Nat → Int → SO) → SO
  | .loc n, .int k, q => q n k
  | _, _, _ => .bad
@[simp] theorem asLK_ok {n : Nat} {k : Int} {q : Nat → Int → SO} : asLK (.loc n) (.int k) q = q n k := rfl
@[simp] theorem q2_item {mo mi : M T} : sItem m mo mi env h = bindE (m env h) env fun v h1 => bindE (mo env h1) env fun a h2 => bindE (mi env h2) env fun i h3 => asLK a i fun n k => setC h3 n k v env := by
  unfold sItem
  congr 1
  funext v h1
  congr 1
  funext a h2
  congr 1
  funext i h3
  cases a <;> cases i <;> rfl
theorem setC_ok {n : Nat} {k : Int} {v : T} {xs : List T} (e : h[n]? = some (.lst xs)) (h0 : 0 ≤ k) (h1 : k < xs.length) (hv : v.pu = true) : setC h n k v env = .nx env (h.set n (.lst (xs.set k.toNat v))) := by
  unfold setC cellL
  rw [e]
  simp [ixN_p h0 h1, hv]
end
section
variable {x y : Int} {h : Store} {s t : T} {b : Bool}
@[simp] theorem q3_add : fAdd (.int x) (.int y) h = some (.int (x + y)) := rfl
@[simp] theorem q3_sub : fSub (.int x) (.int y) h = some (.int (x - y)) := rfl
@[simp] theorem q3_mul : fMul (.int x) (.int y) h = if mulB x y = true then some (.int (x * y)) else none := rfl
@[simp] theorem q3_fdiv : fFdiv (.int x) (.int y) h = if divB y = true then some (.int (x.fdiv y)) else none := rfl
@[simp] theorem q3_mod : fMod (.int x) (.int y) h = if y ≠ 0 then some (.int (x.fmod y)) else none := rfl
@[simp] theorem q3_neg : fNeg (.int x) h = some (.int (-x)) := rfl
@[simp] theorem q3_lt : fLt (.int x) (.int y) h = some (.bl (decide (x < y))) := rfl
@[simp] theorem q3_le : fLe (.int x) (.int y) h = some (.bl (decide (x ≤ y))) := rfl
@[simp] theorem q3_gt : fGt (.int x) (.int y) h = some (.bl (decide (y < x))) := rfl
@[simp] theorem q3_ge : fGe (.int x) (.int y) h = some (.bl (decide (y ≤ x))) := rfl
@[simp] theorem q3_eq : fEq (.int x) (.int y) h = some (.bl (decide (x = y))) := rfl
@[simp] theorem q3_ne : fNe (.int x) (.int y) h = some (.bl (!decide (x = y))) := rfl
@[simp] theorem q3_eqB {c : Bool} : fEq (.bl b) (.bl c) h = some (.bl (decide (b = c))) := rfl
@[simp] theorem q3_neB {c : Bool} : fNe (.bl b) (.bl c) h = some (.bl (!decide (b = c))) := rfl
@[simp] theorem q3_eqS {z w : Str} : fEq (.str z) (.str w) h = some (.bl (decide (z = w))) := rfl
@[simp] theorem q3_isN : fIs s .non h = some (.bl (isNon s)) := by cases s <;> rfl
@[simp] theorem q3_isnotN : fIsNot s .non h = some (.bl (!isNon s)) := by cases s <;> rfl
@[simp] theorem isNon_non : isNon .non = true := rfl
@[simp] theorem isNon_int : isNon (.int x) = false := rfl
@[simp] theorem isNon_bl : isNon (.bl b) = false := rfl
@[simp] theorem isNon_tup {xs : List T} : isNon (.tup xs) = false := rfl
@[simp] theorem isNon_lst {xs : List T} : isNon (.lst xs) = false := rfl
@[simp] theorem isNon_str {z : Str} : isNon (.str z) = false := rfl
@[simp] theorem isNon_loc {n : Nat} : isNon (.loc n) = false := rfl
@[simp] theorem isi_non_int : fIsi "int" .non h = some (.bl false) := rfl
@[simp] theorem isi_non_bool : fIsi "bool" .non h = some (.bl false) := rfl
@[simp] theorem isi_non_str : fIsi "str" .non h = some (.bl false) := rfl
@[simp] theorem isi_non_tuple : fIsi "tuple" .non h = some (.bl false) := rfl
@[simp] theorem isi_non_list : fIsi "list" .non h = some (.bl false) := rfl
@[simp] theorem isi_non_dict : fIsi "dict" .non h = some (.bl false) := rfl
@[simp] theorem isi_bl_int : fIsi "int" (.bl b) h = some (.bl true) := rfl
@[simp] theorem isi_bl_bool : fIsi "bool" (.bl b) h = some (.bl true) := rfl
@[simp] theorem isi_bl_str : fIsi "str" (.bl b) h = some (.bl false) := rfl
@[simp] theorem isi_bl_tuple : fIsi "tuple" (.bl b) h = some (.bl false) := rfl
@[simp] theorem isi_bl_list : fIsi "list" (.bl b) h = some (.bl false) := rfl
@[simp] theorem isi_bl_dict : fIsi "dict" (.bl b) h = some (.bl false) := rfl
@[simp] theorem isi_int_int : fIsi "int" (.int x) h = some (.bl true) := rfl
@[simp] theorem isi_int_bool : fIsi "bool" (.int x) h = some (.bl false) := rfl
@[simp] theorem isi_int_str : fIsi "str" (.int x) h = some (.bl false) := rfl
@[simp] theorem isi_int_tuple : fIsi "tuple" (.int x) h = some (.bl false) := rfl
@[simp] theorem isi_int_list : fIsi "list" (.int x) h = some (.bl false) := rfl
@[simp] theorem isi_int_dict : fIsi "dict" (.int x) h = some (.bl false) := rfl
@[simp] theorem isi_str_int {z : Str} : fIsi "int" (.str z) h = some (.bl false) := rfl
@[simp] theorem isi_str_bool {z : Str} : fIsi "bool" (.str z) h = some (.bl false) := rfl
@[simp] theorem isi_str_str {z : Str} : fIsi "str" (.str z) h = some (.bl true) := rfl
@[simp] theorem isi_str_tuple {z : Str} : fIsi "tuple" (.str z) h = some (.bl false) := rfl
@[simp] theorem isi_str_list {z : Str} : fIsi "list" (.str z) h = some (.bl false) := rfl
@[simp] theorem isi_str_dict {z : Str} : fIsi "dict" (.str z) h = some (.bl false) := rfl
@[simp] theorem isi_tup_int {xs : List T} : fIsi "int" (.tup xs) h = some (.bl false) := rfl
@[simp] theorem isi_tup_bool {xs : List T} : fIsi "bool" (.tup xs) h = some (.bl false) := rfl
@[simp] theorem isi_tup_str {xs : List T} : fIsi "str" (.tup xs) h = some (.bl false) := rfl
@[simp] theorem isi_tup_tuple {xs : List T} : fIsi "tuple" (.tup xs) h = some (.bl true) := rfl
@[simp] theorem isi_tup_list {xs : List T} : fIsi "list" (.tup xs) h = some (.bl false) := rfl
@[simp] theorem isi_tup_dict {xs : List T} : fIsi "dict" (.tup xs) h = some (.bl false) := rfl
@[simp] theorem isi_lst_int {xs : List T} : fIsi "int" (.lst xs) h = some (.bl false) := rfl
@[simp] theorem isi_lst_bool {xs : List T} : fIsi "bool" (.lst xs) h = some (.bl false) := rfl
@[simp] theorem isi_lst_str {xs : List T} : fIsi "str" (.lst xs) h = some (.bl false) := rfl
@[simp] theorem isi_lst_tuple {xs : List T} : fIsi "tuple" (.lst xs) h = some (.bl false) := rfl
@[simp] theorem isi_lst_list {xs : List T} : fIsi "list" (.lst xs) h = some (.bl true) := rfl
@[simp] theorem isi_lst_dict {xs : List T} : fIsi "dict" (.lst xs) h = some (.bl false) := rfl
@[simp] theorem q3_len {xs : List T} : fLen [.tup xs] h = some (.int xs.length) := rfl
@[simp] theorem q3_lenL {xs : List T} : fLen [.lst xs] h = some (.int xs.length) := rfl
@[simp] theorem q3_lenS {ns : List Int} : fLen [.scr ns] h = some (.int ns.length) := by
  show some (T.int ((ns.map T.int).length : Nat)) = _
  rw [List.length_map]
theorem q3_lenC {n : Nat} {xs : List T} (e : h[n]? = some (.lst xs)) : fLen [.loc n] h = some (.int xs.length) := by
  simp [fLen, e]
@[simp] theorem q3_idx {xs : List T} : fIdx (.tup xs) (.int x) h = atI xs x := rfl
@[simp] theorem q3_idxL {xs : List T} : fIdx (.lst xs) (.int x) h = atI xs x := rfl
@[simp] theorem q3_idxS {ns : List Int} : fIdx (.scr ns) (.int x) h = atI (ns.map T.int) x := rfl
theorem q3_idxC {n : Nat} {xs : List T} (e : h[n]? = some (.lst xs)) : fIdx (.loc n) (.int x) h = atI xs x := by
  simp [fIdx, e]
@[simp] theorem q3_int : fInt [.int x] h = some (.int x) := rfl
@[simp] theorem pu_int : (T.int x).pu = true := rfl
@[simp] theorem pu_bl : (T.bl b).pu = true := rfl
@[simp] theorem pu_non : T.non.pu = true := rfl
@[simp] theorem pu_str {z : Str} : (T.str z).pu = true := rfl
@[simp] theorem pu_loc {n : Nat} : (T.loc n).pu = false := rfl
@[simp] theorem pu_tup {xs : List T} : (T.tup xs).pu = pus xs := by simp only [T.pu]
@[simp] theorem pu_lst {xs : List T} : (T.lst xs).pu = pus xs := by simp only [T.pu]
@[simp] theorem pus_nil : pus [] = true := by simp only [pus]
@[simp] theorem pus_cons {xs : List T} : pus (s :: xs) = (s.pu && pus xs) := by simp only [pus]
@[simp] theorem pus_ints {ns : List Int} : pus (ns.map T.int) = true := by induction ns <;> simp_all
theorem pus_iff {xs : List T} : pus xs = true ↔ ∀ x ∈ xs, x.pu = true := by induction xs <;> simp_all
@[simp] theorem b_one {i : Nat} {env : Env'} : bindT (.one i) t env = some (env.set i (some t)) := rfl
@[simp] theorem b_tup {is : List Nat} {ts : List T} {env : Env'} : bindT (.tup is) (.tup ts) env = if ts.length = is.length then some (setT is ts env) else none := rfl
@[simp] theorem drop_nil {env : Env'} : dropE [] env = env := rfl
@[simp] theorem drop_cons {v : Nat} {vs : List Nat} {env : Env'} : dropE (v :: vs) env = (dropE vs env).set v none := rfl
end
section
variable {h l : Store} {n : Nat} {c d : Cell}
@[simp] theorem take_set_self : (h.set n c).take h.length = h.set n c := by
  apply List.take_of_length_le
  rw [List.length_set]
  exact Nat.le_refl _
@[simp] theorem take_set_app : (h.set n c ++ l).take h.length = h.set n c := by
  have e : h.length = (h.set n c).length := List.length_set.symm
  rw [e]
  exact List.take_left
theorem at_end {m : Nat} (e : h.length = m) : (h ++ [c])[m]? = some c := by subst e; simp
theorem set_end {m : Nat} (e : h.length = m) : (h ++ [c]).set m d = h ++ [d] := by subst e; simp
theorem set_old (e : n < h.length) : (h ++ l).set n d = h.set n d ++ l := List.set_append_left _ _ e
theorem si_setR {xs : List T} : sameIns h (h.set n (.lst xs)) := si_set si_refl
theorem si_appR : sameIns h (h ++ l) := si_app l si_refl rfl
theorem si_setA {xs : List T} : sameIns h (h.set n (.lst xs) ++ l) := si_app l si_setR List.length_set
end
def pst (h : Store) (n : Nat) (v : Int) : Store := h.set n (.lst [.int v])
section
variable {h l : Store} {n m : Nat} {v w : Int} {c d : Cell} {env : Env'} {xs ys : List T} {y : T}
@[simp] theorem pst_len : (pst h n v).length = h.length := List.length_set
@[simp] theorem pst_pst : pst (pst h n v) n w = pst h n w := List.set_set ..
theorem pst_app (e : n < h.length) : pst (h ++ l) n w = pst h n w ++ l := set_old e
theorem pst_app2 (e : n < h.length) : pst (pst h n v ++ l) n w = pst h n w ++ l := by rw [pst_app (by rw [pst_len]; exact e), pst_pst]
@[simp] theorem take_pst : (pst h n v).take h.length = pst h n v := take_set_self
@[simp] theorem take_pst_app : (pst h n v ++ l).take h.length = pst h n v := take_set_app
@[simp] theorem si_pst : sameIns h (pst h n v) := si_setR
@[simp] theorem si_pst_app : sameIns h (pst h n v ++ l) := si_setA
@[simp] theorem si_self : sameIns h h := si_refl
@[simp] theorem si_more : sameIns h (h ++ l) := si_appR
theorem potAt.pst (p : potAt h n v) (hw : 0 ≤ w) : potAt (pst h n w) n w := p.set hw
theorem potAt.old (p : n < h.length) (hw : 0 ≤ w) : potAt (Sm.pst h n w) n w := ⟨List.getElem?_set_self p, hw⟩
theorem setP (p : potAt h n v) : setC h n 0 (.int w) env = .nx env (pst h n w) := setC_ok p.1 (by decide) (by simp) rfl
@[simp] theorem q4_append (e : h[n]? = some (.lst xs)) (hl : xs.length < 100000) (hy : y.pu = true) : outM (fAppend (.loc n) [y] h) = .ok .non (h.set n (.lst (xs ++ [y]))) := by
  simp [fAppend, cellL, e, hl, hy, outM]
theorem e_append (e : h.length = m) (hl : xs.length < 100000) (hy : y.pu = true) : outM (fAppend (.loc m) [y] (h ++ [.lst xs])) = .ok .non (h ++ [.lst (xs ++ [y])]) := by
  rw [q4_append (at_end e) hl hy, set_end e]
theorem e_tup (e : h.length = m) : fTuple [.loc m] (h ++ [.lst xs]) = some (.tup xs) := by simp [fTuple, at_end e]
theorem e_len (e : h.length = m) : fLen [.loc m] (h ++ [.lst xs]) = some (.int xs.length) := q3_lenC (at_end e)
theorem e_idx {x : Int} (e : h.length = m) : fIdx (.loc m) (.int x) (h ++ [.lst xs]) = atI xs x := q3_idxC (at_end e)
theorem e_set {k : Int} (e : h.length = m) (h0 : 0 ≤ k) (h1 : k < xs.length) (hy : y.pu = true) : setC (h ++ [.lst xs]) m k y env = .nx env (h ++ [.lst (xs.set k.toNat y)]) := by
  rw [setC_ok (at_end e) h0 h1 hy, set_end e]
theorem tup_loc (e : h[n]? = some (.lst xs)) : fTuple [.loc n] h = some (.tup xs) := by simp [fTuple, e]
@[simp] theorem tup_lst : fTuple [.lst xs] h = some (.tup xs) := by simp [fTuple]
@[simp] theorem pus_app : pus (xs ++ ys) = (pus xs && pus ys) := pus_append ..
end
theorem bls_map {α : Type} (p : α → Bool) (l : List α) : blsOf? (l.map fun x => T.bl (p x)) = some (l.map p) := by
  induction l with
  | nil => rfl
  | cons x r ih => simp [blsOf?, ih]
theorem ints_map (ns : List Int) : intsOf? (ns.map T.int) = some ns := by
  induction ns with
  | nil => rfl
  | cons x r ih => simp [intsOf?, ih]
theorem all_map {α : Type} {h : Store} (p : α → Bool) (l : List α) : fAll [.lst (l.map fun x => T.bl (p x))] h = some (.bl (l.all p)) := by
  simp [fAll, bls_map]
@[simp] theorem list_tup {h : Store} {xs : List T} : fList [.tup xs] h = some xs := rfl
@[simp] theorem list_lst {h : Store} {xs : List T} : fList [.lst xs] h = some xs := rfl
theorem add_tup {h : Store} {xs ys : List T} (c : xs.length + ys.length ≤ 100000) : fAdd (.tup xs) (.tup ys) h = some (.tup (xs ++ ys)) := if_pos c
theorem add_lst {h : Store} {xs ys : List T} (c : xs.length + ys.length ≤ 100000) : fAdd (.lst xs) (.lst ys) h = some (.lst (xs ++ ys)) := by simp [fAdd, c]
theorem rep_one {t : T} (k : Nat) : (List.replicate k [t]).flatten = List.replicate k t := by
  induction k with
  | zero => rfl
  | succ k ih => rw [List.replicate_succ, List.flatten_cons, ih]; rfl
theorem mul_one {h : Store} {t : T} {k : Int} (c1 : k < 100000) (c2 : -100000 < k) : fMul (.lst [t]) (.int k) h = some (.lst (List.replicate k.toNat t)) := by
  simp [fMul, rep_one, c1, c2]
@[simp] theorem pus_rep {k : Nat} {t : T} : pus (List.replicate k t) = (decide (k = 0) || t.pu) := by
  induction k with
  | zero => rfl
  | succ k ih => rw [List.replicate_succ, pus_cons, ih]; cases t.pu <;> simp
@[simp] theorem si_nil {h : Store} : sameIns [] h := fun i c fs hi _ => absurd hi (Nat.not_lt_zero i)
theorem range_at {a : Int} {n i : Nat} {x : T} (e : (rangeT a n)[i]? = some x) : x = .int (a + i) ∧ i < n := by
  unfold rangeT at e
  rw [List.getElem?_map] at e
  by_cases hi : i < n
  · rw [List.getElem?_range hi] at e
    exact ⟨(Option.some.inj e).symm, hi⟩
  · rw [List.getElem?_eq_none (by rw [List.length_range]; omega)] at e
    cases e
end Sm
namespace Sm
open PySem PySem.Spec PyProof.Rows L2
def okD : Nat → T → Prop
  | _, .non => True
  | _, .bl _ => True
  | _, .int _ => True
  | _, .str x => PyData.strOk x = true
  | n + 1, .tup xs => ∀ x ∈ xs, okD n x
  | n + 1, .lst xs => ∀ x ∈ xs, okD n x
  | _, _ => False
@[simp] theorem okD_loc {n m : Nat} : okD n (.loc m) = False := by cases n <;> simp [okD]
@[simp] theorem okD_scr {n : Nat} {ns : List Int} : okD n (.scr ns) = False := by cases n <;> simp [okD]
@[simp] theorem okD_dct {n : Nat} {ks : List Str} {ts : List T} : okD n (.dct ks ts) = False := by cases n <;> simp [okD]
@[simp] theorem okD_fnc {n : Nat} {x : Str} : okD n (.fnc x) = False := by cases n <;> simp [okD]
@[simp] theorem okD_adr {n : Nat} {a d : Addr} {f : Str} {ts : List T} : okD n (.adr a d f ts) = False := by cases n <;> simp [okD]
@[simp] theorem okD_emp {n : Nat} : okD n .emp = False := by cases n <;> simp [okD]
@[simp] theorem okD_int {n : Nat} {i : Int} : okD n (.int i) = True := by cases n <;> simp [okD]
@[simp] theorem okD_bl {n : Nat} {b : Bool} : okD n (.bl b) = True := by cases n <;> simp [okD]
@[simp] theorem okD_non {n : Nat} : okD n .non = True := by cases n <;> simp [okD]
@[simp] theorem okD_str {n : Nat} {z : Str} : okD n (.str z) = (PyData.strOk z = true) := by cases n <;> simp [okD]
@[simp] theorem okD_tup {n : Nat} {xs : List T} : okD (n + 1) (.tup xs) = ∀ x ∈ xs, okD n x := by simp [okD]
@[simp] theorem okD_lst {n : Nat} {xs : List T} : okD (n + 1) (.lst xs) = ∀ x ∈ xs, okD n x := by simp [okD]
theorem atI_mem {α : Type} {xs : List α} {i : Int} (h0 : 0 ≤ i) (h1 : i < xs.length) : ∃ x, atI xs i = some x ∧ x ∈ xs := by
  have hl : i.toNat < xs.length := by omega
  exact ⟨xs[i.toNat], by rw [atI_p h0 h1, List.getElem?_eq_getElem hl], List.getElem_mem hl⟩
@[simp] theorem q3_max {i j : Int} {h : Store} : fMax [.int i, .int j] h = some (.int (if j > i then j else i)) := rfl
@[simp] theorem q3_min {i j : Int} {h : Store} : fMin [.int i, .int j] h = some (.int (if j < i then j else i)) := rfl
@[simp] theorem q3_intB {b : Bool} {h : Store} : fInt [.bl b] h = some (.int (if b then 1 else 0)) := rfl
@[simp] theorem truF_bl {b : Bool} {h : Store} : truF (.bl b) h = some b := rfl
@[simp] theorem q3_isB {a b : Bool} {h : Store} : fIs (.bl a) (.bl b) h = some (.bl (decide (a = b))) := rfl
@[simp] theorem q3_isnotB {a b : Bool} {h : Store} : fIsNot (.bl a) (.bl b) h = some (.bl (!decide (a = b))) := rfl
@[simp] theorem q3_powI {i j : Int} {h : Store} : fPow (.int i) (.int j) h = if 0 ≤ j ∧ j ≤ 100000 ∧ i.natAbs < 2 ^ 64 then some (.int (i ^ j.toNat)) else none := rfl
theorem cut_to {xs : List T} {k : Int} (h : 0 ≤ k) : cutT xs none (some k) = xs.take k.toNat := by
  unfold cutT HT.sIx
  simp only [Int.not_lt.mpr h, if_false, List.drop_zero, Nat.sub_zero]
  by_cases c : k.toNat ≤ xs.length
  · rw [Nat.min_eq_left c]
  · rw [Nat.min_eq_right (by omega), List.take_length, List.take_of_length_le (by omega)]
@[simp] theorem sl_tup {xs : List T} {lo hi : Option Int} {h : Store} : fSl (.tup xs) lo hi h = some (.tup (cutT xs lo hi)) := rfl
@[simp] theorem sl_lst {xs : List T} {lo hi : Option Int} {h : Store} : fSl (.lst xs) lo hi h = some (.lst (cutT xs lo hi)) := rfl
end Sm
namespace Sm
open PySem PySem.Spec PyProof.Rows L2
def mEmp : M T := fun _ h => .ok .emp h
@[simp] theorem q1_emp {env : Env'} {h : Store} : mEmp env h = .ok .emp h := rfl
theorem rgV_reps {K : PySem.W.Frag} {ω : Wd} (a b : Int) : Reps K ω (rangeT a (b - a).toNat) (rgV a b) := by
  unfold rangeT rgV
  generalize List.range (b - a).toNat = l
  induction l with
  | nil => exact Reps.nil
  | cons i r ih => exact Reps.cons rep_int ih
def mTupR (r : M (List T)) : M T := fun env h => (r env h).bind fun as h1 => (asR2 as h1).bind fun s h2 => .ok (.tup s.items) h2
def mLstR (r : M (List T)) : M (List T) := fun env h => (r env h).bind fun as h1 => (asR2 as h1).bind fun s h2 => .ok s.items h2
def mZero (m : M T) : M (List T) := fun env h => (m env h).bind fun a h1 => .ok [.int 0, a] h1
def mTwo (m n : M T) : M (List T) := fun env h => (m env h).bind fun a h1 => (n env h1).bind fun b h2 => .ok [a, b] h2
@[simp] theorem q1_tupR {r : M (List T)} {env : Env'} {h : Store} : mTupR r env h = (r env h).bind fun as h1 => (asR2 as h1).bind fun s h2 => .ok (.tup s.items) h2 := rfl
@[simp] theorem q1_lstR {r : M (List T)} {env : Env'} {h : Store} : mLstR r env h = (r env h).bind fun as h1 => (asR2 as h1).bind fun s h2 => .ok s.items h2 := rfl
@[simp] theorem q1_zero {m : M T} {env : Env'} {h : Store} : mZero m env h = (m env h).bind fun a h1 => .ok [.int 0, a] h1 := rfl
@[simp] theorem q1_two {m n : M T} {env : Env'} {h : Store} : mTwo m n env h = (m env h).bind fun a h1 => (n env h1).bind fun b h2 => .ok [a, b] h2 := rfl
section
variable {X : Cx} {cl : Nat → Addr} {W : WX} {e a b : Expr} {m n : M T} {r : M (List T)} {p p2 pos pos2 : Pos}
theorem k_emp : PE X (.Dict [] [] pos) (tE X.K cl W mEmp) := pe_dnewK.weak fun σ H Q ⟨env, h, ω, he, S, q⟩ p hp => by
  refine q _ _ (nx_newF S hp) (S.newF hp) _ ?_
  simp only [Rep]
  exact ⟨p, rfl, upd_same⟩
def tR (K : PySem.W.Frag) (cl : Nat → Addr) (W : WX) (r : M (List T)) : L2.St → Hp → (Int → Int → Hp → Prop) → Prop := fun σ H Q => ∃ env h ω, EnvOk K ω env σ ∧ StOk K cl ω h H ∧
  PostG K cl W ω H σ (r env h) fun as h1 ω1 H1 => ∃ i j, as = [.int i, .int j] ∧ Q i j H1
theorem prg_weak {t t' : L2.St → Hp → (Int → Int → Hp → Prop) → Prop} (h : PRg X e t) (w : ∀ σ H Q, t' σ H Q → t σ H Q) : PRg X e t' := fun pins s σ H Q I q => h pins s σ H Q I (w σ H Q q)
theorem kr_1 (hg : Gl X "range") (hm : X.mg "range" = none) (ha : PE X a (tE X.K cl W m)) (na : starEach [a] X.env = (false, eval a X.env) :: starEach [] X.env := by rfl) : PRg X (.Call (.Name "range" p) [a] [] pos) (tR X.K cl W (mZero m)) :=
  prg_weak (prg_1 hg hm ha na) fun σ H Q ⟨env, h, ω, he, S, q⟩ => ⟨env, h, ω, he, S, (PostG.bind q).mono fun t h1 ω1 H1 N1 S1 q1 v r => by
    obtain ⟨i, j, e, q2⟩ := q1 ω1 H1 (Nx.refl _ _) S1
    cases e
    exact ⟨j, r.int_inv, q2⟩⟩
theorem rg_ok {i j : Int} (c : i < 1000000 ∧ -1000000 < i ∧ j < 1000000 ∧ -1000000 < j) : RgOk i j := ⟨by omega, by omega, by omega, by omega, by omega⟩
theorem asR2_inv {as : List T} {h : Store} {R : Src → Store → Prop} {X : Ex → Store → Prop} (q : (asR2 as h).wp R X) : ∃ i j, as = [.int i, .int j] ∧ (i < 1000000 ∧ -1000000 < i ∧ j < 1000000 ∧ -1000000 < j) ∧ asR2 as h = .ok ⟨rangeT i (j - i).toNat, []⟩ h := by
  unfold asR2 at q ⊢
  split at q
  · rename_i i j
    by_cases c : i < 1000000 ∧ -1000000 < i ∧ j < 1000000 ∧ -1000000 < j
    · exact ⟨i, j, rfl, c, if_pos c⟩
    · rw [if_neg c] at q; exact q.elim
  · exact q.elim
theorem k_tupR (hc : X.calm = true) (z : X.mg "tuple" = none) (he : PRg X e (tR X.K cl W r)) (hg : Gl X "tuple" := by rfl) (na : starEach [e] X.env = (false, eval e X.env) :: starEach [] X.env := by rfl) :
    PE X (.Call (.Name "tuple" p) [e] [] pos) (tE X.K cl W (mTupR r)) := by
  refine (pe_tupRg hc hg z he na).weak fun σ H Q ⟨env, h, ω, he, S, q⟩ => ⟨env, h, ω, he, S, (PostG.bind q).mono fun as h1 ω1 H1 N1 S1 q1 => ?_⟩
  have w : (asR2 as h1).wp (fun _ _ => True) (fun _ _ => True) := by
    revert q1
    cases asR2 as h1 with
    | bad => exact fun z => z
    | ok a h => exact fun _ => trivial
    | ex e h => exact fun _ => trivial
  obtain ⟨i, j, e, c, e2⟩ := asR2_inv w
  rw [e2] at q1
  refine ⟨i, j, e, rg_ok c, fun p hp => ?_⟩
  refine q1 _ _ (nx_newF S1 hp) (S1.newF hp) _ ?_
  simp only [Rep]
  exact ⟨p, _, rfl, SqT.of upd_same, rgV_reps i j⟩
end
@[simp] theorem isi_emp_int {h : Store} : fIsi "int" .emp h = some (.bl false) := rfl
@[simp] theorem isi_emp_bool {h : Store} : fIsi "bool" .emp h = some (.bl false) := rfl
@[simp] theorem isi_emp_str {h : Store} : fIsi "str" .emp h = some (.bl false) := rfl
@[simp] theorem isi_emp_tuple {h : Store} : fIsi "tuple" .emp h = some (.bl false) := rfl
@[simp] theorem isi_emp_list {h : Store} : fIsi "list" .emp h = some (.bl false) := rfl
@[simp] theorem isi_emp_dict {h : Store} : fIsi "dict" .emp h = some (.bl true) := rfl
@[simp] theorem isNon_emp : isNon .emp = false := rfl
@[simp] theorem pu_emp : T.emp.pu = true := rfl
mutual
def T.plain : T → Bool
  | .loc _ => false
  | .scr _ => false
  | .adr _ _ _ _ => false
  | .dct _ _ => false
  | .fnc _ => false
  | .tup xs => plains xs
  | .lst xs => plains xs
  | _ => true
def plains : List T → Bool
  | [] => true
  | x :: r => x.plain && plains r
end
@[simp] theorem plain_non : T.non.plain = true := rfl
@[simp] theorem plain_bl {b : Bool} : (T.bl b).plain = true := rfl
@[simp] theorem plain_int {i : Int} : (T.int i).plain = true := rfl
@[simp] theorem plain_str {z : Str} : (T.str z).plain = true := rfl
@[simp] theorem pu_adr {a d : Addr} {f : Str} {ts : List T} : (T.adr a d f ts).pu = false := rfl
@[simp] theorem pu_fnc {x : Str} : (T.fnc x).pu = false := rfl
@[simp] theorem isNon_fnc {x : Str} : isNon (.fnc x) = false := rfl
@[simp] theorem plain_fnc {x : Str} : (T.fnc x).plain = false := rfl
@[simp] theorem isNon_adr {a d : Addr} {f : Str} {ts : List T} : isNon (.adr a d f ts) = false := rfl
@[simp] theorem plain_adr {a d : Addr} {f : Str} {ts : List T} : (T.adr a d f ts).plain = false := rfl
@[simp] theorem plain_emp : T.emp.plain = true := rfl
@[simp] theorem plain_dct {ks : List Str} {ts : List T} : (T.dct ks ts).plain = false := rfl
@[simp] theorem isNon_dct {ks : List Str} {ts : List T} : isNon (.dct ks ts) = false := rfl
@[simp] theorem plain_loc {n : Nat} : (T.loc n).plain = false := rfl
@[simp] theorem plain_scr {ns : List Int} : (T.scr ns).plain = false := rfl
@[simp] theorem plain_tup {xs : List T} : (T.tup xs).plain = plains xs := by simp only [T.plain]
@[simp] theorem plain_lst {xs : List T} : (T.lst xs).plain = plains xs := by simp only [T.plain]
@[simp] theorem plains_nil : plains [] = true := by simp only [plains]
@[simp] theorem plains_cons {x : T} {r : List T} : plains (x :: r) = (x.plain && plains r) := by simp only [plains]
theorem plains_iff {xs : List T} : plains xs = true ↔ ∀ x ∈ xs, x.plain = true := by induction xs <;> simp_all
@[simp] theorem plains_app {xs ys : List T} : plains (xs ++ ys) = (plains xs && plains ys) := by
  induction xs with
  | nil => simp
  | cons x r ih => simp [ih, Bool.and_assoc]
mutual
theorem plain_pu : ∀ {t : T}, t.plain = true → t.pu = true
  | .non, _ => rfl
  | .bl _, _ => rfl
  | .int _, _ => rfl
  | .str _, _ => rfl
  | .emp, _ => rfl
  | .loc _, h => by simp at h
  | .adr _ _ _ _, h => by simp at h
  | .dct _ _, h => by simp at h
  | .fnc _, h => by simp at h
  | .scr _, h => by simp at h
  | .tup xs, h => by rw [pu_tup]; rw [plain_tup] at h; exact plains_pus h
  | .lst xs, h => by rw [pu_lst]; rw [plain_lst] at h; exact plains_pus h
theorem plains_pus : ∀ {ts : List T}, plains ts = true → pus ts = true
  | [], _ => pus_nil
  | x :: r, h => by
    rw [plains_cons, Bool.and_eq_true] at h
    rw [pus_cons, plain_pu h.1, plains_pus h.2]
    rfl
end
end Sm
namespace Sm
open PySem PySem.Spec PyProof.Rows L2
def putT (f : Str) (t : T) : List (Str × T) → List (Str × T)
  | [] => [(f, t)]
  | (g, x) :: r => if g = f then (g, t) :: r else (g, x) :: putT f t r
section
variable {K : PySem.W.Frag} {cl : Nat → Addr} {ω : Wd} {h : Store} {H : Hp} {f : Str} {t : T} {v : V}
theorem RepKV.putS (hv : Rep K ω t v) : ∀ {a : List (Str × T)} {b : List (Str × V)}, RepKV K ω a b → RepKV K ω (putT f t a) (putF f v b)
  | [], _, r => by
    cases (show _ = [] from r)
    exact ⟨v, [], rfl, hv, rfl⟩
  | (g, x) :: l, _, ⟨y, m, e, r1, r2⟩ => by
    subst e
    unfold putT putF
    by_cases c : g = f
    · rw [if_pos c, if_pos c]
      exact ⟨v, m, rfl, hv, r2⟩
    · rw [if_neg c, if_neg c]
      exact ⟨y, _, rfl, r1, RepKV.putS hv r2⟩
theorem RepKV.look : ∀ {a : List (Str × T)} {b : List (Str × V)}, RepKV K ω a b → a.lookup f = some t → ∃ v, b.lookup f = some v ∧ Rep K ω t v
  | [], _, r, e => by cases e
  | (g, x) :: l, _, ⟨y, m, q, r1, r2⟩, e => by
    subst q
    unfold List.lookup at e ⊢
    cases c : f == g with
    | true =>
      rw [c] at e
      cases e
      exact ⟨y, rfl, r1⟩
    | false =>
      rw [c] at e
      exact RepKV.look r2 e
theorem RepKV.lookN : ∀ {a : List (Str × T)} {b : List (Str × V)}, RepKV K ω a b → a.lookup f = none → b.lookup f = none
  | [], _, r, e => by
    cases (show _ = [] from r)
    rfl
  | (g, x) :: l, _, ⟨y, m, q, r1, r2⟩, e => by
    subst q
    unfold List.lookup at e ⊢
    cases c : f == g with
    | true =>
      rw [c] at e
      cases e
    | false =>
      rw [c] at e
      exact RepKV.lookN r2 e
theorem RepKV.size {κ : Type} : ∀ {a : List (κ × T)} {b : List (κ × V)}, RepKV K ω a b → a.length = b.length
  | [], _, r => by
    cases (show _ = [] from r)
    rfl
  | (g, x) :: l, _, ⟨y, m, q, r1, r2⟩ => by
    subst q
    rw [List.length_cons, List.length_cons, RepKV.size r2]
def insOf (c : Nat) (h : Store) : T → Option (Nat × List (Str × T))
  | .loc n => match h[n]? with
    | some (.ins c' fs) => if c' = c then some (n, fs) else none
    | _ => none
  | _ => none
theorem insOf_ok {c n : Nat} {fs : List (Str × T)} (S : StOk K cl ω h H) (r : Rep K ω t v) (e : insOf c h t = some (n, fs)) : t = .loc n ∧ h[n]? = some (.ins c fs) ∧ ∃ p dx l, v = .ref p ∧ ω.rho[n]? = some p ∧ H p = some (.ins (cl c) dx l) ∧ RepKV K ω fs l := by
  cases t with
  | loc m =>
    simp only [insOf] at e
    cases hm : h[m]? with
    | none => rw [hm] at e; cases e
    | some z =>
      rw [hm] at e
      cases z with
      | ins c' gs =>
        simp only at e
        obtain ⟨ec, e2⟩ := ne_ite e
        cases e2
        subst ec
        simp only [Rep] at r
        obtain ⟨p, rfl, q⟩ := r
        obtain ⟨dx, l, a, b⟩ := S.cells _ _ p hm q
        exact ⟨rfl, hm, p, dx, l, rfl, q, a, b⟩
      | _ => cases e
  | _ => cases e
end
def mFld (c : Nat) (f : Str) (m : M T) : M T := fun env h => (m env h).bind fun a h1 => Out.ofO ((insOf c h1 a).bind fun p => p.2.lookup f) h1
def sFld (c : Nat) (f : Str) (mv mo : M T) : MS := fun env h => bindE (mv env h) env fun v h1 => bindE (mo env h1) env fun a h2 => match insOf c h2 a with
  | some (n, fs) => if fs.length < 900 then .nx env (h2.set n (.ins c (putT f v fs))) else .bad
  | none => .bad
def mMeth (c : Nat) (nm : Str) (F : Fn) (mo : M T) (r : M (List T)) : M T := fun env h => (mo env h).bind fun a h1 => match insOf c h1 a with
  | some (_, fs) => if (fs.lookup nm).isNone = true then (r env h1).bind fun as h2 => F (a :: as) h2 else .bad
  | none => .bad
def mNew (c : Nat) (F : Fn) (r : M (List T)) : M T := fun env h => (r env h).bind fun as h1 => (F (.loc h1.length :: as) (h1 ++ [.ins c []])).bind fun t h2 => match t with
  | .non => .ok (.loc h1.length) h2
  | _ => .bad
structure CalM (P : Program) (w : World) (K : PySem.W.Frag) (mg : Str → Option Value) (base : Heap) (cl : Nat → Addr) (c : Nat) (x : Str) (j : Nat) (ps : List Str) (F : Fn) (n : Nat) : Prop where
  cls : Cls K (cl c)
  ex : ∃ f fd, FnOk P w K mg base (L2N.CX P w) j f fd ps (spF K cl F n) ∧ Meth K (cl c) x f ∧ Binds K fd ps []
  len : ∀ ts h, ts.length ≠ n → F ts h = .bad
structure CalI (P : Program) (w : World) (K : PySem.W.Frag) (mg : Str → Option Value) (base : Heap) (cl : Nat → Addr) (c : Nat) (x : Str) (j : Nat) (ps : List Str) (F : Fn) (n : Nat) : Prop where
  ex : ∃ f fd, FnOk P w K mg base (L2N.CX P w) j f fd ps (spF K cl F n) ∧ Mk K (cl c) f ∧ mg x = some (.ref (cl c)) ∧ Binds K fd ps []
  len : ∀ ts h, ts.length ≠ n → F ts h = .bad
def Flat (W : WX) : Prop := ∀ cls d σ σ' H, W cls d σ H → W cls d σ' H
section
variable {X : Cx} {cl : Nat → Addr} {W : WX} {o e ev : Expr} {es : List Expr} {m mo mv : M T} {r : M (List T)} {F : Fn} {c j k n : Nat} {x f : Str} {ps : List Str} {p pos apos pos' : Pos}
theorem k_fld (c : Nat) (f : Str) (hc : Cls X.K (cl c)) (hn : NoAttr X.K (cl c) f) (he : PE X e (tE X.K cl W m)) (hb : attributeBase e f X.env (eval e X.env) = eval e X.env := by rfl) : PE X (.Attribute e f pos) (tE X.K cl W (mFld c f m)) := by
  refine (pe_fld he hb).weak fun σ H Q ⟨env, h, ω, he, hs, q⟩ => ⟨env, h, ω, he, hs, (PostG.bind q).mono fun t h1 ω1 H1 N1 S1 q1 v rv => ?_⟩
  obtain ⟨u, e1, q2⟩ := q1.ofO
  rw [Option.bind_eq_some_iff] at e1
  obtain ⟨⟨n, fs⟩, e2, e3⟩ := e1
  obtain ⟨rfl, hn', q, dx, l, rfl, e4, e5, r5⟩ := insOf_ok S1 rv e2
  obtain ⟨w, e6, r6⟩ := r5.look e3
  exact ⟨q, cl c, dx, l, w, rfl, e5, hc, hn, e6, q2 ω1 H1 (Nx.refl _ _) S1 w r6⟩
theorem ks_fld (c : Nat) (f : Str) (hc : Cls X.K (cl c)) (hn : NoAttr X.K (cl c) f) (hv : PE X ev (tE X.K cl W mv)) (ho : PE X o (tE X.K cl W mo)) (hs : swapsWith ev (some (.Attribute o f pos')) pos.line X.env = pure false := by rfl) :
    PS X (.Assign [.Attribute o f pos'] ev pos) (tS X.K cl W (sFld c f mv mo)) := by
  refine (ps_fld ho hv hs).weak fun D σ H ⟨env, h, ω, he, hs, q⟩ => ⟨env, h, ω, he, hs, (PostS.bindE he q).mono fun t h1 ω1 H1 N1 S1 q1 v rv => ⟨env, h1, ω1, he.mono N1.toGr, S1, (PostS.bindE (he.mono N1.toGr) q1).mono fun a h2 ω2 H2 N2 S2 q2 w rw' => ?_⟩⟩
  cases e1 : insOf c h2 a with
  | none => rw [e1] at q2; exact q2.elim
  | some nf =>
    obtain ⟨n, fs⟩ := nf
    rw [e1] at q2
    obtain ⟨rfl, hn', p, dx, l, rfl, e4, e5, r5⟩ := insOf_ok S2 rw' e1
    by_cases hl : fs.length < 900
    · simp only [if_pos hl] at q2
      refine ⟨p, cl c, dx, l, rfl, e5, hc, hn, by rw [← r5.size]; omega, ?_⟩
      have rv2 := rv.mono N2.toGr
      refine q2 ω2 _ σ (nx_put S2 e4) (S2.put hn' (fun z => by cases z) e4 (c := .ins c (putT f t fs)) ⟨dx, _, upd_same, r5.putS rv2⟩) ((he.mono N1.toGr).mono N2.toGr)
    · simp only [if_neg hl] at q2
      exact q2.elim
theorem PostG.flat {K : PySem.W.Frag} {α : Type} {ω : Wd} {H : Hp} {σ : L2.St} {o : Out α} {R : α → Store → Wd → Hp → Prop} (fl : Flat W) (q : PostG K cl W ω H σ o R) : PostG K cl (fun cls d _ H' => W cls d [] H') ω H [] o R := by
  cases o with
  | ok a h => exact q
  | ex z h => exact fun ω' H' cls d N S x => fl cls d σ [] H' (q ω' H' cls d N S x)
  | bad => exact q
end
section
variable {P : Program} {w : World} {K : PySem.W.Frag} {mg : Str → Option Value} {base : Heap} {cl : Nat → Addr}
theorem q_fnM {x qual nm : Str} {params : Arguments} {body : List Stmt} {scope : Scope} {f : Addr} {fd : FuncData} {N ps : List Str} {c k nargs nslots : Nat} {keep : Bool} {sem : MS} (F : FunD K x qual params body scope [] [] f fd) (S : FnScope N ps scope) (hn : N.length = nslots) (hps : ps.length = nargs)
    (hm : Meth K (cl c) nm f) (hc : Cls K (cl c)) (hb : Binds K fd ps [])
    (hB : ∀ (cdv : Value) (A : Around) (outer : List Env) (s : Shared) (H : Hp) (E : XK), Ok (cxOf (L2N.CX P w) P w K mg base N qual scope f cdv A outer s H E) (fun cls d _ H => E cls d H) k →
      PSs (cxOf (L2N.CX P w) P w K mg base N qual scope f cdv A outer s H E) body (tS K cl (fun cls d _ H => E cls d H) sem)) :
    CalM P w K mg base cl c nm (k + 1) ps (fn nargs nslots keep sem) nargs := ⟨hc, ⟨f, fd, q_fnF F S hn hps hB, hm, hb⟩, fn_len⟩
theorem q_fnI {x qual nm : Str} {params : Arguments} {body : List Stmt} {scope : Scope} {f : Addr} {fd : FuncData} {N ps : List Str} {c k nargs nslots : Nat} {keep : Bool} {sem : MS} (F : FunD K x qual params body scope [] [] f fd) (S : FnScope N ps scope) (hn : N.length = nslots) (hps : ps.length = nargs)
    (hm : Mk K (cl c) f) (hg : mg nm = some (.ref (cl c))) (hb : Binds K fd ps [])
    (hB : ∀ (cdv : Value) (A : Around) (outer : List Env) (s : Shared) (H : Hp) (E : XK), Ok (cxOf (L2N.CX P w) P w K mg base N qual scope f cdv A outer s H E) (fun cls d _ H => E cls d H) k →
      PSs (cxOf (L2N.CX P w) P w K mg base N qual scope f cdv A outer s H E) body (tS K cl (fun cls d _ H => E cls d H) sem)) :
    CalI P w K mg base cl c nm (k + 1) ps (fn nargs nslots keep sem) nargs := ⟨⟨f, fd, q_fnF F S hn hps hB, hm, hg, hb⟩, fn_len⟩
end
def nmC : Nat → Str
  | 0 => "Ways"
  | 1 => "Table"
  | 2 => "Bench"
  | 3 => "Desk"
  | 10 => "FractError"
  | 11 => "AtRest"
  | 12 => "TooMany"
  | 13 => "NoText"
  | 14 => "NoNumber"
  | 15 => "NoOrder"
  | 16 => "NoProgram"
  | 17 => "Shared"
  | 18 => "NoPowers"
  | 19 => "NoTrail"
  | 20 => "NoName"
  | 21 => "NoDeed"
  | 22 => "NoRow"
  | _ => "none"
def clK (K : PySem.W.Frag) (c : Nat) : Addr := He.ga K (nmC c)
section
variable {X : Cx}
theorem q_gnest {p p2 pos : Pos} {es : List Expr} {k k2 : Nat} {is : List Nat} {x : Str} (hc : X.calm = true) (nd : X.N.Nodup) (i : Nat) (h : PGs X es (gMany is)) (hi : X.N[i]? = some x := by rfl) (hx : Loc X.env.scope x := by first | exact .inl rfl | exact .inr rfl) (hf : X.fn x = true ∨ X.env.scope.names.lookup x = some .local := by first | exact .inl rfl | exact .inr rfl)
    (hn : (assignEach es X.env).length = is.length := by rfl) (hst : (assignEach es X.env).findIdx? (·.1) = none := by rfl)
    (hs : (assignEach [.Name x p, .Tuple es k2 p2] X.env).map (·.2) = assign (.Name x p) X.env :: (assignEach [.Tuple es k2 p2] X.env).map (·.2) := by rfl) (hs2 : (assignEach [.Tuple es k2 p2] X.env).map (·.2) = assign (.Tuple es k2 p2) X.env :: (assignEach [] X.env).map (·.2) := by rfl)
    (hn2 : (assignEach [.Name x p, .Tuple es k2 p2] X.env).length = 2 := by rfl) (hst2 : (assignEach [.Name x p, .Tuple es k2 p2] X.env).findIdx? (·.1) = none := by rfl) :
    PG X (.Tuple [.Name x p, .Tuple es k2 p2] k pos) (gT X.K (.nest i is)) := kg_nest hc nd hi hx h hf hn hst hs hs2 hn2 hst2
end
end Sm
namespace Sm
open PySem PySem.Spec PyProof.Rows L2 ClX
structure ExcF (K : PySem.W.Frag) (mg : Str → Option Value) (cl : Nat → Addr) (c : Nat) (x : Str) : Prop where
  gC : mg x = some (.ref (cl c))
  q : PySem.W.excIn K (cl c) He.veBase "ValueError.__new__" = true
  kC : PySem.W.keepIn K (.ref (cl c)) = true
  bC : PySem.W.subIn K (.ref (cl c)) (.type "BaseException") = some true
  tC : PySem.W.typeIn K (.ref (cl c)) = some (.type "type")
def sRaise (e : Ex) : MS := fun env h => .ex e env h
section
variable {X : Cx} {cl : Nat → Addr} {W : WX} {k c : Nat} {x msg : Str} {j : Nat} {p p2 p3 pos : Pos}
theorem ks_raise (co : Ok X W k) (E : ExcF X.K X.mg cl c x) (hg : Gl X x := by rfl) (hdb : (x == ("__debug__" : Str)) = false := by decide) :
    PS X (.Raise (some (.Call (.Name x p) [.Constant (.str msg) j p2] [] p3)) none pos) (tS X.K cl W (sRaise (.txt c))) :=
  (L2N.ps_raise co.calm co.tk (L2N.pmk_own PySem.F.excBase_ValueError E.q E.gC E.kC (raises_own E.bC E.tC) hg hdb)).weak fun D σ H ⟨env, h, ω, he, hs, q⟩ => q ω H σ (.ref (cl c)) none (Nx.refl _ _) hs he ⟨rfl, rfl⟩
end
structure FldF (K : PySem.W.Frag) (mg : Str → Option Value) (C B : Addr) (f b x : Str) : Prop where
  oc : OexC K C
  gC : mg x = some (.ref C)
  gB : mg b = some (.ref B)
  nf : PySem.W.findIn K (.ref C) f = some none
  rd : ∃ mc, CRead K B mc ∧ PySem.W.findCls K (.ref B) mc "__init__" = some (.val (.builtin "ValueError.__init__"))
section
variable {X : Cx} {C B : Addr} {f b x : Str} {e : Expr} {es : List Expr} {ta : TA} {p1 p2 pos : Pos}
end
def spRest (f : Str) (C : Addr) : Sp := fun vs H Q _ => ∃ (a : Addr) (v : V), vs = [.ref a, v] ∧ H a = some (exo a C none) ∧ ∀ d, H d = none → d ≠ a → Q .non (upd (upd H d (exd d [(f, v)])) a (exo a C (some d)))
section
variable {P : Program} {w : World} {mg : Str → Option Value} {base : Heap} {K : PySem.W.Frag}
end
section
variable {X : Cx} {cl : Nat → Addr} {W : WX} {k c : Nat} {x f b : Str} {e : Expr} {m : M T} {p p3 pos : Pos}
structure FldE (P : Program) (w : World) (K : PySem.W.Frag) (mg : Str → Option Value) (base : Heap) (cl : Nat → Addr) (c : Nat) (f x : Str) : Prop where
  ex : ∃ B b fI fd, FldF K mg (cl c) B f b x ∧ PySem.W.findIn K (.ref (cl c)) "__init__" = some (some (.ref fI)) ∧ PySem.W.typeIn K (.ref fI) = some (.type "function") ∧
    FnOk P w K mg base (L2N.CX P w) 1 fI fd ["self", f] (spRest f (cl c)) ∧ Binds K fd ["self", f] []
end
structure SaysY (fa : List He.Fa) (fn : List He.DefD) (ex : PySem.W.Frag → Bool) (K : PySem.W.Frag) : Prop where
  t : He.SaysD fa fn K
  more : ex K = true
def reachY (n : Nat) (g : Addr → Option Obj) : PySem.W.Frag := He.frG g (He.asD g n ++ [cStatics])
def obsY (n : Nat) (fa : List He.Fa) (fn : List He.DefD) (ex : PySem.W.Frag → Bool) (g : Addr → Option Obj) : He.AlD × Bool := (He.obsD fa fn (reachY n g), ex (reachY n g))
def hookY (n : Nat) (fa : List He.Fa) (fn : List He.DefD) (ex : PySem.W.Frag → Bool) : PySem.W.Hook where
  α := He.AlD × Bool
  obs := fun s => obsY n fa fn ex s.heap.get?
  val := fun _ => (He.valD fn, true)
  says := fun _ h => ∃ K : PySem.W.Frag, K.In h ∧ SaysY fa fn ex K
  of := fun _ _ e => ⟨_, He.frG_in, ⟨congrArg Prod.fst e, congrArg Prod.snd e⟩⟩
  keeps := fun _ _ _ ⟨K, inn, says⟩ k => ⟨K, PySem.W.Frag.In.keeps inn k, says⟩
theorem obsY_eq {n : Nat} {fa : List He.Fa} {fn : List He.DefD} {ex : PySem.W.Frag → Bool} {g : Addr → Option Obj} {s : Shared} (h : ∀ a, g a = s.heap.get? a) : obsY n fa fn ex g = (hookY n fa fn ex).obs s := by
  obtain rfl : g = s.heap.get? := funext h
  rfl
end Sm
namespace Sm
open PySem PySem.Spec PyProof.Rows L2 L2H
def blsOf : List T → Option (List Bool)
  | [] => some []
  | .bl b :: r => (blsOf r).map (b :: ·)
  | _ => none
def fCount : FM := fun a as h => match as with
  | [.bl b] => match lstOf h a with
    | some xs => (blsOf xs).map fun bs => (.int ((bs.count b : Nat) : Int), h)
    | none => none
  | _ => none
theorem blsOf_ok {K : PySem.W.Frag} {ω : Wd} : ∀ {xs : List T} {bs : List Bool} {vs : List V} {us : List Value}, blsOf xs = some bs → Reps K ω xs vs → Vals vs us → us = bs.map Value.bool
  | [], bs, vs, us, e, r, v => by
    cases e
    rw [r.nil_inv] at v
    cases v
    rfl
  | x :: xs, bs, vs, us, e, r, v => by
    cases x with
    | bl b =>
      simp only [blsOf, Option.map_eq_some_iff] at e
      obtain ⟨cs, e1, rfl⟩ := e
      obtain ⟨w, vr, rfl, r1, r2⟩ := r.inv
      cases v with
      | cons v1 v2 =>
        rw [r1.bl_inv] at v1
        cases v1
        rw [blsOf_ok e1 r2 v2]
        rfl
    | _ => cases e
def isB (b : Bool) : Value → Bool
  | .bool c => c == b
  | _ => false
theorem countB (b : Bool) : ∀ bs : List Bool, (bs.map Value.bool).countP (isB b) = bs.count b
  | [] => rfl
  | c :: r => by
    rw [List.map_cons, List.countP_cons, List.count_cons, countB b r]
    rfl
section
variable {X : Cx} {cl : Nat → Addr} {W : WX}
theorem m_count : MtR X "list.count" (rVM X.K cl fCount) := by
  intro pins s σ H x xs v us Q I rx rxs ⟨a, as, h, ω, t, h', S, ra, ras, e, q⟩
  unfold fCount at e
  split at e
  · rename_i b
    split at e
    · rename_i ys ey
      rw [Option.map_eq_some_iff] at e
      obtain ⟨bs, eb, e2⟩ := e
      cases e2
      obtain ⟨p, vs, rfl, b1, c1⟩ := lstOf_ok S ra ey
      obtain ⟨w, wr, rfl, r1, r2⟩ := ras.inv
      rw [r2.nil_inv, r1.bl_inv] at rxs
      cases rx
      cases rxs with
      | cons v1 v2 =>
        cases v1
        cases v2
        obtain ⟨its, rv, lst, _⟩ := I.list (SqL.of b1)
        obtain ⟨⟨cls, dd, dat, sl⟩, m, at_, isL, nd, isD⟩ := lst
        simp only at isL isD
        subst isL isD
        have ei := blsOf_ok eb c1 rv
        refine call_meets PySem.F.slot_list_count ⟨_, at_, rfl⟩ PySem.F.entry_list_count (PySem.F.args_list_count_2 _ _) (SeqAt.list_countAt p its.toArray m dd sl (.bool b) (isB b)) ⟨at_, fun y hy => ?_, ?_⟩
        · have hy' : y ∈ its := by simpa using hy
          rw [ei] at hy'
          obtain ⟨c, _, rfl⟩ := List.mem_map.mp hy'
          exact SeqAt.EqAt.bool_bool c b
        · refine ⟨.int ((bs.count b : Nat) : Int), H, I.tok _, ⟨s.toks, ?_⟩, q _ _ _ (Nx.refl _ _) S rep_int⟩
          show Value.int ((its.toArray.toList.countP (isB b) : Nat) : Int) s.toks = Value.int ((bs.count b : Nat) : Int) s.toks
          rw [show its.toArray.toList = bs.map Value.bool from ei, countB]
    · cases e
  · cases e
end
structure FnP (P : Program) (w : World) (K : PySem.W.Frag) (mg : Str → Option Value) (base : Heap) (k : Nat) (f : Addr) (fd : FuncData) (ps : List Str) (spp : Addr × Obj → Sp) : Prop where
  len : ∀ p vs H Q E, spp p vs H Q E → vs.length = ps.length
  run : ∀ (p : Addr × Obj) (A : Around) (outer : List Env) (s : Shared) (H : Hp) (args : Args) (us : List Value) (vs : List V) (Q : VK) (E : XK), Hot1 A p → RoomH k A → PinOk outer H s p → Env0 P w K mg base A outer s H → BindsTo s fd args (ps.zip us) → Vals vs us → spp p vs H Q E →
    codeAny (model P w) A (.call (.ref f) args) (CR (L2N.CX P w) outer P w H s Q E) s
section
variable {P : Program} {w : World} {K : PySem.W.Frag} {mg : Str → Option Value} {base : Heap} {k : Nat} {f : Addr} {fd : FuncData} {x qual : Str} {params : Arguments} {body : List Stmt} {scope : Scope} {N ps : List Str} {spp : Addr × Obj → Sp}
theorem FnP.of (F : FunD K x qual params body scope [] [] f fd) (S : FnScope N ps scope) (len : ∀ p vs H Q E, spp p vs H Q E → vs.length = ps.length)
    (hB : ∀ (cdv : Value) (p : Addr × Obj) (A : Around) (outer : List Env) (s : Shared) (H : Hp) (vs : List V) (Q : VK) (E : XK), Hot1 A p → RoomH k (A.deeper (envOfC qual scope s.heap.objs.size f cdv)) → spp p vs H Q E →
      ∃ t, PSs (cxH (L2N.CX P w) P w K mg base N qual scope f cdv A outer s H E p) body t ∧ t { nx := fun _ H' => Q .non H', rt := Q } (L2.start N vs) H) : FnP P w K mg base (k + 1) f fd ps spp := by
  obtain ⟨oc, od, dV, kV, doc, pm, an, cdv, ct, osl, rfl, at_, code, _, _⟩ := F.ex
  refine ⟨len, fun p A outer s H args us vs Q E hot room pinned env0 bound vals sp1 => ?_⟩
  have same : vs.length = ps.length := len _ _ _ _ _ sp1
  have inK : K.In s.heap := env0.mod.kin.keeps fun b o z => (env0.bs b o z).1
  have kinds : ∀ y ∈ ps.zip us, scope.names.lookup y.1 = some .local ∨ (scope.names.lookup y.1 = some .cell ∧ ((cellsFrom (s.heap.objs.size + 1) scope.names []).lookup y.1).isSome = true) := fun y hy =>
    (S.par y.1 (List.of_mem_zip hy).1).elim .inl fun z => .inr ⟨z, PySem.W.cellsFrom_some _ _ _ (.inl z)⟩
  refine codeAny_call_function room.depth (inK _ _ at_) rfl S.co S.gen rfl (PySem.W.codeRec_of inK code) (bound _ _ _ _ (wpAny_newFunctionEnv_cells S.kind kinds fun env e1 s1 made => ?_))
  subst e1
  refine ⟨(env0.mod.nolimit.keeps fun b o z => (env0.bs b o z).1).keeps made.toInCall.keep, codeAny_func ?_⟩
  obtain ⟨t, run1, rd⟩ := hB cdv p A outer s H vs Q E hot (room.deeper _) sp1
  have inv : Inv (cxH (L2N.CX P w) P w K mg base N qual scope f cdv A outer s H E p) [] (L2.start N vs) H s1 := inv_startH S pinned env0 same vals made
  refine wpAny_mono (run1.run [] s1 _ H _ inv rd) (fun fl s2 out => ?_) fun _ _ z => z
  cases fl with
  | ret u =>
    obtain ⟨v, σ2, H2, inv2, rv, q⟩ := out
    exact ⟨v, H2, inv2.os, inv2.bare, inv2.base, inv2.hok, rv, q⟩
  | next =>
    obtain ⟨σ2, H2, inv2, q⟩ := out
    exact ⟨.non, H2, inv2.os, inv2.bare, inv2.base, inv2.hok, rfl, q⟩
  | brk => exact out.elim fun _ z => z.elim fun _ y => y.2.elim
  | cont => exact out.elim fun _ z => z.elim fun _ y => y.2.elim
end
section
variable {X : Cx} {k : Nat} {f : Addr} {fd : FuncData} {ps : List Str} {spp : Addr × Obj → Sp} {x : Str} {p : Addr × Obj} {q pos : Pos} {e : Expr} {es : List Expr} {ta : TA}
theorem pe_callP (F : FnP X.prog X.w X.K X.mg X.base k f fd ps spp) (room : RoomH k X.A) (hot : Hot1 X.A p) (mem : p ∈ X.pn) (hg : Gl X x) (hm : X.mg x = some (.ref f)) (kp : PySem.W.keepIn X.K (.ref f) = true) (hb : Binds X.K fd ps [])
    (args : PA X (e :: es) ta) (hdb : (x == ("__debug__" : Str)) = false := by decide) (h1 : starEach (e :: es) X.env = (false, eval e X.env) :: starEach es X.env := by rfl) (h2 : (backTo pos (starEach es X.env)).any (·.1) = false := by rfl) :
    PE X (.Call (.Name x q) (e :: es) [] pos) (fun σ H Q => ta σ H fun vs H1 => spp p vs H1 Q fun _ _ _ => False) := ⟨fun pins s σ H Q inv rd => by
  refine wpAny_Call_Name_kw (ld_glob inv hg hm (PySem.W.callWith_K (h₀ := X.base) inv.ok.mod.kin kp (thn (args.run pos pins s σ H _ inv rd) fun us s1 z => ?_) h1 h2) hdb)
  obtain ⟨vs, H1, inv1, rv, sp1⟩ := z
  have pin1 := inv1.pin p (List.mem_append_left _ mem)
  have pinned : PinOk X.stack H1 s1 p := ⟨pin1.1, pin1.2.1, fun z => (List.mem_cons.mp (inv1.stkSub p.1 z)).elim pin1.2.2.1 pin1.2.2.2.1, pin1.2.2.2.2⟩
  have bnd := hb s1 us inv1.kIn (by rw [List.append_nil, ← rv.length]; exact F.len _ _ _ _ _ sp1)
  rw [List.append_nil] at bnd
  refine ⟨inv1.kIn, wpAny_call (codeAny_mono (F.run p X.A X.stack s1 H1 ⟨us, []⟩ us vs Q _ hot room pinned inv1.env0 bnd rv sp1) fun res s2 out => ?_)⟩
  cases res with
  | error er => exact (show False from by obtain ⟨_, _, _, _, _, _, _, _, _, _, _, _, z⟩ := out; exact z).elim
  | ok fl => cases fl with
    | ret u => exact inv1.after out
    | _ => exact False.elim out⟩
end
def Ex.c : Ex → Nat
  | .txt c => c
  | .fld c _ _ => c
def exT (a d : Addr) : Ex → T
  | .txt _ => .adr a d "" []
  | .fld _ f t => .adr a d f [t]
def dOf (d : Addr) : Ex → Option Addr
  | .txt _ => none
  | .fld _ _ _ => some d
structure OkX (X : Cx) (cl : Nat → Addr) (k : Nat) (a d : Addr) (oe : Obj) (e : Ex) : Prop where
  nd : X.N.Nodup
  hot : Hot1 X.A (a, oe)
  mem : (a, oe) ∈ X.pn
  room : RoomH k X.A
  zn : L2N.Zn (.ref (cl e.c)) (dOf d e) oe
theorem OkX.hu {X : Cx} {cl : Nat → Addr} {k : Nat} {a d : Addr} {oe : Obj} {e : Ex} (c : OkX X cl k a d oe e) : X.A.units + 64 < cLine := by have := c.room.un; omega
theorem OkX.hu0 {X : Cx} {cl : Nat → Addr} {k : Nat} {a d : Addr} {oe : Obj} {e : Ex} (c : OkX X cl k a d oe e) : X.A.units < cLine := by have := c.room.un; omega
theorem OkX.flds {X : Cx} {cl : Nat → Addr} {k : Nat} {a d : Addr} {oe : Obj} {e : Ex} (c : OkX X cl k a d oe e) : ∃ vs, oe.data = .fields vs := by
  obtain ⟨_, vs, h, _⟩ := c.hot
  exact ⟨vs, h⟩
structure ExcI (K : PySem.W.Frag) (D : Addr) : Prop where
  isC : (PySem.W.clsIn K D).isSome = true
  ga : PySem.W.findIn K (.ref D) "__getattribute__" = some (some (.builtin "BaseException.__getattribute__"))
  gt : PySem.W.findIn K (.ref D) "__getattr__" = some none
  sb : PySem.W.subIn K (.ref D) (.type "BaseException") = some true
  ac : PySem.W.findIn K (.ref D) "__class__" = some (some (.builtin "object.__class__"))
  gs : PySem.W.specialIn K (.builtin "object.__class__") "__get__" = some (some (.builtin "getset_descriptor.__get__"))
  tk : PySem.W.takesIn K (.builtin "object.__class__") = some true
  mo : PySem.W.mroIn K D (.type "object") = some true
  hasD : PySem.W.hasDictIn K D = true
def rIsX (K : PySem.W.Frag) (D a : Addr) (dd : Option Addr) : List V → Hp → VK → Prop := fun xs H Q => ∃ (c : V) (cv : Value) (b : Bool), xs = [.ref a, c] ∧ (∀ u, RelV c u → u = cv) ∧ PySem.W.kitOne K (.ref D) cv = some b ∧ (∀ dx, dd = some dx → ∃ fs, H dx = some (.xd fs)) ∧ Q (.bl b) H
theorem call_isX {X : Cx} {a D : Addr} {dd : Option Addr} {oe : Obj} (C : ExcI X.K D) (mem : (a, oe) ∈ X.pn) (hz : Zc (.ref D) dd oe) (hf : ∃ vs, oe.data = .fields vs) : CallR X (.builtin "isinstance") (rIsX X.K D a dd) := fun pins s σ H xs us Q inv rel rd => by
  obtain ⟨c, cv, b, rfl, hcv, kit, hdx, q⟩ := rd
  obtain ⟨vs, hv⟩ := hf
  have pinned := (inv.pin (a, oe) (List.mem_append_left _ mem)).1
  have there : ∃ od, PySem.W.InstAt s.heap a oe D od := by
    cases dd with
    | none => exact ⟨none, pinned, hz.1, by unfold PySem.W.notCls; rw [hv], by rw [hz.2]; trivial⟩
    | some dx =>
      obtain ⟨fs, hfs⟩ := hdx dx rfl
      have ok : ObjOk X.prog X.w H s.heap dx (.xd fs) := inv.hok dx _ hfs
      obtain ⟨mA, hns, _⟩ := ok
      obtain ⟨od, hod, _⟩ := lookIn_ns hns
      exact ⟨some od, pinned, hz.1, by unfold PySem.W.notCls; rw [hv], by rw [hz.2]; exact hod⟩
  obtain ⟨od, inst⟩ := there
  cases rel with
  | cons r1 r2 => cases r2 with
    | cons r2 r3 =>
      cases r3
      cases r1
      have e := hcv _ r2
      subst e
      exact PySem.W.kia_one (PySem.W.kitx_exc (od := od) C.isC C.ga C.gt C.sb C.ac C.gs C.tk C.mo) inv.kIn inst kit (fun z => nomatch z) fun tk => ⟨.bl b, H, inv.kept (t' := tk) fun _ _ z => z, rfl, q⟩
open Classical in
noncomputable def mIsX (t0 : T) (b : Bool) (m : M T) : M T := fun env h => (m env h).bind fun t h1 => if t = t0 then .ok (.bl b) h1 else .bad
open Classical in
section
variable {X : Cx} {cl : Nat → Addr} {W : WX} {k : Nat} {a d : Addr} {oe : Obj} {e : Ex} {ev : Expr} {m : M T} {x : Str} {p p2 pos : Pos} {b : Bool}
theorem exT_rep {K : PySem.W.Frag} {ω : Wd} {h : Store} {H : Hp} {v : V} (S : StOk K cl ω h H) (r : Rep K ω (exT a d e) v) : v = .ref a ∧ ∀ dx, dOf d e = some dx → ∃ fs, H dx = some (.xd fs) := by
  cases e with
  | txt c =>
    simp only [exT, Rep] at r
    exact ⟨r.1, fun dx z => by cases z⟩
  | fld c f t =>
    simp only [exT, Rep] at r
    obtain ⟨e1, ws, c1, _⟩ := r
    exact ⟨e1, fun dx z => by cases z; exact ⟨_, S.phi _ _ (c1 (by simp))⟩⟩
theorem k_isX {D2 : Addr} (c : OkX X cl k a d oe e) (I : ExcI X.K (cl e.c)) (he : PE X ev (tE X.K cl W m)) (z : X.mg "isinstance" = none) (gx : X.mg x = some (.ref D2)) (kit : PySem.W.kitOne X.K (.ref (cl e.c)) (.ref D2) = some b) (hg : Gl X "isinstance" := by rfl) (hg2 : Gl X x := by rfl)
    (hdb2 : (x == ("__debug__" : Str)) = false := by decide)
    (hst : starEach [ev, .Name x p2] X.env = (false, eval ev X.env) :: starEach [.Name x p2] X.env := by rfl) (hst2 : starEach [.Name x p2] X.env = (false, eval (.Name x p2) X.env) :: starEach [] X.env := by rfl) (hpl : (backTo pos (starEach [.Name x p2] X.env)).any (·.1) = false := by rfl) :
    PE X (.Call (.Name "isinstance" p) [ev, .Name x p2] [] pos) (tE X.K cl W (mIsX (exT a d e) b m)) := by
  have a2 : PE X (.Name x p2) (tC (.ref D2)) := pe_glob hg2 gx rfl hdb2
  refine (pe_callB (call_isX I c.mem c.zn.zc c.flds) hg z boot_isinstance (pa_cons he (pa_cons a2 pa_nil hst2) hst) (by decide) (by decide) hst hpl).weak fun σ H Q ⟨env, h, ω, henv, hs, q⟩ => ⟨env, h, ω, henv, hs, (PostG.bind q).mono fun t h1 ω1 H1 N1 S1 q1 v r => ?_⟩
  split at q1
  · rename_i et
    subst et
    obtain ⟨rfl, hdx⟩ := exT_rep S1 r
    exact ⟨.ref D2, .ref D2, b, rfl, fun u z => z, kit, hdx, q1 ω1 H1 (Nx.refl _ _) S1 _ rep_bl⟩
  · exact q1.elim
theorem k_isXB {ty : String} (c : OkX X cl k a d oe e) (I : ExcI X.K (cl e.c)) (he : PE X ev (tE X.K cl W m)) (z : X.mg "isinstance" = none) (z2 : X.mg x = none) (hv2 : bootBuiltins x = some (.type ty)) (kit : PySem.W.kitOne X.K (.ref (cl e.c)) (.type ty) = some b) (hg : Gl X "isinstance" := by rfl) (hg2 : Gl X x := by rfl)
    (hn2 : x ≠ "__name__" := by decide) (hdb2 : (x == ("__debug__" : Str)) = false := by decide)
    (hst : starEach [ev, .Name x p2] X.env = (false, eval ev X.env) :: starEach [.Name x p2] X.env := by rfl) (hst2 : starEach [.Name x p2] X.env = (false, eval (.Name x p2) X.env) :: starEach [] X.env := by rfl) (hpl : (backTo pos (starEach [.Name x p2] X.env)).any (·.1) = false := by rfl) :
    PE X (.Call (.Name "isinstance" p) [ev, .Name x p2] [] pos) (tE X.K cl W (mIsX (exT a d e) b m)) := by
  have a2 : PE X (.Name x p2) (tC (.ty ty)) := pe_bltn hg2 z2 hv2 rfl hn2 hdb2
  refine (pe_callB (call_isX I c.mem c.zn.zc c.flds) hg z boot_isinstance (pa_cons he (pa_cons a2 pa_nil hst2) hst) (by decide) (by decide) hst hpl).weak fun σ H Q ⟨env, h, ω, henv, hs, q⟩ => ⟨env, h, ω, henv, hs, (PostG.bind q).mono fun t h1 ω1 H1 N1 S1 q1 v r => ?_⟩
  split at q1
  · rename_i et
    subst et
    obtain ⟨rfl, hdx⟩ := exT_rep S1 r
    exact ⟨.ty ty, .type ty, b, rfl, fun u z => z, kit, hdx, q1 ω1 H1 (Nx.refl _ _) S1 _ rep_bl⟩
  · exact q1.elim
end
def spX (K : PySem.W.Frag) (cl : Nat → Addr) (F : Addr → Addr → Ex → Fn) (n : Nat) (ok : Ex → Prop) : Addr × Obj → Sp := fun p vs H Q _ => vs.length = n ∧ ∃ (d : Addr) (e : Ex), ok e ∧ L2N.Zn (.ref (cl e.c)) (dOf d e) p.2 ∧
  ∃ ts h ω, StOk K cl ω h H ∧ Reps K ω ts vs ∧ PostG K cl W0 ω H [] (F p.1 d e ts h) fun t _ ω' H' => ∀ v, Rep K ω' t v → Q v H'
structure CalX (P : Program) (w : World) (K : PySem.W.Frag) (mg : Str → Option Value) (base : Heap) (cl : Nat → Addr) (x : Str) (j : Nat) (ps : List Str) (F : Addr → Addr → Ex → Fn) (n : Nat) (ok : Ex → Prop) : Prop where
  ex : ∃ f fd, FnP P w K mg base j f fd ps (spX K cl F n ok) ∧ mg x = some (.ref f) ∧ PySem.W.keepIn K (.ref f) = true ∧ Binds K fd ps []
  len : ∀ a d e ts h, ts.length ≠ n → F a d e ts h = .bad
section
variable {P : Program} {w : World} {K : PySem.W.Frag} {mg : Str → Option Value} {base : Heap} {cl : Nat → Addr}
theorem q_fnX {x qual : Str} {params : Arguments} {body : List Stmt} {scope : Scope} {f : Addr} {fd : FuncData} {N ps : List Str} {k nargs nslots : Nat} {ok : Ex → Prop} {sem : Addr → Addr → Ex → MS} (F : FunD K x qual params body scope [] [] f fd) (S : FnScope N ps scope) (hn : N.length = nslots) (hps : ps.length = nargs)
    (hm : mg x = some (.ref f)) (hb : Binds K fd ps [])
    (hB : ∀ (cdv : Value) (A : Around) (outer : List Env) (s : Shared) (H : Hp) (E : XK) (a d : Addr) (oe : Obj) (e : Ex), ok e → OkX (cxH (L2N.CX P w) P w K mg base N qual scope f cdv A outer s H E (a, oe)) cl k a d oe e →
      PSs (cxH (L2N.CX P w) P w K mg base N qual scope f cdv A outer s H E (a, oe)) body (tS K cl W0 (sem a d e))) :
    CalX P w K mg base cl x (k + 1) ps (fun a d e => fn nargs nslots false (sem a d e)) nargs ok := by
  refine ⟨⟨f, fd, FnP.of F S (fun p vs H Q E h => h.1.trans hps.symm) (fun cdv p A outer s H vs Q E hot room sp1 => ?_), hm, F.kp, hb⟩, fun a d e => fn_len⟩
  obtain ⟨hl, d, e, oke, zn, ts, h, ω, hS, hR, hP⟩ := sp1
  have c : OkX (cxH (L2N.CX P w) P w K mg base N qual scope f cdv A outer s H E (p.1, p.2)) cl k p.1 d p.2 e := ⟨S.nd, hot, List.mem_cons_self, room, zn⟩
  refine ⟨_, hB cdv A outer s H E p.1 d p.2 e oke c, startE nslots ts, h, ω, startE_ok hn hR, hS, ?_⟩
  have hP : PostG K cl (fun cls d _ H' => (fun _ _ _ => False : XK) cls d H') ω H [] (fn nargs nslots false (sem p.1 d e) ts h) fun t _ ω' H' => ∀ v, Rep K ω' t v → Q v H' := hP
  unfold fn at hP
  split at hP
  · exact fin_ok hS hP
  · exact hP.elim
end
section
variable {X : Cx} {cl : Nat → Addr} {W : WX} {k j n : Nat} {a d : Addr} {oe : Obj} {e : Ex} {ps : List Str} {F : Addr → Addr → Ex → Fn} {x : Str} {q pos : Pos} {ev : Expr} {es : List Expr} {r : M (List T)} {ok : Ex → Prop}
theorem k_callX (c : OkX X cl k a d oe e) (G : CalX X.prog X.w X.K X.mg X.base cl x j ps F n ok) (hj : j ≤ k) (oke : ok e) (hg : Gl X x) (args : PA X (ev :: es) (tA X.K cl W0 r)) (hdb : (x == ("__debug__" : Str)) = false := by decide)
    (h1 : starEach (ev :: es) X.env = (false, eval ev X.env) :: starEach es X.env := by rfl) (h2 : (backTo pos (starEach es X.env)).any (·.1) = false := by rfl) :
    PE X (.Call (.Name x q) (ev :: es) [] pos) (tE X.K cl W0 (mCall (F a d e) r)) := by
  obtain ⟨f, fd, G1, m, kp, b⟩ := G.ex
  refine (pe_callP G1 (c.room.mono hj) c.hot c.mem hg m kp b args hdb h1 h2).weak fun σ H Q ⟨env, h, ω, henv, hs, q⟩ => ⟨env, h, ω, henv, hs, (PostG.bind q).mono fun as h1 ω1 H1 N1 S1 q1 vs rvs => ?_⟩
  refine ⟨Classical.byContradiction fun z => ?_, d, e, oke, c.zn, as, h1, ω1, S1, rvs, q1.reW⟩
  rw [G.len a d e as h1 (by rw [rvs.length]; exact z)] at q1
  exact q1
end
def okE (cs : List Nat) (e : Ex) : Prop := e.c ∈ cs ∧ ∀ c f t, e = .fld c f t → c = 11 ∧ f = "steps"
open Classical in
noncomputable def sTry (i : Nat) (cs : List Nat) (body : MS) (hd : Addr → Addr → Ex → MS) : MS := fun env h => match body env h with
  | .ex e env1 h1 => if q : (i < env1.length ∧ okE cs e) ∧ ∃ t, ∀ a d, hd a d e (env1.set i (some (exT a d e))) h1 = .rt t h1 then .rt (choose q.2) h1 else .bad
  | o => o
theorem sTry_ex {i : Nat} {cs : List Nat} {body : MS} {hd : Addr → Addr → Ex → MS} {env env1 : Env'} {h h1 : Store} {e : Ex} {t : T} (hb : body env h = .ex e env1 h1) (hi : i < env1.length) (hc : okE cs e) (ht : ∀ a d, hd a d e (env1.set i (some (exT a d e))) h1 = .rt t h1) : sTry i cs body hd env h = .rt t h1 := by
  have q : (i < env1.length ∧ okE cs e) ∧ ∃ t, ∀ a d, hd a d e (env1.set i (some (exT a d e))) h1 = .rt t h1 := ⟨⟨hi, hc⟩, t, ht⟩
  unfold sTry
  rw [hb]
  simp only
  rw [dif_pos q]
  have := Classical.choose_spec q.2 0 0
  rw [ht 0 0] at this
  cases this
  rfl
section
variable {X : Cx} {cl : Nat → Addr} {W : WX} {k i c0 : Nat} {cs : List Nat} {x n : Str} {np pos pos' : Pos} {body suite : List Stmt} {b0 : Stmt} {sem : MS} {hd : Addr → Addr → Ex → MS}
theorem ks_try (co : Ok X W k) (hi : X.N[i]? = some n) (hln : X.env.kindOf n = some .local) (hc : Names X x (.ref (cl c0))) (hm : ∀ c ∈ cs, PySem.W.exmOne X.K (.ref (cl c)) (.ref (cl c0)) = some true)
    (hb : ∀ (W' : WX) (pn : List (Addr × Obj)) (xe : Value → Shared → Prop), Ok (X.tr pn xe) W' k → PSs (X.tr pn xe) body (tS X.K cl W' sem))
    (hsu : ∀ (a d : Addr) (oe : Obj) (e : Ex) (pn : List (Addr × Obj)), okE cs e → OkX (X.suite a ((a, oe) :: pn)) cl k a d oe e → PSs (X.suite a ((a, oe) :: pn)) (b0 :: suite) (tS X.K cl W0 (hd a d e)))
    (hs : X.stack = X.env :: X.outer := by rfl) (hf : X.env.frame = some X.env.locals := by rfl) :
    PS X (.Try body [.ExceptHandler (some (.Name x np)) (some n) (b0 :: suite) pos'] [] [] pos) (tS X.K cl W (sTry i cs sem hd)) := by
  refine (L2N.ps_try_as (tb := fun W' => tS X.K cl W' sem) (ts := fun a cls d D σ H => ∃ (e : Ex) (d1 : Addr), okE cs e ∧ cls = .ref (cl e.c) ∧ d = dOf d1 e ∧ tS X.K cl W0 (hd a d1 e) D σ H) (Wout := W) hs hf co.nd hi hln hc co.tk
    (fun W' pn xe tk hp => hb W' pn xe ⟨co.calm, co.nd, tk, hp, co.room⟩) (fun a oe cls d pn zn hf => ⟨fun pins s σ H D inv z => ?_⟩)).weak fun D σ H ⟨env, h, ω, he, hS, q⟩ => ⟨env, h, ω, he, hS, ?_⟩
  · obtain ⟨e, d1, ec, e1, e2, z⟩ := z
    obtain ⟨vs, hv⟩ := hf
    refine (hsu a d1 oe e pn ec ⟨co.nd, ⟨rfl, vs, hv, zn.2.2 vs hv⟩, List.mem_cons_self, ⟨co.room.dp, co.room.un⟩, ?_⟩).run pins s σ H D inv z
    rw [← e1, ← e2]
    exact zn
  · unfold sTry at q
    revert q
    cases sem env h with
    | ex e env1 h1 =>
      intro q
      simp only at q
      split at q
      · rename_i c
        intro ω1 H1 σ1 cls dd N1 S1 he1 xo
        have hx := hm e.c c.1.2.1
        have spec := Classical.choose_spec c.2
        generalize Classical.choose c.2 = t at q spec
        cases e with
        | txt c1 =>
          obtain ⟨rfl, rfl⟩ := xo
          refine ⟨true, hx, fun _ a na => ⟨.txt c1, 0, c.1.2, rfl, rfl, env1.set i (some (exT a 0 (.txt c1))), h1, ω1, he1.set i ⟨rfl, [], fun z => absurd rfl z, Reps.nil⟩, S1, ?_⟩, fun z => nomatch z⟩
          rw [spec a 0]
          exact fun ω2 H2 v N2 S2 r => q ω2 H2 v (N1.trans N2) S2 r
        | fld c1 f u =>
          obtain ⟨rfl, up, dx, v, rfl, hd1, rv⟩ := xo
          have nr : dx ∉ ω1.rho := fun z => by
            obtain ⟨j, hj, ej⟩ := List.getElem_of_mem z
            have hj2 : j < h1.length := by rw [← S1.len]; exact hj
            have ck := S1.cells j h1[j] dx (List.getElem?_eq_getElem hj2) (by rw [List.getElem?_eq_getElem hj, ej])
            revert ck
            cases h1[j] with
            | lst xs => exact fun ⟨_, vs, z, _⟩ => by rw [hd1] at z; cases z
            | dK xs => exact fun ⟨_, vs, z, _⟩ => by rw [hd1] at z; cases z
            | dT xs => exact fun ⟨_, vs, z, _⟩ => z.elim (fun z => absurd z.1 (by rw [hd1]; exact fun w => by cases w)) fun y => absurd y.2 (by rw [hd1]; exact fun w => by cases w)
            | dead => exact fun ⟨o, z, n⟩ => by rw [hd1] at z; exact n _ (Option.some.inj z).symm
            | ins c xs => exact fun ⟨_, vs, z, _⟩ => by rw [hd1] at z; cases z
          have fixed : ∃ ω2, Nx ω1 H1 ω2 H1 ∧ StOk X.K cl ω2 h1 H1 ∧ ω2.Phi dx = some (.xd [(f, v)]) := by
            cases hp : ω1.Phi dx with
            | none => exact ⟨_, Nx.fixX hp, S1.fixIt hd1 hp nr, upd_same⟩
            | some o =>
              have := S1.phi dx o hp
              rw [hd1] at this
              cases this
              exact ⟨ω1, Nx.refl _ _, S1, hp⟩
          obtain ⟨ω2, N2, S2, hp⟩ := fixed
          refine ⟨true, hx, fun _ a na => ⟨.fld c1 f u, dx, c.1.2, rfl, rfl, env1.set i (some (exT a dx (.fld c1 f u))), h1, ω2, (he1.mono N2.toGr).set i ⟨rfl, [v], fun _ => hp, Reps.one (rv.mono N2.toGr)⟩, S2, ?_⟩, fun z => nomatch z⟩
          rw [spec a dx]
          exact fun ω3 H3 w N3 S3 r => q ω3 H3 w (N1.trans (N2.trans N3)) S3 r
      · exact q.elim
    | nx env1 h1 => exact fun q => q
    | rt t h1 => exact fun q => q
    | bk env1 h1 => exact fun q => q
    | ct env1 h1 => exact fun q => q
    | bad => exact fun q => q
end
structure TryF (K : PySem.W.Frag) (cl : Nat → Addr) (R A : List Nat) (c0 : Nat) : Prop where
  i : ∀ c ∈ R, ExcI K (cl c)
  k : ∀ c ∈ R, ∀ y ∈ A, PySem.W.kitOne K (.ref (cl c)) (.ref (cl y)) = some (decide (c = y))
  v : ∀ c ∈ R, PySem.W.kitOne K (.ref (cl c)) (.type "ValueError") = some true
  m : ∀ c ∈ R, PySem.W.exmOne K (.ref (cl c)) (.ref (cl c0)) = some true
def excIB (K : PySem.W.Frag) (D : Addr) : Bool := (PySem.W.clsIn K D).isSome && (He.eqO (PySem.W.findIn K (.ref D) "__getattribute__") (some (some (.builtin "BaseException.__getattribute__"))) && (He.eqO (PySem.W.findIn K (.ref D) "__getattr__") (some none) &&
  (decide (PySem.W.subIn K (.ref D) (.type "BaseException") = some true) && (He.eqO (PySem.W.findIn K (.ref D) "__class__") (some (some (.builtin "object.__class__"))) && (He.eqO (PySem.W.specialIn K (.builtin "object.__class__") "__get__") (some (some (.builtin "getset_descriptor.__get__"))) &&
  (decide (PySem.W.takesIn K (.builtin "object.__class__") = some true) && (decide (PySem.W.mroIn K D (.type "object") = some true) && PySem.W.hasDictIn K D)))))))
theorem excIB_ok {K : PySem.W.Frag} {D : Addr} (t : excIB K D = true) : ExcI K D := by
  unfold excIB at t
  simp only [Bool.and_eq_true, decide_eq_true_eq] at t
  obtain ⟨t1, t2, t3, t4, t5, t6, t7, t8, t9⟩ := t
  exact ⟨t1, He.eqO_ok t2, He.eqO_ok t3, t4, He.eqO_ok t5, He.eqO_ok t6, t7, t8, t9⟩
def tryB (K : PySem.W.Frag) (R A : List Nat) (c0 : Nat) : Bool := R.all fun c => excIB K (clK K c) && ((A.all fun y => decide (PySem.W.kitOne K (.ref (clK K c)) (.ref (clK K y)) = some (decide (c = y)))) && (decide (PySem.W.kitOne K (.ref (clK K c)) (.type "ValueError") = some true) &&
  decide (PySem.W.exmOne K (.ref (clK K c)) (.ref (clK K c0)) = some true)))
theorem tryB_ok {K : PySem.W.Frag} {R A : List Nat} {c0 : Nat} (t : tryB K R A c0 = true) : TryF K (clK K) R A c0 := by
  unfold tryB at t
  rw [List.all_eq_true] at t
  have h : ∀ c ∈ R, excIB K (clK K c) = true ∧ (∀ y ∈ A, PySem.W.kitOne K (.ref (clK K c)) (.ref (clK K y)) = some (decide (c = y))) ∧ PySem.W.kitOne K (.ref (clK K c)) (.type "ValueError") = some true ∧ PySem.W.exmOne K (.ref (clK K c)) (.ref (clK K c0)) = some true := fun c hc => by
    have := t c hc
    simp only [Bool.and_eq_true, decide_eq_true_eq, List.all_eq_true] at this
    exact this
  exact ⟨fun c hc => excIB_ok (h c hc).1, fun c hc => (h c hc).2.1, fun c hc => (h c hc).2.2.1, fun c hc => (h c hc).2.2.2⟩
end Sm
namespace Sm
open PySem PySem.Spec PyProof.Rows L2
section
variable {X : Cx} {W : WX} {cl : Nat → Addr} {k j n : Nat} {ps : List Str} {F : Fn} {x z : Str} {p pos : Pos} {e : Expr} {es : List Expr} {r : M (List T)} {env : Env'} {h : Store}
end
end Sm
namespace Sm
open PySem PySem.Spec PyProof.Rows L2
section
variable {K : PySem.W.Frag} {cl : Nat → Addr} {ω : Wd} {h : Store} {H : Hp}
end
section
variable {X : Cx} {W : WX} {cl : Nat → Addr} {r : M (List T)}
theorem kn_callB {x : Str} {id : String} {p pos : Pos} {e : Expr} {es : List Expr} {g : List T → Store → Option (List T)} (hc : CallR X (.builtin id) (rNewA X.K cl g)) (hg : Gl X x) (hm : X.mg x = none) (hv : bootBuiltins x = some (.builtin id)) (ha : PA X (e :: es) (tA X.K cl W r)) (hn : x ≠ "__name__" := by decide) (hdb : (x == ("__debug__" : Str)) = false := by decide)
    (he : starEach (e :: es) X.env = (false, eval e X.env) :: starEach es X.env := by rfl) (hpl : (backTo pos (starEach es X.env)).any (·.1) = false := by rfl) : PE X (.Call (.Name x p) (e :: es) [] pos) (tN X.K cl W (mNewA g r)) :=
  (pe_callB hc hg hm hv ha hn hdb he hpl).weak fun _ _ _ h => newA_step h
end
end Sm
namespace Sm
open PySem PySem.Spec PyProof.Rows L2
section
variable {X : Cx} {cl : Nat → Addr} {W : WX} {tg : Expr} {r : M (List T)} {env : Env'} {h : Store}
end
end Sm
namespace Sm
open PySem PySem.Spec PyProof.Rows L2 HT
open PySem.W (krv_all krv_range)
section
variable {E : Value → Shared → Prop} {s : Shared} {w : World} {prog : Program} {A : Around}
end
section
variable {X : Cx} {cl : Nat → Addr} {W : WX} {m : M T} {env : Env'} {h : Store}
end
end Sm
namespace Sm
open PySem PySem.Spec PyProof.Rows L2
abbrev KX (K : PySem.W.Frag) (ω : Wd) := Paired fun (p : List Int × T) (q : List Int × Addr × Value) => p.1 = q.1 ∧ SqT K ω.Phi q.2.1 (p.1.map V.int) ∧ ∃ v, RelV v q.2.2 ∧ Rep K ω p.2 v
section
variable {K : PySem.W.Frag} {ω ω' : Wd} {kvs : List (List Int × T)} {xs : List (List Int × Addr × Value)} {l : List DRow} {k : List Int} {t : T} {v : V} {u : Value} {b : Addr}
end
section
variable {X : Cx} {pins : List (Addr × Obj)} {σ : L2.St} {H : Hp} {s : Shared} {cl : Nat → Addr} {ω : Wd} {h : Store} {n : Nat} {kvs : List (List Int × T)} {ks : List Int} {v : V} {b : Addr}
end
section
variable {X : Cx} {cl : Nat → Addr} {W : WX} {a b o e f : Expr} {m n mo me mx mv mi : M T} {r : M (List T)} {pos p apos cpos : Pos}
end
end Sm
namespace Sm
open PySem PySem.Spec PyProof.Rows L2
def addAt (n : Nat) (k x y : Int) (env : Env') (h : Store) : SO := match cellL h n with
  | some xs => if 0 ≤ k ∧ k < xs.length then .nx env (h.set n (.lst (xs.set k.toNat (.int (x + y))))) else .bad
  | none => .bad
def sItemAug (mo mi mv : M T) : MS := fun env h => bindE (mo env h) env fun a h1 => bindE (mi env h1) env fun i h2 => match a, i with
  | .loc n, .int k => match cellL h2 n with
    | some xs => if 0 ≤ k ∧ k < 100000 then match xs[k.toNat]? with
      | some (.int x) => bindE (mv env h2) env fun y h3 => match y with
        | .int y => addAt n k x y env h3
        | _ => .bad
      | _ => .bad
      else .bad
    | none => .bad
  | _, _ => .bad
section
variable {X : Cx} {cl : Nat → Addr} {W : WX} {o i e : Expr} {mo mi mv : M T} {tpos pos : Pos}
theorem get_lst : PGet X fun x y H Q => ∃ p vs k v, x = .ref p ∧ y = .int k ∧ H p = some (.lst vs) ∧ 0 ≤ k ∧ k < 100000 ∧ vs[k.toNat]? = some v ∧ Q v H := by
  rintro pins s σ H x y ov iv Q I ro ri ⟨p, vs, k, v, rfl, rfl, hp, k0, k1, hv, q⟩
  cases ro
  obtain ⟨t, rfl⟩ := ri
  obtain ⟨its, r, pl, _⟩ := I.list (SqL.of hp)
  obtain ⟨w, ew, rw'⟩ := r.get hv
  exact getItem_listL pl.isList k0 (by omega) ew ⟨v, H, I, rw', q⟩
theorem ks_itemAug (ho : PE X o (tE X.K cl W mo)) (hi : PE X i (tE X.K cl W mi)) (he : PE X e (tE X.K cl W mv))
    (ha : ∀ ov iv new, augStore i ov iv new = (do holding [new, ov, iv] (setItem ov iv new); release [new, ov, iv] []; pure .next) := by intros; rfl) : PS X (.AugAssign (.Subscript o i tpos) .Add e pos) (tS X.K cl W (sItemAug mo mi mv)) := by
  refine (ps_augS ho hi get_lst he ip_add set_list ha).weak fun D σ H ⟨env, h, ω, hen, hs, q⟩ => ⟨env, h, ω, hen, hs, (PostS.bindE hen q).mono fun a h1 ω1 H1 N1 S1 q1 x rx => ?_⟩
  refine ⟨env, h1, ω1, hen.mono N1.toGr, S1, (PostS.bindE (hen.mono N1.toGr) q1).mono fun ix h2 ω2 H2 N2 S2 q2 y ry => ?_⟩
  have he2 := (hen.mono N1.toGr).mono N2.toGr
  split at q2
  · rename_i n k
    split at q2
    · rename_i xs ex
      split at q2
      · rename_i c
        split at q2
        · rename_i xi ei
          obtain ⟨p, vs, rfl, e1, e2, e3, e4⟩ := cellL_ok S2 (rx.mono N2.toGr) ex
          obtain ⟨v, ev, rv⟩ := e3.get ei
          refine ⟨p, vs, k, v, rfl, ry.int_inv, e2, c.1, c.2, ev, env, h2, ω2, he2, S2, (PostS.bindE he2 q2).mono fun z h3 ω3 H3 N3 S3 q3 w rw' => ?_⟩
          split at q3
          · rename_i yi
            refine ⟨xi, yi, rv.int_inv, rw'.int_inv, ?_⟩
            unfold addAt at q3
            split at q3
            · rename_i zs ez
              split at q3
              · rename_i d
                obtain ⟨p', vs', ep, f1, f2, f3, f4⟩ := cellL_ok S3 ((rx.mono N2.toGr).mono N3.toGr) ez
                cases ep
                obtain ⟨S', N'⟩ := put_lst S3 (cellL_at ez) f1 (pus_set (i := k.toNat) (t := .int (xi + yi)) f4 rfl) (f3.set rep_int k.toNat)
                exact ⟨p, vs', k, k.toNat, rfl, ry.int_inv, f2, by rw [← f3.length, ixN]; simp [d.1, d.2], q3 _ _ σ N' S' (he2.mono N3.toGr)⟩
              · exact q3.elim
            · exact q3.elim
          · exact q3.elim
        · exact q2.elim
      · exact q2.elim
    · exact q2.elim
  · exact q2.elim
end
end Sm
set_option maxHeartbeats 4000000
namespace Sm
open PySem PySem.Spec PyProof.Rows L2
def fMaxA : FA := fun as h => match as with
  | [.tup xs] => (intsOf? xs).bind fun ns => if ns ≠ [] then some (.int (maxL ns)) else none
  | as => fMax as h
section
variable {X : Cx} {cl : Nat → Addr} {W : WX} {k : Nat} {r : M (List T)} {e : Expr} {es : List Expr} {p pos : Pos}
theorem maxOf_is (x : Int) : ∀ xs : List Int, PySem.W.maxOf x xs ∈ x :: xs ∧ ∀ y ∈ x :: xs, y ≤ PySem.W.maxOf x xs := fun xs => by
  unfold PySem.W.maxOf
  induction xs generalizing x with -- from the left
  | nil => simp
  | cons z zs ih =>
    rw [List.foldl_cons]
    have e : (if PySem.W.DatumOrd.lt x z = true then z else x) = if x < z then z else x := by
      show (if decide (x < z) = true then z else x) = _
      simp
    rw [e]
    by_cases c : x < z
    · rw [if_pos c]
      obtain ⟨i1, i2⟩ := ih z
      refine ⟨List.mem_cons_of_mem _ i1, fun y hy => ?_⟩
      rcases List.mem_cons.mp hy with q | q
      · have := i2 z (List.mem_cons_self ..)
        omega
      · exact i2 y q
    · rw [if_neg c]
      obtain ⟨i1, i2⟩ := ih x
      refine ⟨?_, fun y hy => ?_⟩
      · rcases List.mem_cons.mp i1 with q | q
        · exact List.mem_cons.mpr (.inl q)
        · exact List.mem_cons_of_mem _ (List.mem_cons_of_mem _ q)
      · rcases List.mem_cons.mp hy with q | q
        · exact i2 y (List.mem_cons.mpr (.inl q))
        · rcases List.mem_cons.mp q with q2 | q2
          · have := i2 x (List.mem_cons_self ..)
            omega
          · exact i2 y (List.mem_cons_of_mem _ q2)
theorem cr_maxT (hc : X.calm = true) (hu : X.A.units + 64 < cLine) : CallR X (.builtin "max") (fun vs H Q => ∃ (a : Addr) (ns : List Int), vs = [V.ref a] ∧ SqT X.K H a (ns.map V.int) ∧ 0 < ns.length ∧ ∀ m, m ∈ ns → (∀ y, y ∈ ns → y ≤ m) → Q (.int m) H) := by
  intro pins s σ H vs us Q I r ⟨a, ns, e0, hs, hne, q⟩
  subst e0
  obtain ⟨its, rv, hT, _⟩ := I.tuple hs
  rw [Vals.ref1 r]
  cases ns with
  | nil => simp at hne
  | cons x xs =>
    refine PySem.W.max_tuple_datum (α := Int) (x := x) (xs := xs) (I.ok.hd hc) hT (by simpa using reads_ints rv.ints) (by show _ + 1 + 0 < cLine; omega) fun i v h' tk _ hv hk => ?_
    obtain ⟨as, rd⟩ := hv
    have rd : Reads h' v (.int (PySem.W.maxOf x xs)) as := rd
    cases rd with
    | int i t =>
      obtain ⟨m1, m2⟩ := maxOf_is x xs
      exact ⟨.int _, H, I.kept hk, ⟨_, rfl⟩, q _ m1 m2⟩
theorem c_maxA (hc : X.calm = true) (hu : X.A.units + 64 < cLine) : CallR X (.builtin "max") (rVA X.K cl fMaxA) := by
  intro pins s σ H xs us Q I rx ⟨as, h, ω, t, S, ra, e, q⟩
  unfold fMaxA at e
  split at e
  · rename_i ys
    rw [Option.bind_eq_some_iff] at e
    obtain ⟨ns, e2, e⟩ := e
    obtain ⟨c, rfl⟩ := ne_ite e
    obtain ⟨v, vr, rfl, a, b⟩ := ra.inv
    simp only [Rep] at a
    obtain ⟨p, vs, rfl, b1, c1⟩ := a
    rw [b.nil_inv] at rx
    rw [c1.ints e2] at b1
    obtain ⟨m1, m2⟩ := maxL_is c
    refine cr_maxT hc hu pins s σ H _ us Q I rx ⟨p, ns, rfl, sqT_mono S.phi b1, List.length_pos_iff.mpr c, fun m k1 k2 => ?_⟩
    have : m = maxL ns := by
      have := m2 m k1
      have := k2 _ m1
      omega
    rw [this]
    exact q _ _ _ (Nx.refl _ _) S rep_int
  · exact c_max hc pins s σ H _ us Q I rx ⟨as, h, ω, t, S, ra, e, q⟩
theorem q_maxA (c : Ok X W k) (z : X.mg "max" = none) (ha : PA X (e :: es) (tA X.K cl W r)) (hg : Gl X "max" := by rfl) (he : starEach (e :: es) X.env = (false, eval e X.env) :: starEach es X.env := by rfl) (hpl : (backTo pos (starEach es X.env)).any (·.1) = false := by rfl) : PE X (.Call (.Name "max" p) (e :: es) [] pos) (tE X.K cl W (mCallF fMaxA r)) := k_callB (c_maxA c.calm c.hu) hg z boot_max ha (by decide) (by decide) he hpl
end
end Sm
set_option maxHeartbeats 4000000
namespace Sm
open PySem PySem.Spec PyProof.Rows L2
section
variable {P : Program} {w : World} {A : Around} {E : Value → Shared → Prop} {s : Shared}
set_option maxHeartbeats 6000000 in
end
section
variable {X : Cx} {cl : Nat → Addr} {W : WX} {k : Nat} {a : Expr} {m : M T} {p p2 pos q : Pos}
end
end Sm
set_option maxHeartbeats 2000000
namespace Sm
open PySem PySem.Spec PyProof.Rows L2
section
variable {X : Cx} {pins : List (Addr × Obj)} {σ : L2.St} {H : Hp} {s : Shared} {d : Addr} {o : Obj} {l : List DRow} {es : Array DictEntry} {ep : Nat}
end
section
variable {X : Cx} {cl : Nat → Addr} {W : WX} {e a b : Expr} {m n : M T} {tg : Expr} {r : M (List T)} {apos cpos p p2 pos pos2 : Pos}
end
end Sm
set_option maxHeartbeats 2000000
namespace Sm
open PySem PySem.Spec PyProof.Rows L2
section
variable {X : Cx} {cl : Nat → Addr} {W : WX} {k : Nat} {r : M (List T)} {e : Expr} {es : List Expr} {p pos : Pos}
end
end Sm
set_option maxHeartbeats 2000000
namespace Sm
open PySem PySem.Spec PyProof.Rows L2
section
variable {X : Cx} {pins : List (Addr × Obj)} {σ : L2.St} {H : Hp} {s : Shared} {vs : List V} {p0 : Addr} {a e : Expr} {ta : TE}
end
section
variable {X : Cx} {cl : Nat → Addr} {W : WX} {a b c e o : Expr} {m mo me : M T} {r : M (List T)} {p pos apos cpos : Pos}
end
end Sm
set_option maxHeartbeats 2000000
namespace Sm
open PySem PySem.Spec PyProof.Rows L2
def fLeS : F2
  | .str x, .str y, _ => some (.bl (!decide (y.cps.toList < x.cps.toList)))
  | _, _, _ => none
section
variable {X : Cx} {cl : Nat → Addr} {W : WX} {k : Nat} {r : M (List T)} {o e : Expr} {es : List Expr} {mo me : M T} {p pos apos : Pos}
theorem o_leS : OpR X (compareOp .LtE) (rV2 X.K cl fLeS) := by
  intro pins s σ H x y v u Q I rx ry ⟨a, b, h, ω, t, S, ra, rb, ee, q⟩
  unfold fLeS at ee
  split at ee
  · cases ee
    rw [ra.str_inv] at rx
    rw [rb.str_inv] at ry
    exact op_le_str pins s σ H _ _ v u Q I rx ry ⟨_, _, rfl, rfl, q _ _ _ (Nx.refl _ _) S rep_bl⟩
  · cases ee
end
end Sm
set_option maxHeartbeats 2000000
namespace Sm
open PySem PySem.Spec PyProof.Rows L2
section
variable {X : Cx} {cl : Nat → Addr} {W : WX} {es : List Expr} {t : TA} {r : M (List T)} {pos : Pos}
end
end Sm
set_option maxHeartbeats 2000000
namespace Sm
open PySem PySem.Spec PyProof.Rows L2
def getS : List (Str × T) → Str → Option T
  | [], _ => none
  | (k, t) :: r, x => if k = x then some t else getS r x
def putS (l : List (Str × T)) (x : Str) (t : T) : List (Str × T) := if (getS l x).isSome = true then l.map fun p => if p.1 = x then (p.1, t) else p else l ++ [(x, t)]
def dropS (l : List (Str × T)) (x : Str) : List (Str × T) := l.filter fun p => decide (p.1 ≠ x)
def keyed (l : List (Str × T)) : List (Key × T) := l.map fun p => (Sum.inr p.1, p.2)
def unk : List (Key × T) → Option (List (Str × T))
  | [] => some []
  | (.inr k, t) :: r => (unk r).map ((k, t) :: ·)
  | (.inl _, _) :: _ => none
theorem unk_keyed : ∀ l : List (Str × T), unk (keyed l) = some l
  | [] => rfl
  | (k, t) :: r => by
    show (unk (keyed r)).map _ = _
    rw [unk_keyed r]
    rfl
theorem unk_inv : ∀ {kvs : List (Key × T)} {l : List (Str × T)}, unk kvs = some l → kvs = keyed l
  | [], l, e => by
    cases e
    rfl
  | (.inr k, t) :: r, l, e => by
    obtain ⟨m, e1, rfl⟩ := Option.map_eq_some_iff.mp (show (unk r).map ((k, t) :: ·) = some l from e)
    rw [unk_inv e1]
    rfl
  | (.inl _, _) :: _, _, e => by cases e
def dcT (l : List (Str × T)) : T := .dct (Str.empty :: l.map (·.1)) (l.map (·.2))
def kvT : T → Option (List (Str × T))
  | .dct (_ :: ks) ts => if ks.length = ts.length then some (ks.zip ts) else none
  | _ => none
theorem kvT_dcT (l : List (Str × T)) : kvT (dcT l) = some l := by
  show (if _ then some ((l.map Prod.fst).zip (l.map Prod.snd)) else none) = _
  rw [if_pos (by simp)]
  congr 1
  induction l with
  | nil => rfl
  | cons p r ih => rw [List.map_cons, List.map_cons, List.zip_cons_cons, ih]
def puS (l : List (Str × T)) : Bool := pus (l.map (·.2))
theorem pu_dcT (l : List (Str × T)) : (dcT l).pu = puS l := rfl
section
variable {K : PySem.W.Frag} {cl : Nat → Addr} {ω : Wd} {h : Store} {H : Hp} {t : T} {v : V} {x : Str} {l : List (Str × T)} {kvs : List (Key × V)}
theorem puS_keyed : ∀ l : List (Str × T), puKV (keyed l) = puS l
  | [] => rfl
  | (k, t) :: r => by
    have ih := puS_keyed r
    show (t.pu && puKV (keyed r)) = (t.pu && pus (r.map (·.2)))
    rw [ih]
    rfl
theorem rkv_zip : ∀ {ks : List Str} {ts : List T} {vs : List V}, ks.length = ts.length → Reps K ω ts vs → RepKV K ω (keyed (ks.zip ts)) ((ks.map Sum.inr).zip vs)
  | [], [], _, _, _ => rfl
  | [], _ :: _, _, e, _ => by simp at e
  | _ :: _, [], _, e, _ => by simp at e
  | k :: ks, t :: ts, vs, e, r => by
    obtain ⟨v, vr, rfl, r1, r2⟩ := r.inv
    exact ⟨v, _, rfl, r1, rkv_zip (by simpa using e) r2⟩
theorem rkv_back : ∀ {l : List (Str × T)} {kvs : List (Key × V)}, RepKV K ω (keyed l) kvs → ∃ vs, kvs = ((l.map (·.1)).map Sum.inr).zip vs ∧ Reps K ω (l.map (·.2)) vs
  | [], _, r => ⟨[], r, Reps.nil⟩
  | (k, t) :: r, _, ⟨v, lr, e, r1, r2⟩ => by
    obtain ⟨vs, e1, r3⟩ := rkv_back r2
    exact ⟨v :: vs, by rw [e, e1]; rfl, Reps.cons r1 r3⟩
theorem kvT_ok (r : Rep K ω t v) (e : kvT t = some l) : ∃ p o kvs, v = .ref p ∧ ω.Phi p = some (.frz o (.dK kvs)) ∧ RepKV K ω (keyed l) kvs := by
  unfold kvT at e
  split at e
  · rename_i k ks ts
    split at e
    · rename_i hl
      cases e
      simp only [Rep] at r
      obtain ⟨p, vs, rfl, f, rs⟩ := r
      rcases f with ⟨o, f, _⟩ | ⟨z, _⟩
      · exact ⟨p, o, _, rfl, f, rkv_zip hl rs⟩
      · cases z
    · cases e
  · cases e
theorem rep_dcT {p : Addr} {o : Obj} (f : ω.Phi p = some (.frz o (.dK kvs))) (r : RepKV K ω (keyed l) kvs) : Rep K ω (dcT l) (.ref p) := by
  obtain ⟨vs, e, rs⟩ := rkv_back r
  unfold dcT
  simp only [Rep]
  exact ⟨p, vs, rfl, .inl ⟨o, by rw [f, e]; rfl, by simp⟩, rs⟩
theorem rkv_get : ∀ {l : List (Str × T)} {kvs : List (Key × V)}, RepKV K ω (keyed l) kvs → (∀ t, getS l x = some t → ∃ v, valV kvs (.inr x) = some v ∧ Rep K ω t v) ∧ (getS l x = none → valV kvs (.inr x) = none)
  | [], _, r => by
    cases (show _ = [] from r)
    exact ⟨fun t e => (by cases e), fun _ => rfl⟩
  | (k, u) :: r, _, ⟨v, lr, e, r1, r2⟩ => by
    have ih := rkv_get r2
    subst e
    unfold getS
    by_cases c : k = x
    · rw [if_pos c]
      exact ⟨fun t e => ⟨v, valV_pos (by show Sum.inr k = _; rw [c]), by cases e; exact r1⟩, fun z => by cases z⟩
    · rw [if_neg c, valV_neg (fun z : Sum.inr k = _ => c (Sum.inr.inj z))]
      exact ih
theorem rkv_any {l : List (Str × T)} {kvs : List (Key × V)} (r : RepKV K ω (keyed l) kvs) : (valV kvs (.inr x)).isSome = (getS l x).isSome := by
  have g := rkv_get (x := x) r
  cases e : getS l x with
  | none => rw [g.2 e]; rfl
  | some t =>
    obtain ⟨v, e1, _⟩ := g.1 t e
    rw [e1]
    rfl
theorem rkv_put (rt : Rep K ω t v) {l : List (Str × T)} {kvs : List (Key × V)} (r : RepKV K ω (keyed l) kvs) : RepKV K ω (keyed (putS l x t)) (putK kvs (.inr x) v) := by
  have an := rkv_any (x := x) r
  unfold putS putK
  rw [valV_any, an]
  cases c : (getS l x).isSome with
  | true =>
    rw [if_pos rfl, if_pos rfl]
    clear an c
    induction l generalizing kvs with
    | nil =>
      cases (show _ = [] from r)
      exact rfl
    | cons p q ih =>
      obtain ⟨k, u⟩ := p
      obtain ⟨w, lr, rfl, r1, r2⟩ := r
      have := ih r2
      by_cases c : k = x
      · subst c
        rw [List.map_cons, List.map_cons, if_pos rfl, if_pos rfl]
        exact ⟨v, _, rfl, rt, this⟩
      · rw [List.map_cons, List.map_cons, if_neg c, if_neg (fun z : Sum.inr k = _ => c (Sum.inr.inj z))]
        exact ⟨w, _, rfl, r1, this⟩
  | false =>
    rw [if_neg Bool.false_ne_true, if_neg Bool.false_ne_true]
    clear an c
    induction l generalizing kvs with
    | nil =>
      cases (show _ = [] from r)
      exact ⟨v, [], rfl, rt, rfl⟩
    | cons p q ih =>
      obtain ⟨k, u⟩ := p
      obtain ⟨w, lr, rfl, r1, r2⟩ := r
      exact ⟨w, _, rfl, r1, ih r2⟩
theorem rkv_drop {l : List (Str × T)} : ∀ {kvs : List (Key × V)}, RepKV K ω (keyed l) kvs → RepKV K ω (keyed (dropS l x)) (dropK kvs (.inr x)) := by
  induction l with
  | nil =>
    intro kvs r
    cases (show _ = [] from r)
    exact rfl
  | cons p q ih =>
    intro kvs r
    obtain ⟨k, u⟩ := p
    obtain ⟨w, lr, rfl, r1, r2⟩ := r
    have := ih r2
    unfold dropS dropK
    by_cases c : k = x
    · subst c
      rw [List.filter_cons_of_neg (by simp), List.filter_cons_of_neg (by simp)]
      exact this
    · rw [List.filter_cons_of_pos (by simpa using c), List.filter_cons_of_pos (by simpa using c)]
      exact ⟨w, _, rfl, r1, this⟩
theorem puS_map (ht : t.pu = true) : ∀ {l : List (Str × T)}, puS l = true → puS (l.map fun p => if p.1 = x then (p.1, t) else p) = true
  | [], _ => rfl
  | (k, u) :: r, hp => by
    have hp : (u.pu && puS r) = true := hp
    rw [Bool.and_eq_true] at hp
    have ih := puS_map ht hp.2
    rw [List.map_cons]
    show (_ && puS _) = true
    rw [Bool.and_eq_true]
    refine ⟨?_, ih⟩
    by_cases c : k = x
    · rw [if_pos c]
      exact ht
    · rw [if_neg c]
      exact hp.1
theorem puS_app (ht : t.pu = true) : ∀ {l : List (Str × T)}, puS l = true → puS (l ++ [(x, t)]) = true
  | [], _ => by
    show (t.pu && true) = true
    rw [ht]
    rfl
  | (k, u) :: r, hp => by
    have hp : (u.pu && puS r) = true := hp
    rw [Bool.and_eq_true] at hp
    have ih := puS_app ht hp.2
    show (u.pu && puS (r ++ [(x, t)])) = true
    rw [hp.1, ih]
    rfl
theorem putS_pu (hp : puS l = true) (ht : t.pu = true) : puS (putS l x t) = true := by
  unfold putS
  split
  · exact puS_map ht hp
  · exact puS_app ht hp
theorem dropS_pu (hp : puS l = true) : puS (dropS l x) = true := by
  unfold dropS
  induction l with
  | nil => rfl
  | cons p r ih =>
    have hp : (p.2.pu && pus (r.map (·.2))) = true := hp
    rw [Bool.and_eq_true] at hp
    by_cases c : p.1 = x
    · rw [List.filter_cons_of_neg (by simpa using c)]
      exact ih hp.2
    · rw [List.filter_cons_of_pos (by simpa using c)]
      show (p.2.pu && pus _) = true
      rw [Bool.and_eq_true]
      exact ⟨hp.1, ih hp.2⟩
theorem rkv_len {l : List (Str × T)} {kvs : List (Key × V)} (r : RepKV K ω (keyed l) kvs) : kvs.length = l.length := by
  have := r.size
  unfold keyed at this
  rw [List.length_map] at this
  exact this.symm
theorem rkv_keys : ∀ {l : List (Str × T)} {kvs : List (Key × V)}, RepKV K ω (keyed l) kvs → kvs.map (·.1) = (l.map (·.1)).map Sum.inr
  | [], _, r => by
    cases (show _ = [] from r)
    rfl
  | (k, t) :: r, _, ⟨v, lr, e, r1, r2⟩ => by
    rw [e, List.map_cons, rkv_keys r2]
    rfl
end
def celD (h : Store) : T → Option (Nat × List (Str × T))
  | .loc n => match h[n]? with
    | some (.dK kvs) => (unk kvs).map fun l => (n, l)
    | _ => none
  | _ => none
theorem celD_ok {K : PySem.W.Frag} {cl : Nat → Addr} {ω : Wd} {h : Store} {H : Hp} {t : T} {v : V} {n : Nat} {l : List (Str × T)} (S : StOk K cl ω h H) (r : Rep K ω t v) (e : celD h t = some (n, l)) :
    t = .loc n ∧ h[n]? = some (.dK (keyed l)) ∧ ∃ p kvs, v = .ref p ∧ ω.rho[n]? = some p ∧ puS l = true ∧ H p = some (.dK kvs) ∧ RepKV K ω (keyed l) kvs := by
  unfold celD at e
  split at e
  · rename_i m
    split at e
    · rename_i kvs hm
      obtain ⟨l2, e1, e2⟩ := Option.map_eq_some_iff.mp e
      cases e2
      have := unk_inv e1
      subst this
      simp only [Rep] at r
      obtain ⟨p, rfl, q⟩ := r
      obtain ⟨pk, kv2, hp, rk⟩ := S.cells _ _ p hm q
      rw [puS_keyed] at pk
      exact ⟨rfl, hm, p, kv2, rfl, q, pk, hp, rk⟩
    · cases e
  · cases e
def mEmpD : M T := fun _ h => .ok (dcT []) h
def mCopyD (r : M (List T)) : M T := fun env h => (r env h).bind fun as h1 => match as with
  | [a] => match kvT a with
    | some l => if puS l = true ∧ l.length ≤ 1000 then .ok (.loc h1.length) (h1 ++ [.dK (keyed l)]) else .bad
    | none => .bad
  | _ => .bad
def mFrzD (m : M T) : M T := fun env h => (m env h).bind fun a h1 => match celD h1 a with
  | some (n, l) => .ok (dcT l) (h1.set n .dead)
  | none => .bad
def sPutD (mv mo mi : M T) : MS := fun env h => bindE (mv env h) env fun v h1 => bindE (mo env h1) env fun a h2 => bindE (mi env h2) env fun i h3 => match celD h3 a, i with
  | some (n, l), .str k => if v.pu = true ∧ l.length ≤ 1000 then .nx env (h3.set n (.dK (keyed (putS l k v)))) else .bad
  | _, _ => .bad
def mPopD (mo me : M T) : M T := fun env h => (mo env h).bind fun a h1 => match celD h1 a with
  | some _ => (me env h1).bind fun b h2 => match celD h2 a, b with
    | some (n, l), .str k => match getS l k with
      | some t => .ok t (h2.set n (.dK (keyed (dropS l k))))
      | none => .bad
    | _, _ => .bad
  | none => .bad
def fGetS : F2 := fun a b _ => match b with
  | .str k => (kvT a).bind fun l => getS l k
  | _ => none
def fNotInS : F2 := fun b a _ => match b with
  | .str k => (kvT a).map fun l => .bl (!(getS l k).isSome)
  | _ => none
def fLenS : FA := fun as _ => match as with
  | [a] => (kvT a).bind fun l => if l.length ≤ 1000 then some (.int (l.length : Nat)) else none
  | _ => none
def leS (a b : Str) : Bool := !ltCps b.cps.toList a.cps.toList
def sortS (ks : List Str) : List Str := ks.mergeSort leS
def fSortS (as : List T) (_ : Store) : Option (List T) := match as with
  | [a] => (kvT a).bind fun l => if l.length < 64 then some ((sortS (l.map (·.1))).map T.str) else none
  | _ => none
def fEqN : F2 := fun a b h => match lstOf h a, lstOf h b with
  | some xs, some [] => some (.bl xs.isEmpty)
  | _, _ => none
def mKeysD (m : M T) : M Src := fun env h => (m env h).bind fun a h1 => match kvT a with
  | some l => .ok ⟨l.map fun p => .str p.1, []⟩ h1
  | none => .bad
theorem sortS_perm {ks : List Str} : (sortS ks).Perm ks := List.mergeSort_perm _ _
theorem leS_iff {a b : Str} : leS a b = true ↔ ¬ b.cps.toList < a.cps.toList := by
  unfold leS
  rw [ltCps_eq]
  simp
theorem sortS_pair {ks : List Str} : (sortS ks).Pairwise fun a b => leS a b = true := List.pairwise_mergeSort (fun a b c h1 h2 => by
  rw [leS_iff] at *
  exact List.le_trans h1 h2) (fun a b => by
  rw [Bool.or_eq_true, leS_iff, leS_iff]
  exact List.le_total _ _) ks
theorem leS_anti {a b : Str} (h1 : leS a b = true) (h2 : leS b a = true) : a = b := by
  rw [leS_iff] at h1 h2
  have e : a.cps.toList = b.cps.toList := List.le_antisymm h1 h2
  obtain ⟨x⟩ := a
  obtain ⟨y⟩ := b
  obtain ⟨x⟩ := x
  obtain ⟨y⟩ := y
  congr 2
theorem rising_pair : ∀ {ks : List Str}, sortedS ks = true → ks.Pairwise fun a b => leS a b = true := by
  have step : ∀ {ks : List Str} {p : Str}, risingS p ks = true → (p :: ks).Pairwise fun a b => leS a b = true := by
    intro ks
    induction ks with
    | nil => exact fun _ => List.pairwise_singleton ..
    | cons x r ih =>
      intro p h
      have h : (leS p x && risingS x r) = true := h
      rw [Bool.and_eq_true] at h
      have q := ih h.2
      refine List.pairwise_cons.mpr ⟨fun y hy => ?_, q⟩
      rcases List.mem_cons.mp hy with z | z
      · rw [z]
        exact h.1
      · have := (List.pairwise_cons.mp q).1 y z
        have h1 := h.1
        rw [leS_iff] at *
        exact List.le_trans h1 this
  intro ks h
  cases ks with
  | nil => exact .nil
  | cons x r => exact step h
theorem sortS_uniq {ks ys : List Str} (p : ys.Perm ks) (s : sortedS ys = true) : ys = sortS ks :=
  List.Perm.eq_of_pairwise (le := fun a b => leS a b = true) (fun _ _ _ _ h1 h2 => leS_anti h1 h2) (rising_pair s) sortS_pair (p.trans sortS_perm.symm)
section
variable {X : Cx} {cl : Nat → Addr} {W : WX} {a b e o f : Expr} {es : List Expr} {m n mo me mv mi : M T} {r : M (List T)} {pos p apos cpos : Pos}
theorem upd_two {H : Hp} {q : Addr} {u w : HO} : upd (upd H q u) q w = upd H q w := by
  funext c
  by_cases z : c = q
  · rw [z, upd_same, upd_same]
  · rw [upd_ne z, upd_ne z, upd_ne z]
theorem k_empD : PE X (.Dict [] [] pos) (tE X.K cl W mEmpD) := by
  refine ⟨fun pins s σ H Q I ⟨env, h, ω, he, S, q⟩ => thn (pe_dnewK.run pins s σ H (fun v H1 => ∃ d, v = .ref d ∧ H d = none ∧ H1 = upd H d (.dK [])) I fun d hd => ⟨d, rfl, hd, rfl⟩) ?_⟩
  rintro u s1 ⟨x, H1, I1, rx, d, rfl, hd, rfl⟩
  obtain ⟨od, I2⟩ := I1.lock upd_same trivial
  rw [upd_two] at I2
  exact ⟨.ref d, _, I2, rx, q _ _ (nx_newF S hd) (S.newF hd) _ (rep_dcT (l := []) upd_same rfl)⟩
theorem k_copyD (z : X.mg "dict" = none) (ha : PA X (e :: es) (tA X.K cl W r)) (hg : Gl X "dict" := by rfl) (he : starEach (e :: es) X.env = (false, eval e X.env) :: starEach es X.env := by rfl) (hpl : (backTo pos (starEach es X.env)).any (·.1) = false := by rfl) : PE X (.Call (.Name "dict" p) (e :: es) [] pos) (tE X.K cl W (mCopyD r)) := by
  refine (pe_callTy call_dictD hg z boot_dict ha (by decide) (by decide) he hpl).weak fun σ H Q ⟨env, h, ω, hen, S, q⟩ => ⟨env, h, ω, hen, S, (PostG.bind q).mono fun as h1 ω1 H1 N1 S1 q1 vs rs => ?_⟩
  split at q1
  · rename_i t
    split at q1
    · rename_i l ek
      split at q1
      · rename_i c
        obtain ⟨v, vr, rfl, r1, r2⟩ := rs.inv
        rw [r2.nil_inv]
        obtain ⟨d, od, kvs, rfl, f, rk⟩ := kvT_ok r1 ek
        refine ⟨d, kvs, rfl, .inr ⟨od, S1.phi _ _ f⟩, fun q2 hq => ?_⟩
        have S2 := S1.lay (o := .dK kvs) hq
        refine q1 _ _ ((nx_lay hq).cellIt hq) (S2.cellIt (c := .dK (keyed l)) ⟨by rw [puS_keyed]; exact c.1, kvs, upd_same, rk⟩ (S1.freshF hq) (S1.freshR hq)) _ ?_
        simp only [Rep]
        refine ⟨q2, rfl, ?_⟩
        show (ω1.rho ++ [q2])[h1.length]? = some q2
        rw [List.getElem?_append_right (by rw [S1.len]; exact Nat.le_refl _), S1.len]
        simp
      · exact q1.elim
    · exact q1.elim
  · exact q1.elim
theorem k_frzD (he : PE X e (tE X.K cl W m)) : PE X e (tE X.K cl W (mFrzD m)) := by
  refine ⟨fun pins s σ H Q I ⟨env, h, ω, hen, S, q⟩ => thn (he.run pins s σ H _ I ⟨env, h, ω, hen, S, (PostG.bind q).mono fun ta h1 ω1 H1 N1 S1 q1 x rx => (⟨ta, h1, ω1, S1, rx, q1⟩ : ∃ ta h1 ω1, StOk X.K cl ω1 h1 H1 ∧ Rep X.K ω1 ta x ∧ PostG X.K cl W ω1 H1 σ (match celD h1 ta with
    | some (n, l) => .ok (dcT l) (h1.set n .dead)
    | none => .bad) fun t _ ω' H' => ∀ v, Rep X.K ω' t v → Q v H')⟩) ?_⟩
  rintro u s1 ⟨x, H1, I1, rx, ta, h1, ω1, S1, ra, q1⟩
  cases ec : celD h1 ta with
  | none => rw [ec] at q1; exact q1.elim
  | some nl =>
    obtain ⟨n, l⟩ := nl
    rw [ec] at q1
    obtain ⟨rfl, hn, d, kvs, rfl, at_, pl, hp, rk⟩ := celD_ok S1 ra ec
    obtain ⟨od, I2⟩ := I1.lock hp trivial
    have al := S1.alive hn (fun z => by cases z) at_
    have S2 := S1.fasten (u := .frz od (.dK kvs)) (fun _ z => nomatch z) hn (fun z => by cases z) at_
    have N2 : Nx ω1 H1 (ω1.fix d (.frz od (.dK kvs))) (upd H1 d (.frz od (.dK kvs))) := nx_fasten al at_
    exact ⟨.ref d, _, I2, rx, q1 _ _ N2 S2 _ (rep_dcT upd_same (rk.mono N2.toGr))⟩
theorem ks_putD {ob ix ev : Expr} {p pos : Pos} (hu : X.A.units + 64 < cLine) (hv : PE X ev (tE X.K cl W mv)) (ho : PE X ob (tE X.K cl W mo)) (hi : PE X ix (tE X.K cl W mi)) (hs : swapsWith ev (some (.Subscript ob ix p)) pos.line X.env = pure false := by rfl) :
    PS X (.Assign [.Subscript ob ix p] ev pos) (tS X.K cl W (sPutD mv mo mi)) := by
  refine (ps_dput (by omega) ho hi hv hs).weak fun D σ H ⟨env, h, ω, he, hs, q⟩ => ⟨env, h, ω, he, hs, (PostS.bindE he q).mono fun t h1 ω1 H1 N1 S1 q1 v r => ⟨env, h1, ω1, he.mono N1.toGr, S1, (PostS.bindE (he.mono N1.toGr) q1).mono fun a h2 ω2 H2 N2 S2 q2 x rx => ?_⟩⟩
  refine ⟨env, h2, ω2, (he.mono N1.toGr).mono N2.toGr, S2, (PostS.bindE ((he.mono N1.toGr).mono N2.toGr) q2).mono fun i h3 ω3 H3 N3 S3 q3 y ry => ?_⟩
  split at q3
  · rename_i n l k ec
    split at q3
    · rename_i c
      obtain ⟨rfl, hn, d, kvs, rfl, at_, pl, hp, rk⟩ := celD_ok S3 (rx.mono N3.toGr) ec
      have len := rkv_len rk
      rw [ry.str_inv]
      refine ⟨d, _, rfl, DPut.k (k := .inr k) hp (by rw [len, sizeLine_eq]; omega), ?_⟩
      have rk2 := rkv_put (x := k) ((r.mono N2.toGr).mono N3.toGr) rk
      refine q3 ω3 _ σ (nx_put S3 at_) (S3.put hn (fun z => by cases z) at_ (c := .dK (keyed (putS l k t))) ⟨by rw [puS_keyed]; exact putS_pu pl c.1, _, upd_same, rk2⟩) (((he.mono N1.toGr).mono N2.toGr).mono N3.toGr)
    · exact q3.elim
  · exact q3.elim
theorem k_popD (ho : PE X o (tE X.K cl W mo)) (he : PE X e (tE X.K cl W me)) (mm : M1 X o "pop" apos e cpos := by exact ⟨rfl, rfl, rfl, rfl⟩) : PE X (.Call (.Attribute o "pop" apos) [e] [] cpos) (tE X.K cl W (mPopD mo me)) := by
  refine (pe_dpop1 ho he mm).weak fun σ H Q ⟨env, h, ω, hen, S, q⟩ => ⟨env, h, ω, hen, S, (PostG.bind q).mono fun ta h1 ω1 H1 N1 S1 q1 x rx => ?_⟩
  cases ec : celD h1 ta with
  | none => rw [ec] at q1; exact q1.elim
  | some nl =>
    obtain ⟨n, l⟩ := nl
    rw [ec] at q1
    obtain ⟨rfl, hn, d, kvs, rfl, at_, pl, hp, rk⟩ := celD_ok S1 rx ec
    refine ⟨d, rfl, .inl ⟨kvs, .inl hp⟩, env, h1, ω1, hen.mono N1.toGr, S1, (PostG.bind q1).mono fun tb h2 ω2 H2 N2 S2 q2 y ry => ?_⟩
    split at q2
    · rename_i n2 l2 k ec2
      split at q2
      · rename_i t et
        obtain ⟨e1, hn2, d2, kv2, ed, at2, pl2, hp2, rk2⟩ := celD_ok S2 (rx.mono N2.toGr) ec2
        cases e1
        cases ed
        obtain ⟨v, ev, rv⟩ := (rkv_get (x := k) rk2).1 t et
        rw [ry.str_inv]
        refine ⟨kv2, .inr k, v, hp2, rfl, ev, ?_⟩
        have rk3 := rkv_drop (x := k) rk2
        exact q2 ω2 _ (nx_put S2 at2) (S2.put hn2 (fun z => by cases z) at2 (c := .dK (keyed (dropS l2 k))) ⟨by rw [puS_keyed]; exact dropS_pu pl2, _, upd_same, rk3⟩) v rv
      · exact q2.elim
    · exact q2.elim
theorem k_getS (hu : X.A.units + 64 < cLine) (ha : PE X a (tE X.K cl W m)) (hb : PE X b (tE X.K cl W n)) (hs : NoSl b := by exact fun _ _ => rfl) : PE X (.Subscript a b pos) (tE X.K cl W (mBin fGetS m n)) := by
  refine (pe_dget (by omega) ha hb hs).weak fun σ H Q h => ?_
  obtain ⟨env, h0, ω, hen, S, q⟩ := h
  refine ⟨env, h0, ω, hen, S, (PostG.bind q).mono fun ta h1 ω1 H1 N1 S1 q1 x rx => ⟨env, h1, ω1, hen.mono N1.toGr, S1, (PostG.bind q1).mono fun tb h2 ω2 H2 N2 S2 q2 y ry => ?_⟩⟩
  obtain ⟨t, ef, q3⟩ := q2.ofO
  unfold fGetS at ef
  split at ef
  · rename_i k
    rw [Option.bind_eq_some_iff] at ef
    obtain ⟨l, e1, e2⟩ := ef
    obtain ⟨d, od, kvs, rfl, f, rk⟩ := kvT_ok (rx.mono N2.toGr) e1
    obtain ⟨v, ev, rv⟩ := (rkv_get (x := k) rk).1 t e2
    rw [ry.str_inv]
    exact ⟨d, v, rfl, .inl ⟨kvs, .inr k, .inr ⟨od, S2.phi _ _ f⟩, rfl, ev.symm⟩, q3 ω2 H2 (Nx.refl _ _) S2 v rv⟩
  · cases ef
theorem o_notInS (hu : X.A.units + 64 < cLine) : OpR X (compareOp .NotIn) (rV2 X.K cl fNotInS) := by
  rintro pins s σ H x y v u Q I rx ry ⟨ta, tb, h, ω, t, S, ra, rb, ef, q⟩
  unfold fNotInS at ef
  split at ef
  · rename_i k
    rw [Option.map_eq_some_iff] at ef
    obtain ⟨l, e1, rfl⟩ := ef
    obtain ⟨d, od, kvs, rfl, f, rk⟩ := kvT_ok rb e1
    cases (show u = .ref d from ry)
    rw [ra.str_inv] at rx
    refine d_notIn (o := valV kvs (.inr k)) (by omega) I (.inl ⟨kvs, .inr k, .inr ⟨od, S.phi _ _ f⟩, rfl, rfl⟩) rx fun s' I' => ?_
    rw [rkv_any rk]
    exact ⟨.bl _, H, I', rfl, q _ _ _ (Nx.refl _ _) S (by simp only [Rep])⟩
  · cases ef
theorem qt_notInS (hu : X.A.units + 64 < cLine) (ha : PE X a (tE X.K cl W m)) (hb : PE X b (tE X.K cl W n)) (hm : behindInMarks .NotIn b = false := by rfl) : PT X (.Compare a [.NotIn] [b] pos) (tT X.K cl W (mTst (mBin fNotInS m n))) := kt_cmp (o_notInS hu) hm ha hb
theorem c_lenS : CallR X (.builtin "len") (rVA X.K cl fLenS) := by
  rintro pins s σ H xs us Q I rx ⟨as, h, ω, t, S, ra, ee, q⟩
  unfold fLenS at ee
  split at ee
  · rename_i a
    rw [Option.bind_eq_some_iff] at ee
    obtain ⟨l, e1, e2⟩ := ee
    obtain ⟨c, e3⟩ := ne_ite e2
    cases e3
    obtain ⟨v, vr, rfl, r1, r2⟩ := ra.inv
    rw [r2.nil_inv] at rx
    obtain ⟨d, od, kvs, rfl, f, rk⟩ := kvT_ok r1 e1
    obtain ⟨u, rfl, r3⟩ := vals1 rx
    cases r3
    refine d_len I (.inr ⟨od, S.phi _ _ f⟩) fun tk s' I' => ?_
    rw [rkv_len rk]
    exact ⟨.int _, H, I', ⟨tk, rfl⟩, q _ _ _ (Nx.refl _ _) S rep_int⟩
  · cases ee
theorem q_lenS (z : X.mg "len" = none) (ha : PA X (e :: es) (tA X.K cl W r)) (hg : Gl X "len" := by rfl) (he : starEach (e :: es) X.env = (false, eval e X.env) :: starEach es X.env := by rfl) (hpl : (backTo pos (starEach es X.env)).any (·.1) = false := by rfl) : PE X (.Call (.Name "len" p) (e :: es) [] pos) (tE X.K cl W (mCallF fLenS r)) :=
  k_callB c_lenS hg z boot_len ha (by decide) (by decide) he hpl
theorem o_eqN (hu : X.A.units + 64 < cLine) : OpR X (compareOp .Eq) (rV2 X.K cl fEqN) := by
  rintro pins s σ H x y v u Q I rx ry ⟨ta, tb, h, ω, t, S, ra, rb, ef, q⟩
  unfold fEqN at ef
  split at ef
  · rename_i xs e1 e2
    cases ef
    obtain ⟨d1, vs, rfl, b1, c1⟩ := lstOf_ok S ra e1
    obtain ⟨d2, ws, rfl, b2, c2⟩ := lstOf_ok S rb e2
    rw [c2.nil_inv] at b2
    cases (show v = .ref d1 from rx)
    cases (show u = .ref d2 from ry)
    obtain ⟨us1, r1, l1, _⟩ := I.list (SqL.of b1)
    obtain ⟨us2, r2, l2, _⟩ := I.list (SqL.of b2)
    cases r2
    have fin : (fun v' s' => ∃ z H', Inv X pins σ H' s' ∧ RelV z v' ∧ Q z H') (.bool xs.isEmpty) s := ⟨.bl xs.isEmpty, H, I, rfl, q _ _ _ (Nx.refl _ _) S (by simp only [Rep])⟩
    have ln : us1.length = xs.length := by rw [← r1.length, c1.length]
    cases xs with
    | nil =>
      have e0 : us1 = [] := List.length_eq_zero_iff.mp ln
      subst e0
      exact SeqAt.eq_listAt (e := fun _ => true) l1.isList l2.isList rfl (by omega) (fun j h1 h2 => absurd h2 (by simp)) fin
    | cons a r =>
      have e0 : (us1.toArray.size != ([] : List Value).toArray.size) = true := by
        rw [List.size_toArray, ln]
        rfl
      exact SeqAt.eq_list_lengthsAt l1.isList l2.isList e0 (by omega) fin
  · cases ef
theorem qt_eqN (hu : X.A.units + 64 < cLine) (ha : PE X a (tE X.K cl W m)) (hb : PE X b (tE X.K cl W n)) (hm : behindInMarks .Eq b = false := by rfl) : PT X (.Compare a [.Eq] [b] pos) (tT X.K cl W (mTst (mBin fEqN m n))) := kt_cmp (o_eqN hu) hm ha hb
theorem reps_strs {K : PySem.W.Frag} {ω : Wd} : ∀ ks : List Str, Reps K ω (ks.map T.str) (ks.map V.str)
  | [] => Reps.nil
  | k :: r => Reps.cons rep_str (reps_strs r)
theorem n_sortS (hc : X.calm = true) : CallR X (.builtin "sorted") (rNewA X.K cl fSortS) := by
  intro pins s σ H xs us Q I rx ⟨as, h, ω, t, S, ra, ee, q⟩
  unfold fSortS at ee
  split at ee
  · rename_i a
    rw [Option.bind_eq_some_iff] at ee
    obtain ⟨l, e1, e2⟩ := ee
    obtain ⟨c, e3⟩ := ne_ite e2
    cases e3
    obtain ⟨v, vr, rfl, r1, r2⟩ := ra.inv
    rw [r2.nil_inv] at rx
    obtain ⟨d, od, kvs, rfl, f, rk⟩ := kvT_ok r1 e1
    refine call_sortedD hc pins s σ H _ us Q I rx ⟨d, kvs, l.map (·.1), rfl, .inr ⟨od, S.phi _ _ f⟩, rkv_keys rk, by rw [List.length_map]; exact c, fun ys q2 pm so hq => ?_⟩
    rw [sortS_uniq pm so]
    exact q q2 _ (reps_strs _) hq
  · cases ee
theorem qn_sortS (hc : X.calm = true) (z : X.mg "sorted" = none) (ha : PA X (e :: es) (tA X.K cl W r)) (hg : Gl X "sorted" := by rfl) (he : starEach (e :: es) X.env = (false, eval e X.env) :: starEach es X.env := by rfl) (hpl : (backTo pos (starEach es X.env)).any (·.1) = false := by rfl) : PE X (.Call (.Name "sorted" p) (e :: es) [] pos) (tN X.K cl W (mNewA fSortS r)) :=
  kn_callB (n_sortS hc) hg z (by rfl) ha (by decide) (by decide) he hpl
theorem it_keysD {K : PySem.W.Frag} {ω0 : Wd} {d : Addr} {od : Obj} {kvs : List (Key × V)} {l : List (Str × T)} (f : ω0.Phi d = some (.frz od (.dK kvs))) (rk : RepKV K ω0 (keyed l) kvs) : ItOk K cl (Itk d od kvs) ⟨l.map fun p => .str p.1, []⟩ ω0 := by
  have ln := rkv_len rk
  have ks := rkv_keys rk
  refine ⟨fun i ω h H g S _ hi => ⟨S.phi _ _ (g.phi _ _ f), ?_⟩, fun ω h H g S _ => ⟨S.phi _ _ (g.phi _ _ f), ?_⟩, fun i ω h H x H' g S _ hi y => ?_⟩
  · have hi : i < (l.map fun p => T.str p.1).length := hi
    rw [List.length_map] at hi
    omega
  · show kvs.length ≤ (l.map fun p => T.str p.1).length
    rw [List.length_map]
    omega
  · obtain ⟨rfl, k, v, e1, rfl⟩ := y
    have e2 : (kvs.map (·.1))[i]? = some k := by rw [List.getElem?_map, e1]; rfl
    rw [ks, List.getElem?_map, List.getElem?_map] at e2
    cases e3 : l[i]? with
    | none => rw [e3] at e2; cases e2
    | some pr =>
      rw [e3] at e2
      cases e2
      refine ⟨ω, .str pr.1, Nx.refl _ _, S, ?_, rep_str⟩
      show (l.map fun p => T.str p.1)[i]? = _
      rw [List.getElem?_map, e3]
      rfl
theorem ki_keysD {tg : Expr} (he : PE X e (tE X.K cl W m)) : PI X tg e (tI X.K cl W (mKeysD m)) := by
  refine (pi_keys he).weak fun σ H R ⟨env, h, ω, hen, S, q⟩ => ⟨env, h, ω, hen, S, (PostG.bind q).mono fun ta h1 ω1 H1 N1 S1 q1 x rx => ?_⟩
  cases ek : kvT ta with
  | none => rw [ek] at q1; exact q1.elim
  | some l =>
    rw [ek] at q1
    obtain ⟨d, od, kvs, rfl, f, rk⟩ := kvT_ok rx ek
    exact ⟨d, od, rfl, .inl ⟨kvs, S1.phi _ _ f, q1 ω1 H1 (Nx.refl _ _) S1 _ (it_keysD f rk)⟩⟩
end
section
variable {X : Cx} {cl : Nat → Addr} {W : WX} {o e : Expr} {es : List Expr} {mo : M T} {r : M (List T)} {F : Fn} {c j k n : Nat} {x : Str} {ps : List Str} {p pos apos : Pos} {CX : CXT} {f C : Addr} {fd : FuncData} {sp : Sp} {E : L2.St → XK} {ta : TE} {t : TA}
def tMethS (C : Addr) (m : Str) (sp : Sp) (E : L2.St → XK) (ta : TE) (t : TA) : TE := fun σ H Q => ta σ H fun x H1 => ∃ a dx fs, x = .ref a ∧ H1 a = some (.ins C dx fs) ∧ fs.lookup m = none ∧ t σ H1 fun vs H2 => sp (x :: vs) H2 Q (E σ)
theorem pe_methS {pl : Sem Bool} (he : PE X o ta) (c : Cls X.K C) (hm : Meth X.K C x f) (F : FnOk X.prog X.w X.K X.mg X.base CX k f fd ps sp) (hr : Room k X.A) (hb : Binds X.K fd ps []) (hx : ∀ σ, PassesAt CX X σ (E σ)) (ha : PA X (e :: es) t)
    (hst : starEach (e :: es) X.env = (false, eval e X.env) :: starEach es X.env) (hpl : (backTo pos (starEach es X.env)).any (·.1) = false)
    (ht : eval (.Call (.Attribute o x apos) (e :: es) [] pos) X.env = (do let ov ← eval o X.env; standAt apos.atName; let (g, self) ← holding [ov] (getMethod ov x pl); callWith pos g self (backTo pos (starEach (e :: es) X.env)) (backToKw pos (keywordEach [] X.env)))) :
    PE X (.Call (.Attribute o x apos) (e :: es) [] pos) (tMethS C x sp E ta t) := by
  refine ⟨fun pins s σ H Q I h => PySem.W.methodCall_KW (pl := pl) (thn (he.run pins s σ H _ I h) ?_) ht⟩
  rintro u s1 ⟨y, H1, I1, rx, a, dx, fs, rfl, ea, l, q⟩
  cases (show u = Value.ref a from rx)
  refine getmeth_ok I1 ea c hm l (PySem.W.callWith_K (first := [.ref a]) (h₀ := X.base) I.ok.mod.kin hm.kp (thn (ha.run pos pins s1 σ H1 _ I1 q) ?_) hst hpl)
  rintro us s2 ⟨vs, H2, I2, rv, q2⟩
  exact ⟨I2.kIn, run_fnS (us := .ref a :: us) (vs := .ref a :: vs) F hr hb (hx σ) I2 (.cons rfl rv) q2⟩
theorem pe_methS0 {pl : Sem Bool} (he : PE X o ta) (c : Cls X.K C) (hm : Meth X.K C x f) (F : FnOk X.prog X.w X.K X.mg X.base CX k f fd ps sp) (hr : Room k X.A) (hb : Binds X.K fd ps []) (hx : ∀ σ, PassesAt CX X σ (E σ))
    (ht : eval (.Call (.Attribute o x apos) [] [] pos) X.env = (do let ov ← eval o X.env; standAt apos.atName; let (g, self) ← holding [ov] (getMethod ov x pl); callWith pos g self (backTo pos (starEach [] X.env)) (backToKw pos (keywordEach [] X.env)))) :
    PE X (.Call (.Attribute o x apos) [] [] pos) (tMethS C x sp E ta tNil) := by
  refine ⟨fun pins s σ H Q I h => PySem.W.methodCall_KW (pl := pl) (thn (he.run pins s σ H _ I h) ?_) ht⟩
  rintro u s1 ⟨y, H1, I1, rx, a, dx, fs, rfl, ea, l, q⟩
  cases (show u = Value.ref a from rx)
  exact getmeth_ok I1 ea c hm l (PySem.W.callWith_K0 (first := [.ref a]) I1.kIn hm.kp (run_fnS (us := [.ref a]) (vs := [.ref a]) F hr hb (hx σ) I1 (.cons rfl .nil) q))
theorem methS_step {K : PySem.W.Frag} {σ : L2.St} {H : Hp} {Q : VK} (hn : ∀ ts h, ts.length ≠ n → F ts h = .bad) (h : tE K cl W (mMeth c x F mo r) σ H Q) : tMethS (cl c) x (spF K cl F n) (WE W) (tE K cl W mo) (tA K cl W r) σ H Q := by
  obtain ⟨env, h, ω, he, hs, q⟩ := h
  refine ⟨env, h, ω, he, hs, (PostG.bind q).mono fun a h1 ω1 H1 N1 S1 q1 v rv => ?_⟩
  cases e1 : insOf c h1 a with
  | none => rw [e1] at q1; exact q1.elim
  | some nf =>
    obtain ⟨n1, fs⟩ := nf
    rw [e1] at q1
    obtain ⟨rfl, hn', p, dx, l, rfl, e4, e5, r5⟩ := insOf_ok S1 rv e1
    by_cases hl : (fs.lookup x).isNone = true
    · simp only [if_pos hl] at q1
      refine ⟨p, dx, l, rfl, e5, r5.lookN (by simpa using hl), env, h1, ω1, he.mono N1.toGr, S1, (PostG.bind q1).mono fun as h2 ω2 H2 N2 S2 q2 vs rvs => ?_⟩
      refine ⟨Classical.byContradiction fun z => ?_, .loc n1 :: as, h2, ω2, S2, Reps.cons (rv.mono N2.toGr) rvs, q2.reW⟩
      rw [hn (.loc n1 :: as) h2 (by rw [List.length_cons, rvs.length]; exact z)] at q2
      exact q2
    · simp only [if_neg hl] at q1
      exact q1.elim
theorem k_methS (co : Ok X W k) (G : CalM X.prog X.w X.K X.mg X.base cl c x j ps F n) (hj : j ≤ k) (he : PE X o (tE X.K cl W mo)) (ha : PA X (e :: es) (tA X.K cl W r))
    (hst : starEach (e :: es) X.env = (false, eval e X.env) :: starEach es X.env := by rfl) (hpl : (backTo pos (starEach es X.env)).any (·.1) = false := by rfl) {pl : Sem Bool}
    (ht : eval (.Call (.Attribute o x apos) (e :: es) [] pos) X.env = (do let ov ← eval o X.env; standAt apos.atName; let (g, self) ← holding [ov] (getMethod ov x pl); callWith pos g self (backTo pos (starEach (e :: es) X.env)) (backToKw pos (keywordEach [] X.env))) := by rfl) :
    PE X (.Call (.Attribute o x apos) (e :: es) [] pos) (tE X.K cl W (mMeth c x F mo r)) := by
  obtain ⟨f, fd, G1, m, b⟩ := G.ex
  exact (pe_methS he G.cls m G1 (co.room.mono hj) b (fun σ => L2N.passAt co.tk σ) ha hst hpl ht).weak fun _ _ _ h => methS_step G.len h
theorem k_methS0 (co : Ok X W k) (G : CalM X.prog X.w X.K X.mg X.base cl c x j ps F n) (hj : j ≤ k) (he : PE X o (tE X.K cl W mo)) {pl : Sem Bool}
    (ht : eval (.Call (.Attribute o x apos) [] [] pos) X.env = (do let ov ← eval o X.env; standAt apos.atName; let (g, self) ← holding [ov] (getMethod ov x pl); callWith pos g self (backTo pos (starEach [] X.env)) (backToKw pos (keywordEach [] X.env))) := by rfl) :
    PE X (.Call (.Attribute o x apos) [] [] pos) (tE X.K cl W (mMeth c x F mo mNil)) := by
  obtain ⟨f, fd, G1, m, b⟩ := G.ex
  refine (pe_methS0 he G.cls m G1 (co.room.mono hj) b (fun σ => L2N.passAt co.tk σ) ht).weak fun σ H Q h => ?_
  obtain ⟨env, h, ω, he, hs, q⟩ := methS_step G.len h
  refine ⟨env, h, ω, he, hs, q.mono fun a h1 ω1 H1 N1 S1 q1 v rv => ?_⟩
  obtain ⟨p, dx, fs, e1, e2, e3, env2, h2, ω2, he2, hs2, q2⟩ := q1 v rv
  exact ⟨p, dx, fs, e1, e2, e3, q2 ω2 _ (Nx.refl _ _) hs2 [] Reps.nil⟩
def tMakeS (C : Addr) (sp : Sp) (E : L2.St → XK) (t : TA) : TE := fun σ H Q => t σ H fun vs H1 => ∀ y dx, H1 y = none → H1 dx = none → dx ≠ y → sp (.ref y :: vs) (upd (upd H1 dx (.own y)) y (.ins C dx [])) (fun v H2 => v = .non ∧ Q (.ref y) H2) (E σ)
theorem pe_makeS (M : Mk X.K C f) (F : FnOk X.prog X.w X.K X.mg X.base CX k f fd ps sp) (hr : Room (k + 1) X.A) (hg : Gl X x) (hm : X.mg x = some (.ref C)) (hb : Binds X.K fd ps []) (hx : ∀ σ, PassesAt CX X σ (E σ)) (ha : PA X (e :: es) t) (hdb : (x == ("__debug__" : Str)) = false)
    (he : starEach (e :: es) X.env = (false, eval e X.env) :: starEach es X.env) (hpl : (backTo pos (starEach es X.env)).any (·.1) = false) : PE X (.Call (.Name x p) (e :: es) [] pos) (tMakeS C sp E t) := by
  refine ⟨fun pins s0 σ H0 Q I0 h0 => wpAny_Call_Name_kw (ld_glob I0 hg hm (PySem.W.callWith_K (h₀ := X.base) I0.ok.mod.kin M.kp (thn (ha.run pos pins s0 σ H0 _ I0 h0) ?_) he hpl) hdb)⟩
  rintro us s ⟨vs, H, I, rel, q⟩
  generalize hN : s.heap.objs.size = N
  have hq := q (N + 1) N (I.hok.fresh (by rw [hN]; exact Nat.le_succ N)) (I.hok.fresh (by rw [hN]; exact Nat.le_refl N)) (Nat.ne_of_lt (Nat.lt_succ_self N))
  have J := Inv.made (C := C) I
  rw [hN] at J
  have rel2 : Vals (V.ref (N + 1) :: vs) (Value.ref (N + 1) :: us) := .cons rfl rel
  have len : (Value.ref (N + 1) :: us).length = ps.length := rel2.length.symm.trans (F.len _ _ _ _ hq)
  have bnd := hb _ (Value.ref (N + 1) :: us) J.kIn (by rw [List.append_nil]; exact len)
  rw [List.append_nil] at bnd
  subst hN
  refine ⟨I.kIn, wpAny_call (make_map (f := f) I.kIn M.makes M.init (beq_iff_eq.mp M.fn) (codeAny_mono (F.run _ X.stack _ _ _ _ _ _ (E σ) (hr.make C us []) (J.env0.make C us []) bnd rel2 hq) fun out s' z => ?_))⟩
  cases out with
  | error er => exact hx σ pins _ _ er s' J z
  | ok fl => cases fl with
    | ret u =>
      obtain ⟨v, H', I3, rv, rfl, q3⟩ := J.after z
      exact ⟨rv, V.ref _, H', I3, rfl, q3⟩
    | _ => exact False.elim z
theorem newS_step {K : PySem.W.Frag} {σ : L2.St} {H : Hp} {Q : VK} (hn : ∀ ts h, ts.length ≠ n → F ts h = .bad) (h : tE K cl W (mNew c F r) σ H Q) : tMakeS (cl c) (spF K cl F n) (WE W) (tA K cl W r) σ H Q := by
  obtain ⟨env, h, ω, he, hs, q⟩ := h
  refine ⟨env, h, ω, he, hs, (PostG.bind q).mono fun as h1 ω1 H1 N1 S1 q1 vs rvs p dx n1 n2 ne => ?_⟩
  have f1 : upd H1 dx (.own p) p = none := by rw [upd_ne (Ne.symm ne)]; exact n1
  have S2 : StOk K cl ω1 h1 (upd H1 dx (.own p)) := S1.lay n2
  have S3 : StOk K cl (ω1.cell p) (h1 ++ [.ins c []]) (upd (upd H1 dx (.own p)) p (.ins (cl c) dx [])) :=
    (S2.lay f1).cellIt (c := .ins c []) ⟨dx, [], upd_same, rfl⟩ (S2.freshF f1) (S2.freshR f1)
  have N3 : Nx ω1 H1 (ω1.cell p) (upd (upd H1 dx (.own p)) p (.ins (cl c) dx [])) := ((nx_lay (o := .own p) n2).trans (nx_lay (o := .ins (cl c) dx []) f1)).cellIt n1
  have rp : Rep K (ω1.cell p) (.loc h1.length) (.ref p) := by
    simp only [Rep]
    refine ⟨p, rfl, ?_⟩
    show (ω1.rho ++ [p])[h1.length]? = some p
    rw [List.getElem?_append_right (by rw [S1.len]; exact Nat.le_refl _), S1.len]
    simp
  have q2 := PostG.bind q1
  refine ⟨Classical.byContradiction fun z => ?_, .loc h1.length :: as, h1 ++ [.ins c []], ω1.cell p, S3, Reps.cons rp (rvs.mono N3.toGr), ?_⟩
  · rw [hn (.loc h1.length :: as) (h1 ++ [Cell.ins c ([] : List (Str × T))]) (by rw [List.length_cons, rvs.length]; exact z)] at q2
    exact q2
  · have q3 := q2.reW
    revert q3
    cases hF : F (.loc h1.length :: as) (h1 ++ [.ins c []]) with
    | bad => exact fun z => z
    | ex z h2 => exact fun q3 ω' H' cls d N S x => q3 ω' H' cls d (N3.trans N) S x
    | ok t h2 =>
      intro q3 ω' H' N S v rv
      have q4 := q3 ω' H' (N3.trans N) S
      cases t with
      | non => exact ⟨by simpa only [Rep] using rv, q4 ω' H' (Nx.refl _ _) S (.ref p) (rp.mono N.toGr)⟩
      | _ => exact q4.elim
theorem k_newS (co : Ok X W k) (G : CalI X.prog X.w X.K X.mg X.base cl c x j ps F n) (hj : j + 1 ≤ k) (hg : Gl X x) (ha : PA X (e :: es) (tA X.K cl W r)) (hdb : (x == ("__debug__" : Str)) = false := by decide) (he : starEach (e :: es) X.env = (false, eval e X.env) :: starEach es X.env := by rfl) (hpl : (backTo pos (starEach es X.env)).any (·.1) = false := by rfl) :
    PE X (.Call (.Name x p) (e :: es) [] pos) (tE X.K cl W (mNew c F r)) := by
  obtain ⟨f, fd, G1, m, hm, b⟩ := G.ex
  exact (pe_makeS m G1 (co.room.mono hj) hg hm b (fun σ => L2N.passAt co.tk σ) ha hdb he hpl).weak fun _ _ _ h => newS_step G.len h
end
end Sm
namespace Gd
open PySem PySem.Spec PyProof.Rows L2 Sm
noncomputable section
def t_LONGEST_NAME : T := (.int 8)
def t_NAME_LETTERS : T := (.str "abcdefghijklmnopqrstuvwxyz")
def t_MOST_NAMES : T := (.int 12)
def t_GREATEST : T := (.int 1000000)
def t_PRIMES : T := (.tup (([2, 3, 5, 7, 11, 13, 17, 19, 23, 29] : List Int).map T.int))
def t_MOST : T := (.int 1000000000000)
def t_MOST_FRACTIONS : T := (.int 16)
def t_MOST_STRETCHES : T := (.int 2000)
def b_law_whole : MS := (sRet (mAndV (mUn (fIsi "int") (mVar 0)) (mNotV (mUn (fIsi "bool") (mVar 0)))))
def F_law_whole : Fn := fn 1 1 false b_law_whole
def b_law_same (rc : Fn) : MS := (sSeq (sIf (mTst (mBin fIs (mVar 1) (mC .non)))
  (sRet (mBin fIs (mVar 0) (mC .non)))
  sNil)
  (sSeq (sIf (mTru (mUn (fIsi "bool") (mVar 1)))
  (sRet (mAndV (mUn (fIsi "bool") (mVar 0)) (mBin fEq (mVar 0) (mVar 1))))
  sNil)
  (sSeq (sIf (mTru (mUn (fIsi "int") (mVar 1)))
  (sRet (mAndV (mCall F_law_whole (mCons (mVar 0) mNil)) (mBin fEq (mVar 0) (mVar 1))))
  sNil)
  (sSeq (sIf (mTru (mUn (fIsi "str") (mVar 1)))
  (sRet (mAndV (mUn (fIsi "str") (mVar 0)) (mBin fEq (mVar 0) (mVar 1))))
  sNil)
  (sSeq (sIf (mOrT (mTst (mBin fNe (mUn (fIsi "tuple") (mVar 1)) (mUn (fIsi "tuple") (mVar 0)))) (mTst (mBin fNe (mUn (fIsi "list") (mVar 1)) (mUn (fIsi "list") (mVar 0)))))
  (sRet (mC (.bl false)))
  sNil)
  (sRet (mAndV (mBin fEq (mCallF fLen (mCons (mVar 0) mNil)) (mCallF fLen (mCons (mVar 1) mNil))) (mCallF fAll (mCons (mFrz (mComp (mZip (mCons (mVar 0) (mCons (mVar 1) mNil))) [2, 3] (.tup [2, 3]) mYes (mCall rc (mCons (mVar 2) (mCons (mVar 3) mNil))))) mNil)))))))))
def F_law_same : Nat → Fn
  | 0 => fun _ _ => .bad
  | n + 1 => fn 2 4 false (b_law_same (F_law_same n))
def b_law_pot : MS := (sSeq (sIf (mTst (mBin fGe (mVar 0) (mBin fPow (mC (.int 10)) (mC (.int 18)))))
  (sRet (mCell (mLst (mCons (mBin fSub (mVar 0) (mBin fPow (mC (.int 10)) (mC (.int 18)))) mNil))))
  sNil)
  (sSeq (sSet 1 (mC (.int 0)))
  (sSeq (sFor (mRange1 (mCons (mC (.int 64)) mNil)) (.one 2) [2, 3]
  (sSeq (sSet 3 (mBin fMod (mBin fMul (mBin fAdd (mBin fAdd (mBin fMod (mVar 0) (mC (.int 2147483629))) (mBin fMul (mC (.int 7919)) (mVar 2))) (mC (.int 1))) (mC (.int 48271))) (mC (.int 2147483647))))
  (sSeq (sSet 3 (mBin fMod (mBin fAdd (mBin fAdd (mBin fMul (mVar 3) (mVar 3)) (mBin fMul (mC (.int 69621)) (mVar 2))) (mC (.int 7))) (mC (.int 2147483587))))
  (sSet 1 (mBin fAdd (mBin fMul (mVar 1) (mC (.int 2147483587))) (mVar 3))))))
  (sRet (mCell (mLst (mCons (mVar 1) mNil)))))))
def F_law_pot : Fn := fn 1 4 true b_law_pot
def b_law_take : MS := (sSeq (sSet 2 (mBin fMod (mBin fIdx (mVar 0) (mC (.int 0))) (mVar 1)))
  (sSeq (sItem (mBin fFdiv (mBin fIdx (mVar 0) (mC (.int 0))) (mVar 1)) (mVar 0) (mC (.int 0)))
  (sRet (mVar 2))))
def F_law_take : Fn := fn 2 3 false b_law_take
def b_law_line : MS := (sSeq (sSet 3 (mCell (mNew2 fRep (mFrz (mLst (mCons (mC (.int 0)) mNil))) (mC (.int 10)))))
  (sSeq (sFor (mSeq (mVar 1)) (.one 4) [1, 4]
  (sItem (mCall F_law_take (mCons (mVar 0) (mCons (mBin fAdd (mVar 2) (mC (.int 1))) mNil))) (mVar 3) (mVar 4)))
  (sSeq (sIf (mTst (mBin fEq (mCall F_law_take (mCons (mVar 0) (mCons (mC (.int 6)) mNil))) (mC (.int 0))))
  (sItem (mCall F_law_take (mCons (mVar 0) (mCons (mBin fAdd (mVar 2) (mC (.int 1))) mNil))) (mVar 3) (mCall F_law_take (mCons (mVar 0) (mCons (mC (.int 10)) mNil))))
  sNil)
  (sRet (mCallF fTuple (mCons (mVar 3) mNil))))))
def F_law_line : Fn := fn 3 5 false b_law_line
def b_law_primes : MS := (sRet (mTup (mCons (mC (.int 2)) (mCons (mC (.int 3)) (mCons (mC (.int 5)) (mCons (mC (.int 7)) (mCons (mC (.int 11)) (mCons (mC (.int 13)) (mCons (mC (.int 17)) (mCons (mC (.int 19)) (mCons (mC (.int 23)) (mCons (mC (.int 29)) mNil))))))))))))
def F_law_primes : Fn := fn 0 0 false b_law_primes
def b_law_product : MS := (sSeq (sSet 1 (mC (.int 1)))
  (sSeq (sFor (mZip (mCons (mCall F_law_primes mNil) (mCons (mVar 0) mNil))) (.tup [3, 2]) [0, 2, 3, 4]
  (sFor (mRange1 (mCons (mVar 2) mNil)) (.one 4) [0, 2, 4]
  (sSet 1 (mBin fMul (mVar 1) (mVar 3)))))
  (sRet (mVar 1))))
def F_law_product : Fn := fn 1 5 false b_law_product
def b_is_whole : MS := (sRet (mAndV (mUn (fIsi "int") (mVar 0)) (mNotV (mUn (fIsi "bool") (mVar 0)))))
def F_is_whole : Fn := fn 1 1 false b_is_whole
def b_is_powers : MS := (sSeq (sIf (mOrT (mNotT (mTru (mUn (fIsi "tuple") (mVar 0)))) (mTst (mBin fNe (mCallF fLen (mCons (mVar 0) mNil)) (mCallF fLen (mCons (mC t_PRIMES) mNil)))))
  (sRet (mC (.bl false)))
  sNil)
  (sRet (mCallF fAll (mCons (mFrz (mComp (mSeq (mVar 0)) [1] (.one 1) mYes (mAndV (mCall F_is_whole (mCons (mVar 1) mNil)) (mBin fGe (mVar 1) (mC (.int 0)))))) mNil))))
def F_is_powers : Fn := fn 1 2 false b_is_powers
def b_law_exps : MS := (sSeq (sSet 1 (mCell (mLst mNil)))
  (sSeq (sFor (mSeq (mCall F_law_primes mNil)) (.one 3) [2, 3]
  (sSeq (sSet 2 (mC (.int 0)))
  (sSeq (sWhile (mTst (mBin fEq (mBin fMod (mVar 0) (mVar 3)) (mC (.int 0)))) []
  (sSeq (sSet 0 (mBin fFdiv (mVar 0) (mVar 3)))
  (sSet 2 (mBin fAdd (mVar 2) (mC (.int 1))))))
  (sExp (mMethL fAppend (mVar 1) (mCons (mVar 2) mNil))))))
  (sSeq (sIf (mTst (mBin fGt (mVar 0) (mC (.int 1))))
  (sRet (mC .non))
  sNil)
  (sRet (mCallF fTuple (mCons (mVar 1) mNil))))))
def F_law_exps : Fn := fn 1 4 false b_law_exps
def b_found_powers : MS := (sSeq (sSet 1 (mCell (mLst mNil)))
  (sSeq (sFor (mSeq (mC t_PRIMES)) (.one 3) [2, 3]
  (sSeq (sSet 2 (mC (.int 0)))
  (sSeq (sWhile (mTst (mBin fEq (mBin fMod (mVar 0) (mVar 3)) (mC (.int 0)))) []
  (sSeq (sSet 0 (mBin fFdiv (mVar 0) (mVar 3)))
  (sSet 2 (mBin fAdd (mVar 2) (mC (.int 1))))))
  (sExp (mMethL fAppend (mVar 1) (mCons (mVar 2) mNil))))))
  (sSeq (sIf (mTst (mBin fNe (mVar 0) (mC (.int 1))))
  (sRet (mC .non))
  sNil)
  (sRet (mCallF fTuple (mCons (mVar 1) mNil))))))
def F_found_powers : Fn := fn 1 4 false b_found_powers
def b_law_kind_of (ea ed : Addr) (ee : Ex) : MS := (sSeq (sSet 1 (mFrz (mLst (mCons (mIsX (exT ea ed ee) (decide (ee.c = 11)) (mVar 0)) (mCons (mIsX (exT ea ed ee) (decide (ee.c = 21)) (mVar 0)) (mCons (mIsX (exT ea ed ee) (decide (ee.c = 20)) (mVar 0)) (mCons (mIsX (exT ea ed ee) (decide (ee.c = 14)) (mVar 0)) mNil)))))))
  (sSeq (sSet 1 (mBin fAdd (mVar 1) (mFrz (mLst (mCons (mIsX (exT ea ed ee) (decide (ee.c = 15)) (mVar 0)) (mCons (mIsX (exT ea ed ee) (decide (ee.c = 18)) (mVar 0)) (mCons (mIsX (exT ea ed ee) (decide (ee.c = 16)) (mVar 0)) (mCons (mIsX (exT ea ed ee) (decide (ee.c = 22)) (mVar 0)) mNil))))))))
  (sSeq (sSet 1 (mBin fAdd (mVar 1) (mFrz (mLst (mCons (mIsX (exT ea ed ee) (decide (ee.c = 13)) (mVar 0)) (mCons (mIsX (exT ea ed ee) (decide (ee.c = 19)) (mVar 0)) (mCons (mIsX (exT ea ed ee) (decide (ee.c = 17)) (mVar 0)) (mCons (mIsX (exT ea ed ee) (decide (ee.c = 12)) (mVar 0)) mNil))))))))
  (sSeq (sIf (mOrT (mTst (mBin fNe (mMethL fCount (mVar 1) (mCons (mC (.bl true)) mNil)) (mC (.int 1)))) (mNotT (mTru (mIsX (exT ea ed ee) true (mVar 0)))))
  (sRet (mC (.str "other")))
  sNil)
  (sSeq (sSet 2 (mFrz (mLst (mCons (mC (.str "rest")) (mCons (mC (.str "deed")) (mCons (mC (.str "name")) (mCons (mC (.str "number")) (mCons (mC (.str "order")) (mCons (mC (.str "powers")) (mCons (mC (.str "program")) (mCons (mC (.str "row")) mNil)))))))))))
  (sSeq (sSet 2 (mBin fAdd (mVar 2) (mFrz (mLst (mCons (mC (.str "text")) (mCons (mC (.str "trail")) (mCons (mC (.str "shared")) (mCons (mC (.str "many")) mNil))))))))
  (sRet (mBin fIdx (mVar 2) (mMethL fIndex (mVar 1) (mCons (mC (.bl true)) mNil))))))))))
def F_law_kind_of : Addr → Addr → Ex → Fn := fun ea ed ee => fn 1 3 false (b_law_kind_of ea ed ee)
def b_law_cell_at : MS := (sSeq (sIf (mTst (mBin fLt (mVar 1) (mCallF fLen (mCons (mVar 0) mNil))))
  (sRet (mBin fIdx (mVar 0) (mVar 1)))
  sNil)
  (sRet (mC (.int 0))))
def F_law_cell_at : Fn := fn 2 2 false b_law_cell_at
def b_law_order : MS := (sSeq (sSet 2 (mCell (mLst mNil)))
  (sSeq (sFor (mRange1 (mCons (mVar 1) mNil)) (.one 3) [1, 3]
  (sExp (mMethL fInsert (mVar 2) (mCons (mCall F_law_take (mCons (mVar 0) (mCons (mBin fAdd (mVar 3) (mC (.int 1))) mNil))) (mCons (mVar 3) mNil)))))
  (sRet (mCallF fTuple (mCons (mVar 2) mNil)))))
def F_law_order : Fn := fn 2 4 false b_law_order
def b_law_places : MS := (sSeq (sSet 1 (mBin fAdd (mC (.int 1)) (mCall F_law_take (mCons (mVar 0) (mCons (mC (.int 5)) mNil)))))
  (sSeq (sIf (mTst (mBin fEq (mCall F_law_take (mCons (mVar 0) (mCons (mC (.int 2)) mNil))) (mC (.int 0))))
  (sRet (mTupR (mZero (mVar 1))))
  sNil)
  (sRet (mSl (mCall F_law_order (mCons (mVar 0) (mCons (mC (.int 10)) mNil))) (mPart none) (mPart (some (mVar 1)))))))
def F_law_places : Fn := fn 1 2 false b_law_places
def b_law_fraction : MS := (sSeq (sSet 2 (mCell (mNew2 fRep (mFrz (mLst (mCons (mC (.int 0)) mNil))) (mC (.int 10)))))
  (sSeq (sFor (mRange1 (mCons (mCall F_law_take (mCons (mVar 0) (mCons (mC (.int 4)) mNil))) mNil)) (.one 4) [3, 4, 5, 6]
  (sSeq (sSet 3 (mBin fIdx (mVar 1) (mCall F_law_take (mCons (mVar 0) (mCons (mCallF fLen (mCons (mVar 1) mNil)) mNil)))))
  (sItem (mBin fAdd (mBin fIdx (mVar 2) (mVar 3)) (mC (.int 1))) (mVar 2) (mVar 3))))
  (sSeq (sFor (mRange1 (mCons (mCall F_law_take (mCons (mVar 0) (mCons (mC (.int 4)) mNil))) mNil)) (.one 4) [3, 4, 5, 6]
  (sSeq (sSet 3 (mBin fIdx (mVar 1) (mCall F_law_take (mCons (mVar 0) (mCons (mCallF fLen (mCons (mVar 1) mNil)) mNil)))))
  (sItem (mBin fSub (mBin fIdx (mVar 2) (mVar 3)) (mC (.int 1))) (mVar 2) (mVar 3))))
  (sSeq (sSet 5 (mCallF fTuple (mCons (mFrz (mComp (mSeq (mVar 2)) [7] (.one 7) mYes (mCallF fMax (mCons (mC (.int 0)) (mCons (mVar 7) mNil))))) mNil)))
  (sSeq (sSet 6 (mCallF fTuple (mCons (mFrz (mComp (mSeq (mVar 2)) [7] (.one 7) mYes (mCallF fMax (mCons (mC (.int 0)) (mCons (mBin fSub (mC (.int 0)) (mVar 7)) mNil))))) mNil)))
  (sRet (mTup (mCons (mCall F_law_product (mCons (mVar 5) mNil)) (mCons (mCall F_law_product (mCons (mVar 6) mNil)) mNil)))))))))
def F_law_fraction : Fn := fn 2 8 false b_law_fraction
def b_law_program : MS := (sRet (mCallF fTuple (mCons (mFrz (mComp (mRange1 (mCons (mBin fAdd (mC (.int 1)) (mCall F_law_take (mCons (mVar 0) (mCons (mVar 2) mNil)))) mNil)) [3] (.one 3) mYes (mCall F_law_fraction (mCons (mVar 0) (mCons (mVar 1) mNil))))) mNil)))
def F_law_program : Fn := fn 3 4 false b_law_program
def b_is_upto : MS := (sRet (mAndV (mCall F_is_whole (mCons (mVar 0) mNil)) (mChain fLe fLe (mVar 1) (mVar 0) (mVar 2))))
def F_is_upto : Fn := fn 3 3 false b_is_upto
def b_is_fraction : MS := (sSeq (sIf (mOrT (mNotT (mTru (mUn (fIsi "tuple") (mVar 0)))) (mTst (mBin fNe (mCallF fLen (mCons (mVar 0) mNil)) (mC (.int 2)))))
  (sRet (mC (.bl false)))
  sNil)
  (sSeq (sIf (mOrT (mNotT (mTru (mCall F_is_upto (mCons (mBin fIdx (mVar 0) (mC (.int 0))) (mCons (mC (.int 1)) (mCons (mC t_MOST) mNil)))))) (mNotT (mTru (mCall F_is_upto (mCons (mBin fIdx (mVar 0) (mC (.int 1))) (mCons (mC (.int 1)) (mCons (mC t_MOST) mNil)))))))
  (sRet (mC (.bl false)))
  sNil)
  (sSeq (sSet 1 (mCall F_found_powers (mCons (mBin fIdx (mVar 0) (mC (.int 0))) mNil)))
  (sSeq (sSet 2 (mCall F_found_powers (mCons (mBin fIdx (mVar 0) (mC (.int 1))) mNil)))
  (sSeq (sIf (mOrT (mTst (mBin fIs (mVar 1) (mC .non))) (mTst (mBin fIs (mVar 2) (mC .non))))
  (sRet (mC (.bl false)))
  sNil)
  (sRet (mCallF fAll (mCons (mFrz (mComp (mZip (mCons (mVar 1) (mCons (mVar 2) mNil))) [3, 4] (.tup [3, 4]) mYes (mOrV (mBin fEq (mVar 3) (mC (.int 0))) (mBin fEq (mVar 4) (mC (.int 0)))))) mNil))))))))
def F_is_fraction : Fn := fn 1 5 false b_is_fraction
def b_is_program : MS := (sSeq (sIf (mOrT (mNotT (mTru (mUn (fIsi "tuple") (mVar 0)))) (mNotT (mTst (mChain fLe fLe (mC (.int 1)) (mCallF fLen (mCons (mVar 0) mNil)) (mC t_MOST_FRACTIONS)))))
  (sRet (mC (.bl false)))
  sNil)
  (sRet (mCallF fAll (mCons (mFrz (mComp (mSeq (mVar 0)) [1] (.one 1) mYes (mCall F_is_fraction (mCons (mVar 1) mNil)))) mNil))))
def F_is_program : Fn := fn 1 2 false b_is_program
def b_law_table : MS := (sSeq (sSet 1 (mCell (mLst mNil)))
  (sSeq (sFor (mSeq (mVar 0)) (.tup [3, 2]) [0, 2, 3, 4]
  (sSeq (sSet 4 (mCall F_law_exps (mCons (mVar 2) mNil)))
  (sExp (mMethL fAppend (mVar 1) (mCons (mTup (mCons (mVar 4) (mCons (mCallF fTuple (mCons (mFrz (mComp (mZip (mCons (mCall F_law_exps (mCons (mVar 3) mNil)) (mCons (mVar 4) mNil))) [5, 6] (.tup [5, 6]) mYes (mBin fSub (mVar 5) (mVar 6)))) mNil)) mNil))) mNil)))))
  (sRet (mVar 1))))
def F_law_table : Fn := fn 1 7 false b_law_table
def b_law_first_of : MS := (sSeq (sFor (mEnum (mCons (mVar 0) mNil)) (.nest 3 [4, 2]) [0, 2, 3, 4]
  (sIf (mTst (mBin fGe (mCallF fMin (mCons (mFrz (mComp (mZip (mCons (mVar 1) (mCons (mVar 4) mNil))) [5, 6] (.tup [5, 6]) mYes (mBin fSub (mVar 5) (mVar 6)))) mNil)) (mC (.int 0))))
  (sRet (mVar 3))
  sNil))
  (sRet (mC .non)))
def F_law_first_of : Fn := fn 2 7 false b_law_first_of
def b_law_put_v2 : MS := (sRet (mCallF fTuple (mCons (mFrz (mComp (mZip (mCons (mVar 1) (mCons (mBin fIdx (mBin fIdx (mVar 0) (mVar 2)) (mC (.int 1))) mNil))) [4, 5] (.tup [4, 5]) mYes (mBin fAdd (mVar 4) (mBin fMul (mVar 3) (mVar 5))))) mNil)))
def F_law_put_v2 : Fn := fn 4 6 false b_law_put_v2
def b_Ways_first : MS := (sSeq (sFor (mEnum (mCons (mFld 0 "wants" (mVar 0)) mNil)) (.tup [2, 3]) [0, 2, 3]
  (sIf (mTru (mCallF fAll (mCons (mFrz (mComp (mZip (mCons (mVar 1) (mCons (mVar 3) mNil))) [4, 5] (.tup [4, 5]) mYes (mBin fGe (mVar 4) (mVar 5)))) mNil)))
  (sRet (mVar 2))
  sNil))
  (sRet (mC .non)))
def F_Ways_first : Fn := fn 2 6 false b_Ways_first
def b_bottoms_of : MS := (sRet (mFrz (mComp (mSeq (mVar 0)) [1, 2] (.tup [1, 2]) mYes (mCall F_found_powers (mCons (mVar 2) mNil)))))
def F_bottoms_of : Fn := fn 1 3 false b_bottoms_of
def b_tops_of : MS := (sRet (mFrz (mComp (mSeq (mVar 0)) [1, 2] (.tup [1, 2]) mYes (mCall F_found_powers (mCons (mVar 1) mNil)))))
def F_tops_of : Fn := fn 1 3 false b_tops_of
def b_changes_of : MS := (sSeq (sSet 1 (mCell (mLst mNil)))
  (sSeq (sFor (mZip (mCons (mCall F_tops_of (mCons (mVar 0) mNil)) (mCons (mCall F_bottoms_of (mCons (mVar 0) mNil)) mNil))) (.tup [3, 2]) [0, 2, 3]
  (sExp (mMethL fAppend (mVar 1) (mCons (mCallF fTuple (mCons (mFrz (mComp (mZip (mCons (mVar 3) (mCons (mVar 2) mNil))) [4, 5] (.tup [4, 5]) mYes (mBin fSub (mVar 4) (mVar 5)))) mNil)) mNil))))
  (sRet (mVar 1))))
def F_changes_of : Fn := fn 1 6 false b_changes_of
def b_Ways_init : MS := (sSeq (sFld 0 "wants" (mCall F_bottoms_of (mCons (mVar 1) mNil)) (mVar 0))
  (sFld 0 "adds" (mCall F_changes_of (mCons (mVar 1) mNil)) (mVar 0)))
def F_Ways_init : Fn := fn 2 2 true b_Ways_init
def b_Ways_gone : MS := (sRet (mCallF fTuple (mCons (mFrz (mComp (mZip (mCons (mVar 1) (mCons (mBin fIdx (mFld 0 "adds" (mVar 0)) (mVar 2)) mNil))) [4, 5] (.tup [4, 5]) mYes (mBin fAdd (mVar 4) (mBin fMul (mVar 3) (mVar 5))))) mNil)))
def F_Ways_gone : Fn := fn 4 6 false b_Ways_gone
def b_law_gone_through : MS := (sSeq (sSet 3 (mCell (mLst (mCons (mVar 1) mNil))))
  (sSeq (sSet 4 (mCell (mLst mNil)))
  (sSeq (sSet 5 (mCall F_law_first_of (mCons (mVar 0) (mCons (mVar 1) mNil))))
  (sSeq (sWhile (mAndT (mTst (mBin fLt (mCallF fLen (mCons (mVar 4) mNil)) (mVar 2))) (mTst (mBin fIsNot (mVar 5) (mC .non)))) [1]
  (sSeq (sExp (mMethL fAppend (mVar 4) (mCons (mVar 5) mNil)))
  (sSeq (sExp (mMethL fAppend (mVar 3) (mCons (mCall F_law_put_v2 (mCons (mVar 0) (mCons (mBin fIdx (mVar 3) (mUn fNeg (mC (.int 1)))) (mCons (mVar 5) (mCons (mC (.int 1)) mNil))))) mNil)))
  (sSet 5 (mCall F_law_first_of (mCons (mVar 0) (mCons (mBin fIdx (mVar 3) (mUn fNeg (mC (.int 1)))) mNil)))))))
  (sRet (mFrz (mLst (mCons (mVar 3) (mCons (mVar 4) mNil)))))))))
def F_law_gone_through : Fn := fn 3 6 false b_law_gone_through
def b_Ways_last_fit : MS := (sSeq (sSet 3 (mC .non))
  (sSeq (sFor (mZip3 (mCons (mVar 1) (mCons (mBin fIdx (mFld 0 "wants" (mVar 0)) (mVar 2)) (mCons (mBin fIdx (mFld 0 "adds" (mVar 0)) (mVar 2)) mNil)))) (.tup [6, 7, 4]) [0, 1, 2, 4, 5, 6, 7]
  (sIf (mTst (mBin fLt (mVar 4) (mC (.int 0))))
  (sSeq (sSet 5 (mBin fAdd (mBin fFdiv (mBin fSub (mVar 6) (mVar 7)) (mBin fSub (mC (.int 0)) (mVar 4))) (mC (.int 1))))
  (sIf (mOrT (mTst (mBin fIs (mVar 3) (mC .non))) (mTst (mBin fLt (mVar 5) (mVar 3))))
  (sSet 3 (mVar 5))
  sNil))
  sNil))
  (sRet (mVar 3))))
def F_Ways_last_fit : Fn := fn 3 8 false b_Ways_last_fit
def b_Ways_comes_in : MS := (sSeq (sSet 4 (mC (.int 0)))
  (sSeq (sSet 5 (mC .non))
  (sSeq (sFor (mZip3 (mCons (mVar 1) (mCons (mBin fIdx (mFld 0 "wants" (mVar 0)) (mVar 3)) (mCons (mBin fIdx (mFld 0 "adds" (mVar 0)) (mVar 2)) mNil)))) (.tup [8, 9, 6]) [0, 1, 2, 3, 6, 7, 8, 9]
  (sIf (mTst (mBin fGt (mVar 6) (mC (.int 0))))
  (sSet 4 (mCallF fMax (mCons (mVar 4) (mCons (mBin fSub (mC (.int 0)) (mBin fFdiv (mBin fSub (mVar 8) (mVar 9)) (mVar 6))) mNil))))
  (sIf (mAndT (mTst (mBin fEq (mVar 6) (mC (.int 0)))) (mTst (mBin fLt (mVar 8) (mVar 9))))
  (sRet (mC .non))
  (sIf (mTst (mBin fLt (mVar 6) (mC (.int 0))))
  (sSeq (sSet 7 (mBin fFdiv (mBin fSub (mVar 8) (mVar 9)) (mBin fSub (mC (.int 0)) (mVar 6))))
  (sIf (mOrT (mTst (mBin fIs (mVar 5) (mC .non))) (mTst (mBin fLt (mVar 7) (mVar 5))))
  (sSet 5 (mVar 7))
  sNil))
  sNil))))
  (sSeq (sIf (mAndT (mTst (mBin fIsNot (mVar 5) (mC .non))) (mTst (mBin fGt (mVar 4) (mVar 5))))
  (sRet (mC .non))
  sNil)
  (sRet (mVar 4))))))
def F_Ways_comes_in : Fn := fn 4 10 false b_Ways_comes_in
def b_Ways_stretch_of : MS := (sSeq (sSet 3 (mMeth 0 "last_fit" F_Ways_last_fit (mVar 0) (mCons (mVar 1) (mCons (mVar 2) mNil))))
  (sSeq (sFor (mRange1 (mCons (mVar 2) mNil)) (.one 5) [4, 5]
  (sSeq (sSet 4 (mMeth 0 "comes_in" F_Ways_comes_in (mVar 0) (mCons (mVar 1) (mCons (mVar 2) (mCons (mVar 5) mNil)))))
  (sIf (mAndT (mTst (mBin fIsNot (mVar 4) (mC .non))) (mOrT (mTst (mBin fIs (mVar 3) (mC .non))) (mTst (mBin fLt (mVar 4) (mVar 3)))))
  (sSet 3 (mVar 4))
  sNil)))
  (sRet (mVar 3))))
def F_Ways_stretch_of : Fn := fn 3 6 false b_Ways_stretch_of
def b_leapt : MS := (sSeq (sSet 3 (mNew 0 F_Ways_init (mCons (mVar 0) mNil)))
  (sSeq (sSet 4 (mC (.int 0)))
  (sSeq (sSet 5 (mC (.int 0)))
  (sSeq (sSet 6 (mMeth 0 "first" F_Ways_first (mVar 3) (mCons (mVar 1) mNil)))
  (sSeq (sWhile (mAndT (mTst (mBin fLt (mVar 4) (mVar 2))) (mTst (mBin fIsNot (mVar 6) (mC .non)))) [0, 7]
  (sSeq (sIf (mTst (mBin fEq (mVar 5) (mC t_MOST_STRETCHES)))
  (sRaise (.txt 12))
  sNil)
  (sSeq (sSet 5 (mBin fAdd (mVar 5) (mC (.int 1))))
  (sSeq (sSet 7 (mMeth 0 "stretch_of" F_Ways_stretch_of (mVar 3) (mCons (mVar 1) (mCons (mVar 6) mNil))))
  (sSeq (sIf (mOrT (mTst (mBin fIs (mVar 7) (mC .non))) (mTst (mBin fGt (mVar 7) (mBin fSub (mVar 2) (mVar 4)))))
  (sSet 7 (mBin fSub (mVar 2) (mVar 4)))
  sNil)
  (sSeq (sSet 1 (mMeth 0 "gone" F_Ways_gone (mVar 3) (mCons (mVar 1) (mCons (mVar 6) (mCons (mVar 7) mNil)))))
  (sSeq (sSet 4 (mBin fAdd (mVar 4) (mVar 7)))
  (sSet 6 (mMeth 0 "first" F_Ways_first (mVar 3) (mCons (mVar 1) mNil))))))))))
  (sRet (mTup (mCons (mVar 4) (mCons (mVar 1) mNil)))))))))
def F_leapt : Fn := fn 3 8 false b_leapt
def b_law_calm_program : MS := (sSeq (sSet 3 (mCall F_law_program (mCons (mVar 0) (mCons (mVar 1) (mCons (mVar 2) mNil)))))
  (sSeq (sIf (mTst (mBin fEq (mCall F_law_take (mCons (mVar 0) (mCons (mC (.int 3)) mNil))) (mC (.int 0))))
  (sRet (mVar 3))
  sNil)
  (sSeq (sSet 4 (mCell (mLst mNil)))
  (sSeq (sFor (mRange1 (mCons (mBin fAdd (mC (.int 1)) (mCall F_law_take (mCons (mVar 0) (mCons (mVar 2) mNil)))) mNil)) (.one 5) [2, 3, 5, 6, 7, 8, 9, 10, 11]
  (sSeq (sSet 9 (mCell (mLst mNil)))
  (sSeq (sFor (mRange1 (mCons (mC (.int 2)) mNil)) (.one 11) [2, 3, 5, 6, 7, 8, 10, 11]
  (sSeq (sSet 8 (mCell (mNew2 fRep (mFrz (mLst (mCons (mC (.int 0)) mNil))) (mC (.int 10)))))
  (sSeq (sFor (mRange1 (mCons (mBin fAdd (mC (.int 1)) (mCall F_law_take (mCons (mVar 0) (mCons (mC (.int 2)) mNil)))) mNil)) (.one 6) [2, 3, 5, 6, 7, 10, 11]
  (sItemAug (mVar 8) (mBin fIdx (mVar 1) (mCall F_law_take (mCons (mVar 0) (mCons (mCallF fLen (mCons (mVar 1) mNil)) mNil)))) (mC (.int 1))))
  (sExp (mMethL fAppend (mVar 9) (mCons (mVar 8) mNil))))))
  (sSeq (sSet 7 (mFrz (mComp (mZip (mCons (mBin fIdx (mVar 9) (mC (.int 0))) (mCons (mBin fIdx (mVar 9) (mC (.int 1))) mNil))) [12, 13] (.tup [12, 13]) mYes (mCallF fMin (mCons (mVar 12) (mCons (mVar 13) mNil))))))
  (sSeq (sSet 10 (mCall F_law_product (mCons (mFrz (mComp (mZip (mCons (mBin fIdx (mVar 9) (mC (.int 0))) (mCons (mVar 7) mNil))) [12, 13] (.tup [12, 13]) mYes (mBin fSub (mVar 12) (mVar 13)))) mNil)))
  (sExp (mMethL fAppend (mVar 4) (mCons (mTup (mCons (mVar 10) (mCons (mCall F_law_product (mCons (mFrz (mComp (mZip (mCons (mBin fIdx (mVar 9) (mC (.int 1))) (mCons (mVar 7) mNil))) [12, 13] (.tup [12, 13]) mYes (mBin fSub (mVar 12) (mVar 13)))) mNil)) mNil))) mNil))))))))
  (sRet (mCallF fTuple (mCons (mVar 4) mNil)))))))
def F_law_calm_program : Fn := fn 3 14 false b_law_calm_program
def b_Bench_init_v2 : MS := (sSeq (sIf (mNotT (mTru (mCall F_is_program (mCons (mVar 1) mNil))))
  (sRaise (.txt 16))
  sNil)
  (sSeq (sFld 2 "own" (mVar 1) (mVar 0))
  (sSeq (sFld 2 "kept" mEmpD (mVar 0))
  (sFld 2 "earlier" (mCell (mLst mNil)) (mVar 0)))))
def F_Bench_init_v2 : Fn := fn 2 2 true b_Bench_init_v2
def b_law_bench_deed_v2 : MS := (sSeq (sSet 3 (mCall F_law_take (mCons (mVar 0) (mCons (mC (.int 12)) mNil))))
  (sSeq (sSet 4 (mBin fEq (mCall F_law_take (mCons (mVar 0) (mCons (mC (.int 6)) mNil))) (mC (.int 1))))
  (sSeq (sSet 5 (mBin fIdx (mFrz (mLst (mCons (mC (.str "one")) (mCons (mC (.str "two")) (mCons (mC (.str "x")) (mCons (mC (.str "abcdefgh")) (mCons (mC (.str "row")) mNil))))))) (mCall F_law_take (mCons (mVar 0) (mCons (mC (.int 5)) mNil)))))
  (sSeq (sIf (mAndT (mTst (mBin fGt (mCallF fLenS (mCons (mVar 2) mNil)) (mC (.int 0)))) (mTst (mBin fGt (mCall F_law_take (mCons (mVar 0) (mCons (mC (.int 3)) mNil))) (mC (.int 0)))))
  (sSet 5 (mBin fIdx (mFrz (mNewA fSortS (mCons (mVar 2) mNil))) (mCall F_law_take (mCons (mVar 0) (mCons (mCallF fLenS (mCons (mVar 2) mNil)) mNil)))))
  sNil)
  (sSeq (sIf (mAndT (mTru (mVar 4)) (mTst (mBin fEq (mCall F_law_take (mCons (mVar 0) (mCons (mC (.int 2)) mNil))) (mC (.int 0)))))
  (sSeq (sSet 6 (mFrz (mLst (mCons (mC (.str "")) (mCons (mC (.str "abcdefghi")) (mCons (mC (.str "One")) (mCons (mC (.str "a b")) (mCons (mC (.str "a1")) (mCons (mC .non) (mCons (mC (.int 7)) (mCons (mTup (mCons (mC (.str "one")) mNil)) (mCons (mFrz (mLst (mCons (mC (.str "one")) mNil))) (mCons (mC (.bl true)) (mCons mEmp (mCons (mC (.str "gone")) mNil)))))))))))))))
  (sSet 5 (mBin fIdx (mVar 6) (mCall F_law_take (mCons (mVar 0) (mCons (mC (.int 12)) mNil))))))
  sNil)
  (sSeq (sIf (mTst (mBin fLt (mVar 3) (mC (.int 5))))
  (sSeq (sSet 7 (mCall F_law_line (mCons (mVar 0) (mCons (mVar 1) (mCons (mBin fIdx (mFrz (mLst (mCons (mC (.int 3)) (mCons (mC (.int 8)) (mCons (mC (.int 8)) (mCons (mBin fPow (mC (.int 10)) (mC (.int 6))) mNil)))))) (mCall F_law_take (mCons (mVar 0) (mCons (mC (.int 4)) mNil)))) mNil)))))
  (sSeq (sIf (mAndT (mTru (mVar 4)) (mTst (mBin fEq (mCall F_law_take (mCons (mVar 0) (mCons (mC (.int 2)) mNil))) (mC (.int 0)))))
  (sSeq (sSet 6 (mFrz (mLst (mCons (mSl (mVar 7) (mPart none) (mPart (some (mC (.int 9))))) (mCons (mBin fAdd (mVar 7) (mTup (mCons (mC (.int 0)) mNil))) (mCons (mFrz (mNewA fList (mCons (mVar 7) mNil))) (mCons (mBin fAdd (mSl (mVar 7) (mPart none) (mPart (some (mC (.int 9))))) (mTup (mCons (mBin fAdd (mBin fPow (mC (.int 10)) (mC (.int 6))) (mC (.int 1))) mNil))) (mCons (mBin fAdd (mSl (mVar 7) (mPart none) (mPart (some (mC (.int 9))))) (mTup (mCons (mUn fNeg (mC (.int 1))) mNil))) (mCons (mC .non) (mCons (mC (.int 6)) (mCons mEmp mNil)))))))))))
  (sSet 7 (mBin fIdx (mBin fAdd (mVar 6) (mFrz (mLst (mCons (mBin fAdd (mSl (mVar 7) (mPart none) (mPart (some (mC (.int 9))))) (mTup (mCons (mC (.bl true)) mNil))) (mCons (mBin fAdd (mSl (mVar 7) (mPart none) (mPart (some (mC (.int 9))))) (mTup (mCons (mC (.str "1")) mNil))) mNil))))) (mCall F_law_take (mCons (mVar 0) (mCons (mC (.int 10)) mNil))))))
  sNil)
  (sRet (mTup (mCons (mC (.str "put")) (mCons (mVar 5) (mCons (mVar 7) mNil)))))))
  sNil)
  (sSeq (sIf (mTst (mBin fLt (mVar 3) (mC (.int 9))))
  (sRet (mTup (mCons (mC (.str "run")) (mCons (mVar 5) (mCons (mBin fIdx (mFrz (mLst (mCons (mC (.int 0)) (mCons (mC (.int 1)) (mCons (mCall F_law_take (mCons (mVar 0) (mCons (mC (.int 30)) mNil))) (mCons (mC (.int 200)) mNil)))))) (mCall F_law_take (mCons (mVar 0) (mCons (mC (.int 4)) mNil)))) mNil)))))
  sNil)
  (sRet (mBin fIdx (mFrz (mLst (mCons (mTup (mCons (mC (.str "drop")) (mCons (mVar 5) (mCons (mC .non) mNil)))) (mCons (mTup (mCons (mC (.str "undo")) (mCons (mC .non) (mCons (mC .non) mNil)))) (mCons (mTup (mCons (mC (.str "undo")) (mCons (mC .non) (mCons (mC .non) mNil)))) mNil))))) (mBin fSub (mVar 3) (mC (.int 9))))))))))))
def F_law_bench_deed_v2 : Fn := fn 3 8 false b_law_bench_deed_v2
def b_law_line_right : MS := (sSeq (sIf (mOrT (mNotT (mTru (mUn (fIsi "tuple") (mVar 0)))) (mTst (mBin fNe (mCallF fLen (mCons (mVar 0) mNil)) (mC (.int 10)))))
  (sRet (mC (.bl false)))
  sNil)
  (sRet (mCallF fAll (mCons (mFrz (mComp (mSeq (mVar 0)) [1] (.one 1) mYes (mAndV (mCall F_law_whole (mCons (mVar 1) mNil)) (mChain fLe fLe (mC (.int 0)) (mVar 1) (mBin fPow (mC (.int 10)) (mC (.int 6))))))) mNil))))
def F_law_line_right : Fn := fn 1 2 false b_law_line_right
def b_law_bench_due : MS := (sSeq (sAsg (.tup [5, 3, 4]) (mVar 2))
  (sSeq (sSet 6 (mAndV (mUn (fIsi "str") (mVar 3)) (mChain fLe fLe (mC (.int 1)) (mCallF fLen (mCons (mVar 3) mNil)) (mC (.int 8)))))
  (sSeq (sIf (mTru (mVar 6))
  (sSet 6 (mCallF fAll (mCons (mFrz (mComp (mSeq (mVar 3)) [12] (.one 12) mYes (mChain fLeS fLeS (mC (.str "a")) (mVar 12) (mC (.str "z"))))) mNil)))
  sNil)
  (sSeq (sIf (mOrT (mNotT (mTru (mVar 6))) (mAndT (mTst (mBin fNe (mVar 5) (mC (.str "put")))) (mTst (mBin fNotInS (mVar 3) (mVar 1)))))
  (sRet (mFrz (mLst (mCons (mC (.str "name")) (mCons (mVar 1) mNil)))))
  sNil)
  (sSeq (sSet 7 (mCopyD (mCons (mVar 1) mNil)))
  (sSeq (sIf (mTst (mBin fEq (mVar 5) (mC (.str "drop"))))
  (sSeq (sExp (mPopD (mVar 7) (mVar 3)))
  (sRet (mFrz (mLst (mCons (mC .non) (mCons (mFrzD (mVar 7)) mNil))))))
  sNil)
  (sSeq (sIf (mTst (mBin fEq (mVar 5) (mC (.str "run"))))
  (sSeq (sAsg (.tup [8, 10]) (mBin fGetS (mVar 1) (mVar 3)))
  (sSeq (sAsg (.tup [9, 11]) (mCall F_law_gone_through (mCons (mVar 0) (mCons (mVar 8) (mCons (mVar 4) mNil)))))
  (sSeq (sPutD (mTup (mCons (mBin fIdx (mVar 9) (mUn fNeg (mC (.int 1)))) (mCons (mBin fAdd (mVar 10) (mCallF fLen (mCons (mVar 11) mNil))) mNil))) (mVar 7) (mVar 3))
  (sRet (mFrz (mLst (mCons (mCallF fLen (mCons (mVar 11) mNil)) (mCons (mFrzD (mVar 7)) mNil))))))))
  sNil)
  (sSeq (sIf (mNotT (mTru (mCall F_law_line_right (mCons (mVar 4) mNil))))
  (sRet (mFrz (mLst (mCons (mC (.str "powers")) (mCons (mVar 1) mNil)))))
  sNil)
  (sSeq (sIf (mAndT (mTst (mBin fNotInS (mVar 3) (mVar 1))) (mTst (mBin fEq (mCallF fLenS (mCons (mVar 1) mNil)) (mC (.int 12)))))
  (sRet (mFrz (mLst (mCons (mC (.str "many")) (mCons (mVar 1) mNil)))))
  sNil)
  (sSeq (sPutD (mTup (mCons (mVar 4) (mCons (mC (.int 0)) mNil))) (mVar 7) (mVar 3))
  (sRet (mFrz (mLst (mCons (mC .non) (mCons (mFrzD (mVar 7)) mNil)))))))))))))))
def F_law_bench_due : Fn := fn 3 13 false b_law_bench_due
def b_Bench_undo_v2 : MS := (sSeq (sIf (mTst (mBin fEqN (mFld 2 "earlier" (mVar 0)) (mFrz (mLst mNil))))
  (sRaise (.txt 21))
  sNil)
  (sFld 2 "kept" (mMethL fPop (mFld 2 "earlier" (mVar 0)) mNil) (mVar 0)))
def F_Bench_undo_v2 : Fn := fn 1 1 true b_Bench_undo_v2
def b_Bench_turn_to : MS := (sSeq (sExp (mMethL fAppend (mFld 2 "earlier" (mVar 0)) (mCons (mFld 2 "kept" (mVar 0)) mNil)))
  (sFld 2 "kept" (mVar 1) (mVar 0)))
def F_Bench_turn_to : Fn := fn 2 2 true b_Bench_turn_to
def b_is_name : MS := (sSeq (sIf (mOrT (mNotT (mTru (mUn (fIsi "str") (mVar 0)))) (mNotT (mTst (mChain fLe fLe (mC (.int 1)) (mCallF fLen (mCons (mVar 0) mNil)) (mC t_LONGEST_NAME)))))
  (sRet (mC (.bl false)))
  sNil)
  (sRet (mCallF fAll (mCons (mFrz (mComp (mSeq (mVar 0)) [1] (.one 1) mYes (mBin fIn (mVar 1) (mC t_NAME_LETTERS)))) mNil))))
def F_is_name : Fn := fn 1 2 false b_is_name
def b_Bench_put : MS := (sSeq (sIf (mNotT (mTru (mCall F_is_name (mCons (mVar 1) mNil))))
  (sRaise (.txt 20))
  sNil)
  (sSeq (sIf (mOrT (mNotT (mTru (mCall F_is_powers (mCons (mVar 2) mNil)))) (mTst (mBin fGt (mCallF fMaxA (mCons (mVar 2) mNil)) (mC t_GREATEST))))
  (sRaise (.txt 18))
  sNil)
  (sSeq (sIf (mAndT (mTst (mBin fNotInS (mVar 1) (mFld 2 "kept" (mVar 0)))) (mTst (mBin fEq (mCallF fLenS (mCons (mFld 2 "kept" (mVar 0)) mNil)) (mC t_MOST_NAMES))))
  (sRaise (.txt 12))
  sNil)
  (sSeq (sSet 3 (mCopyD (mCons (mFld 2 "kept" (mVar 0)) mNil)))
  (sSeq (sPutD (mTup (mCons (mVar 2) (mCons (mC (.int 0)) mNil))) (mVar 3) (mVar 1))
  (sExp (mMeth 2 "turn_to" F_Bench_turn_to (mVar 0) (mCons (mFrzD (mVar 3)) mNil))))))))
def F_Bench_put : Fn := fn 3 4 true b_Bench_put
def b_Bench_look_for : MS := (sIf (mOrT (mNotT (mTru (mCall F_is_name (mCons (mVar 1) mNil)))) (mTst (mBin fNotInS (mVar 1) (mFld 2 "kept" (mVar 0)))))
  (sRaise (.txt 20))
  sNil)
def F_Bench_look_for : Fn := fn 2 2 false b_Bench_look_for
def b_Bench_run : MS := (sSeq (sExp (mMeth 2 "look_for" F_Bench_look_for (mVar 0) (mCons (mVar 1) mNil)))
  (sSeq (sAsg (.tup [4, 3]) (mBin fGetS (mFld 2 "kept" (mVar 0)) (mVar 1)))
  (sSeq (sAsg (.tup [5, 6]) (mCall F_leapt (mCons (mFld 2 "own" (mVar 0)) (mCons (mVar 4) (mCons (mVar 2) mNil)))))
  (sSeq (sSet 7 (mCopyD (mCons (mFld 2 "kept" (mVar 0)) mNil)))
  (sSeq (sPutD (mTup (mCons (mVar 6) (mCons (mBin fAdd (mVar 3) (mVar 5)) mNil))) (mVar 7) (mVar 1))
  (sSeq (sExp (mMeth 2 "turn_to" F_Bench_turn_to (mVar 0) (mCons (mFrzD (mVar 7)) mNil)))
  (sRet (mVar 5))))))))
def F_Bench_run : Fn := fn 3 8 true b_Bench_run
def b_Bench_drop : MS := (sSeq (sExp (mMeth 2 "look_for" F_Bench_look_for (mVar 0) (mCons (mVar 1) mNil)))
  (sSeq (sSet 2 (mCopyD (mCons (mFld 2 "kept" (mVar 0)) mNil)))
  (sSeq (sExp (mPopD (mVar 2) (mVar 1)))
  (sExp (mMeth 2 "turn_to" F_Bench_turn_to (mVar 0) (mCons (mFrzD (mVar 2)) mNil))))))
def F_Bench_drop : Fn := fn 2 3 true b_Bench_drop
def b_law_bench_told_v2 : MS := (sSeq (sAsg (.tup [4, 2, 3]) (mVar 1))
  (sTry 5 [12, 16, 18, 20, 21]
  (sSeq (sIf (mTst (mBin fEq (mVar 4) (mC (.str "put"))))
  (sRet (mMeth 2 "put" F_Bench_put (mVar 0) (mCons (mVar 2) (mCons (mVar 3) mNil))))
  sNil)
  (sSeq (sIf (mTst (mBin fEq (mVar 4) (mC (.str "run"))))
  (sRet (mMeth 2 "run" F_Bench_run (mVar 0) (mCons (mVar 2) (mCons (mVar 3) mNil))))
  sNil)
  (sSeq (sIf (mTst (mBin fEq (mVar 4) (mC (.str "drop"))))
  (sRet (mMeth 2 "drop" F_Bench_drop (mVar 0) (mCons (mVar 2) mNil)))
  sNil)
  (sRet (mMeth 2 "undo" F_Bench_undo_v2 (mVar 0) mNil)))))
  fun ea ed ee => (sRet (mCall (F_law_kind_of ea ed ee) (mCons (mVar 5) mNil)))))
def F_law_bench_told_v2 : Fn := fn 2 6 true b_law_bench_told_v2
def b_Bench_names : MS := (sRet (mCell (mNewA fSortS (mCons (mFld 2 "kept" (mVar 0)) mNil))))
def F_Bench_names : Fn := fn 1 1 true b_Bench_names
def b_Bench_powers : MS := (sSeq (sExp (mMeth 2 "look_for" F_Bench_look_for (mVar 0) (mCons (mVar 1) mNil)))
  (sRet (mBin fIdx (mBin fGetS (mFld 2 "kept" (mVar 0)) (mVar 1)) (mC (.int 0)))))
def F_Bench_powers : Fn := fn 2 2 false b_Bench_powers
def b_Bench_gone : MS := (sSeq (sExp (mMeth 2 "look_for" F_Bench_look_for (mVar 0) (mCons (mVar 1) mNil)))
  (sRet (mBin fIdx (mBin fGetS (mFld 2 "kept" (mVar 0)) (mVar 1)) (mC (.int 1)))))
def F_Bench_gone : Fn := fn 2 2 false b_Bench_gone
def b_law_bench_right : MS := (sSeq (sSet 2 (mMeth 2 "names" F_Bench_names (mVar 0) mNil))
  (sSeq (sIf (mNotT (mTru (mCall (F_law_same 8) (mCons (mVar 2) (mCons (mFrz (mNewA fSortS (mCons (mVar 1) mNil))) mNil)))))
  (sRet (mC (.bl false)))
  sNil)
  (sSeq (sExp (mMethL fAppend (mVar 2) (mCons (mC (.str "")) mNil)))
  (sSeq (sFor (mKeysD (mVar 1)) (.one 3) [2, 3]
  (sIf (mOrT (mNotT (mTru (mCall (F_law_same 8) (mCons (mMeth 2 "powers" F_Bench_powers (mVar 0) (mCons (mVar 3) mNil)) (mCons (mBin fIdx (mBin fGetS (mVar 1) (mVar 3)) (mC (.int 0))) mNil))))) (mNotT (mTru (mCall (F_law_same 8) (mCons (mMeth 2 "gone" F_Bench_gone (mVar 0) (mCons (mVar 3) mNil)) (mCons (mBin fIdx (mBin fGetS (mVar 1) (mVar 3)) (mC (.int 1))) mNil))))))
  (sRet (mC (.bl false)))
  sNil))
  (sRet (mCall (F_law_same 8) (mCons (mMeth 2 "names" F_Bench_names (mVar 0) mNil) (mCons (mFrz (mNewA fSortS (mCons (mVar 1) mNil))) mNil))))))))
def F_law_bench_right : Fn := fn 2 4 false b_law_bench_right
def b_law_k91_v2 : MS := (sSeq (sSet 1 (mCall F_law_pot (mCons (mCall F_law_cell_at (mCons (mVar 0) (mCons (mC (.int 0)) mNil))) mNil)))
  (sSeq (sSet 2 (mCall F_law_places (mCons (mVar 1) mNil)))
  (sSeq (sSet 3 (mFrz (mLst (mCons (mCall F_law_calm_program (mCons (mVar 1) (mCons (mVar 2) (mCons (mC (.int 8)) mNil)))) (mCons (mCall F_law_calm_program (mCons (mVar 1) (mCons (mVar 2) (mCons (mC (.int 5)) mNil)))) mNil)))))
  (sSeq (sSet 4 (mFrz (mComp (mSeq (mVar 3)) [13] (.one 13) mYes (mCall F_law_table (mCons (mVar 13) mNil)))))
  (sSeq (sSet 5 (mFrz (mComp (mSeq (mVar 3)) [13] (.one 13) mYes (mNew 2 F_Bench_init_v2 (mCons (mVar 13) mNil)))))
  (sSeq (sSet 6 (mFrz (mLst (mCons (mCell (mLst (mCons mEmpD mNil))) (mCons (mCell (mLst (mCons mEmpD mNil))) mNil)))))
  (sSeq (sFor (mRange2 (mCons (mC (.int 1)) (mCons (mCallF fMax (mCons (mC (.int 2)) (mCons (mCallF fMin (mCons (mCallF fLen (mCons (mVar 0) mNil)) (mCons (mC (.int 41)) mNil))) mNil))) mNil))) (.one 9) [1, 3, 7, 8, 9, 10, 11, 12]
  (sSeq (sSet 1 (mCall F_law_pot (mCons (mCall F_law_cell_at (mCons (mVar 0) (mCons (mVar 9) mNil))) mNil)))
  (sSeq (sSet 12 (mCallF fInt (mCons (mBin fEq (mCall F_law_take (mCons (mVar 1) (mCons (mC (.int 4)) mNil))) (mC (.int 0))) mNil)))
  (sSeq (sSet 7 (mCall F_law_bench_deed_v2 (mCons (mVar 1) (mCons (mVar 2) (mCons (mBin fIdx (mBin fIdx (mVar 6) (mVar 12)) (mUn fNeg (mC (.int 1)))) mNil)))))
  (sSeq (sSet 8 (mC (.str "deed")))
  (sSeq (sIf (mTst (mBin fNe (mBin fIdx (mVar 7) (mC (.int 0))) (mC (.str "undo"))))
  (sSeq (sAsg (.tup [8, 10]) (mCall F_law_bench_due (mCons (mBin fIdx (mVar 4) (mVar 12)) (mCons (mBin fIdx (mBin fIdx (mVar 6) (mVar 12)) (mUn fNeg (mC (.int 1)))) (mCons (mVar 7) mNil)))))
  (sIf (mNotT (mTru (mUn (fIsi "str") (mVar 8))))
  (sExp (mMethL fAppend (mBin fIdx (mVar 6) (mVar 12)) (mCons (mVar 10) mNil)))
  sNil))
  (sIf (mTst (mBin fGt (mCallF fLen (mCons (mBin fIdx (mVar 6) (mVar 12)) mNil)) (mC (.int 1))))
  (sSeq (sExp (mMethL fPop (mBin fIdx (mVar 6) (mVar 12)) mNil))
  (sSet 8 (mC .non)))
  sNil))
  (sSeq (sIf (mNotT (mTru (mCall (F_law_same 8) (mCons (mCall F_law_bench_told_v2 (mCons (mBin fIdx (mVar 5) (mVar 12)) (mCons (mVar 7) mNil))) (mCons (mVar 8) mNil)))))
  (sRet (mC (.bl false)))
  sNil)
  (sFor (mRange1 (mCons (mC (.int 2)) mNil)) (.one 11) [1, 3, 7, 8, 9, 10, 11, 12]
  (sIf (mOrT (mNotT (mTru (mCall F_law_bench_right (mCons (mBin fIdx (mVar 5) (mC (.int 0))) (mCons (mBin fIdx (mBin fIdx (mVar 6) (mC (.int 0))) (mUn fNeg (mC (.int 1)))) mNil))))) (mNotT (mTru (mCall F_law_bench_right (mCons (mBin fIdx (mVar 5) (mC (.int 1))) (mCons (mBin fIdx (mBin fIdx (mVar 6) (mC (.int 1))) (mUn fNeg (mC (.int 1)))) mNil))))))
  (sRet (mC (.bl false)))
  sNil)))))))))
  (sRet (mC (.bl true))))))))))
def F_law_k91_v2 : Fn := fn 1 14 false b_law_k91_v2
end
end Gd
section
set_option maxHeartbeats 4000000
namespace K91
open PySem PySem.Spec PyProof.Rows L2 Sm Gd
def topS (i : Nat) : Stmt := PySem.Challenge.pw_wholefract_k91_benches_and_deeds.main.body.getD i (.Pass ⟨0, 0, 0, 0⟩)
def clsS (i j : Nat) : Stmt := match topS i with
  | .ClassDef _ _ _ body _ _ _ _ _ _ _ => body.getD j (.Pass ⟨0, 0, 0, 0⟩)
  | _ => .Pass ⟨0, 0, 0, 0⟩
abbrev s_law_pot : Stmt := topS 40
theorem sc_law_pot : FnScope ["cell", "number", "j", "more"] ["cell"] (defScope s_law_pot) := ⟨rfl, rfl, rfl, by decide +kernel, rfl, by decide +kernel, by decide +kernel⟩
abbrev s_law_take : Stmt := topS 41
theorem sc_law_take : FnScope ["pot", "far", "found"] ["pot", "far"] (defScope s_law_take) := ⟨rfl, rfl, rfl, by decide +kernel, rfl, by decide +kernel, by decide +kernel⟩
abbrev s_law_order : Stmt := topS 42
theorem sc_law_order : FnScope ["pot", "wide", "found", "k"] ["pot", "wide"] (defScope s_law_order) := ⟨rfl, rfl, rfl, by decide +kernel, rfl, by decide +kernel, by decide +kernel⟩
abbrev s_law_places : Stmt := topS 43
theorem sc_law_places : FnScope ["pot", "wide"] ["pot"] (defScope s_law_places) := ⟨rfl, rfl, rfl, by decide +kernel, rfl, by decide +kernel, by decide +kernel⟩
abbrev s_law_cell_at : Stmt := topS 39
theorem sc_law_cell_at : FnScope ["script", "k"] ["script", "k"] (defScope s_law_cell_at) := ⟨rfl, rfl, rfl, by decide +kernel, rfl, by decide +kernel, by decide +kernel⟩
abbrev s_law_primes : Stmt := topS 44
theorem sc_law_primes : FnScope [] [] (defScope s_law_primes) := ⟨rfl, rfl, rfl, by decide +kernel, rfl, by decide +kernel, by decide +kernel⟩
abbrev s_law_product : Stmt := topS 45
theorem sc_law_product : FnScope ["line", "found", "often", "prime", "turn"] ["line"] (defScope s_law_product) := ⟨rfl, rfl, rfl, by decide +kernel, rfl, by decide +kernel, by decide +kernel⟩
abbrev s_law_fraction : Stmt := topS 46
theorem sc_law_fraction : FnScope ["pot", "places", "found", "place", "turn", "top", "bottom", "one"] ["pot", "places"] (defScope s_law_fraction) := ⟨rfl, rfl, rfl, by decide +kernel, rfl, by decide +kernel, by decide +kernel⟩
abbrev s_law_program : Stmt := topS 47
theorem sc_law_program : FnScope ["pot", "places", "most", "k"] ["pot", "places", "most"] (defScope s_law_program) := ⟨rfl, rfl, rfl, by decide +kernel, rfl, by decide +kernel, by decide +kernel⟩
abbrev s_law_calm_program : Stmt := topS 48
theorem sc_law_calm_program : FnScope ["pot", "places", "most", "found", "some", "k", "lap", "less", "line", "sides", "top", "turn", "one", "other"] ["pot", "places", "most"] (defScope s_law_calm_program) := ⟨rfl, rfl, rfl, by decide +kernel, rfl, by decide +kernel, by decide +kernel⟩
abbrev s_law_exps : Stmt := topS 50
theorem sc_law_exps : FnScope ["number", "found", "often", "prime"] ["number"] (defScope s_law_exps) := ⟨rfl, rfl, rfl, by decide +kernel, rfl, by decide +kernel, by decide +kernel⟩
abbrev s_law_table : Stmt := topS 51
theorem sc_law_table : FnScope ["program", "found", "bottom", "top", "want", "one", "other"] ["program"] (defScope s_law_table) := ⟨rfl, rfl, rfl, by decide +kernel, rfl, by decide +kernel, by decide +kernel⟩
abbrev s_found_powers : Stmt := topS 21
theorem sc_found_powers : FnScope ["number", "found", "often", "prime"] ["number"] (defScope s_found_powers) := ⟨rfl, rfl, rfl, by decide +kernel, rfl, by decide +kernel, by decide +kernel⟩
abbrev s_is_whole : Stmt := topS 18
theorem sc_is_whole : FnScope ["thing"] ["thing"] (defScope s_is_whole) := ⟨rfl, rfl, rfl, by decide +kernel, rfl, by decide +kernel, by decide +kernel⟩
abbrev s_is_upto : Stmt := topS 19
theorem sc_is_upto : FnScope ["thing", "least", "most"] ["thing", "least", "most"] (defScope s_is_upto) := ⟨rfl, rfl, rfl, by decide +kernel, rfl, by decide +kernel, by decide +kernel⟩
abbrev s_is_fraction : Stmt := topS 22
theorem sc_is_fraction : FnScope ["thing", "top", "bottom", "one", "other"] ["thing"] (defScope s_is_fraction) := ⟨rfl, rfl, rfl, by decide +kernel, rfl, by decide +kernel, by decide +kernel⟩
abbrev s_is_program : Stmt := topS 23
theorem sc_is_program : FnScope ["thing", "one"] ["thing"] (defScope s_is_program) := ⟨rfl, rfl, rfl, by decide +kernel, rfl, by decide +kernel, by decide +kernel⟩
abbrev s_Bench_init : Stmt := clsS 37 0
theorem sc_Bench_init : FnScope ["self", "program"] ["self", "program"] (defScope s_Bench_init) := ⟨rfl, rfl, rfl, by decide +kernel, rfl, by decide +kernel, by decide +kernel⟩
abbrev s_law_line : Stmt := topS 49
theorem sc_law_line : FnScope ["pot", "places", "most", "found", "place"] ["pot", "places", "most"] (defScope s_law_line) := ⟨rfl, rfl, rfl, by decide +kernel, rfl, by decide +kernel, by decide +kernel⟩
abbrev s_law_bench_deed : Stmt := topS 61
theorem sc_law_bench_deed : FnScope ["pot", "places", "rows", "way", "odd", "name", "some", "line"] ["pot", "places", "rows"] (defScope s_law_bench_deed) := ⟨rfl, rfl, rfl, by decide +kernel, rfl, by decide +kernel, by decide +kernel⟩
abbrev s_law_first_of : Stmt := topS 54
theorem sc_law_first_of : FnScope ["table", "line", "more", "number", "want", "one", "other"] ["table", "line"] (defScope s_law_first_of) := ⟨rfl, rfl, rfl, by decide +kernel, rfl, by decide +kernel, by decide +kernel⟩
abbrev s_law_put : Stmt := topS 55
theorem sc_law_put : FnScope ["table", "line", "number", "often", "one", "other"] ["table", "line", "number", "often"] (defScope s_law_put) := ⟨rfl, rfl, rfl, by decide +kernel, rfl, by decide +kernel, by decide +kernel⟩
abbrev s_law_gone_through : Stmt := topS 56
theorem sc_law_gone_through : FnScope ["table", "line", "many", "rows", "used", "number"] ["table", "line", "many"] (defScope s_law_gone_through) := ⟨rfl, rfl, rfl, by decide +kernel, rfl, by decide +kernel, by decide +kernel⟩
abbrev s_law_whole : Stmt := topS 52
theorem sc_law_whole : FnScope ["found"] ["found"] (defScope s_law_whole) := ⟨rfl, rfl, rfl, by decide +kernel, rfl, by decide +kernel, by decide +kernel⟩
abbrev s_law_line_right : Stmt := topS 57
theorem sc_law_line_right : FnScope ["thing", "one"] ["thing"] (defScope s_law_line_right) := ⟨rfl, rfl, rfl, by decide +kernel, rfl, by decide +kernel, by decide +kernel⟩
abbrev s_law_bench_due : Stmt := topS 58
theorem sc_law_bench_due : FnScope ["table", "rows", "deed", "name", "thing", "way", "right", "later", "line", "some", "steps", "used", "sign"] ["table", "rows", "deed"] (defScope s_law_bench_due) := ⟨rfl, rfl, rfl, by decide +kernel, rfl, by decide +kernel, by decide +kernel⟩
abbrev s_law_same : Stmt := topS 53
theorem sc_law_same : FnScope ["found", "due", "one", "other"] ["found", "due"] (defScope s_law_same) := ⟨rfl, rfl, rfl, by decide +kernel, rfl, by decide +kernel, by decide +kernel⟩
abbrev s_Bench_undo : Stmt := clsS 37 6
theorem sc_Bench_undo : FnScope ["self"] ["self"] (defScope s_Bench_undo) := ⟨rfl, rfl, rfl, by decide +kernel, rfl, by decide +kernel, by decide +kernel⟩
abbrev s_Bench_turn_to : Stmt := clsS 37 1
theorem sc_Bench_turn_to : FnScope ["self", "later"] ["self", "later"] (defScope s_Bench_turn_to) := ⟨rfl, rfl, rfl, by decide +kernel, rfl, by decide +kernel, by decide +kernel⟩
abbrev s_is_name : Stmt := topS 36
theorem sc_is_name : FnScope ["thing", "sign"] ["thing"] (defScope s_is_name) := ⟨rfl, rfl, rfl, by decide +kernel, rfl, by decide +kernel, by decide +kernel⟩
abbrev s_is_powers : Stmt := topS 20
theorem sc_is_powers : FnScope ["thing", "one"] ["thing"] (defScope s_is_powers) := ⟨rfl, rfl, rfl, by decide +kernel, rfl, by decide +kernel, by decide +kernel⟩
abbrev s_Bench_put : Stmt := clsS 37 3
theorem sc_Bench_put : FnScope ["self", "name", "powers", "later"] ["self", "name", "powers"] (defScope s_Bench_put) := ⟨rfl, rfl, rfl, by decide +kernel, rfl, by decide +kernel, by decide +kernel⟩
abbrev s_Bench_look_for : Stmt := clsS 37 2
theorem sc_Bench_look_for : FnScope ["self", "name"] ["self", "name"] (defScope s_Bench_look_for) := ⟨rfl, rfl, rfl, by decide +kernel, rfl, by decide +kernel, by decide +kernel⟩
abbrev s_bottoms_of : Stmt := topS 25
theorem sc_bottoms_of : FnScope ["program", "top", "bottom"] ["program"] (defScope s_bottoms_of) := ⟨rfl, rfl, rfl, by decide +kernel, rfl, by decide +kernel, by decide +kernel⟩
abbrev s_tops_of : Stmt := topS 24
theorem sc_tops_of : FnScope ["program", "top", "bottom"] ["program"] (defScope s_tops_of) := ⟨rfl, rfl, rfl, by decide +kernel, rfl, by decide +kernel, by decide +kernel⟩
abbrev s_changes_of : Stmt := topS 26
theorem sc_changes_of : FnScope ["program", "found", "bottom", "top", "one", "other"] ["program"] (defScope s_changes_of) := ⟨rfl, rfl, rfl, by decide +kernel, rfl, by decide +kernel, by decide +kernel⟩
abbrev s_Ways_init : Stmt := clsS 29 0
theorem sc_Ways_init : FnScope ["self", "program"] ["self", "program"] (defScope s_Ways_init) := ⟨rfl, rfl, rfl, by decide +kernel, rfl, by decide +kernel, by decide +kernel⟩
abbrev s_Ways_first : Stmt := clsS 29 1
theorem sc_Ways_first : FnScope ["self", "powers", "number", "want", "one", "other"] ["self", "powers"] (defScope s_Ways_first) := ⟨rfl, rfl, rfl, by decide +kernel, rfl, by decide +kernel, by decide +kernel⟩
abbrev s_Ways_last_fit : Stmt := clsS 29 3
theorem sc_Ways_last_fit : FnScope ["self", "powers", "number", "found", "more", "often", "one", "want"] ["self", "powers", "number"] (defScope s_Ways_last_fit) := ⟨rfl, rfl, rfl, by decide +kernel, rfl, by decide +kernel, by decide +kernel⟩
abbrev s_Ways_comes_in : Stmt := clsS 29 4
theorem sc_Ways_comes_in : FnScope ["self", "powers", "number", "other", "least", "most", "more", "often", "one", "want"] ["self", "powers", "number", "other"] (defScope s_Ways_comes_in) := ⟨rfl, rfl, rfl, by decide +kernel, rfl, by decide +kernel, by decide +kernel⟩
abbrev s_Ways_stretch_of : Stmt := clsS 29 5
theorem sc_Ways_stretch_of : FnScope ["self", "powers", "number", "found", "often", "other"] ["self", "powers", "number"] (defScope s_Ways_stretch_of) := ⟨rfl, rfl, rfl, by decide +kernel, rfl, by decide +kernel, by decide +kernel⟩
abbrev s_Ways_gone : Stmt := clsS 29 2
theorem sc_Ways_gone : FnScope ["self", "powers", "number", "many", "one", "more"] ["self", "powers", "number", "many"] (defScope s_Ways_gone) := ⟨rfl, rfl, rfl, by decide +kernel, rfl, by decide +kernel, by decide +kernel⟩
abbrev s_leapt : Stmt := topS 30
theorem sc_leapt : FnScope ["program", "powers", "many", "ways", "done", "stretches", "number", "often"] ["program", "powers", "many"] (defScope s_leapt) := ⟨rfl, rfl, rfl, by decide +kernel, rfl, by decide +kernel, by decide +kernel⟩
abbrev s_Bench_run : Stmt := clsS 37 4
theorem sc_Bench_run : FnScope ["self", "name", "many", "gone", "powers", "done", "further", "later"] ["self", "name", "many"] (defScope s_Bench_run) := ⟨rfl, rfl, rfl, by decide +kernel, rfl, by decide +kernel, by decide +kernel⟩
abbrev s_Bench_drop : Stmt := clsS 37 5
theorem sc_Bench_drop : FnScope ["self", "name", "later"] ["self", "name"] (defScope s_Bench_drop) := ⟨rfl, rfl, rfl, by decide +kernel, rfl, by decide +kernel, by decide +kernel⟩
abbrev s_law_kind_of : Stmt := topS 59
theorem sc_law_kind_of : FnScope ["e", "some", "words"] ["e"] (defScope s_law_kind_of) := ⟨rfl, rfl, rfl, by decide +kernel, rfl, by decide +kernel, by decide +kernel⟩
abbrev s_law_bench_told : Stmt := topS 60
theorem sc_law_bench_told : FnScope ["bench", "deed", "name", "thing", "way", "e"] ["bench", "deed"] (defScope s_law_bench_told) := ⟨rfl, rfl, rfl, by decide +kernel, rfl, by decide +kernel, by decide +kernel⟩
abbrev s_Bench_names : Stmt := clsS 37 7
theorem sc_Bench_names : FnScope ["self"] ["self"] (defScope s_Bench_names) := ⟨rfl, rfl, rfl, by decide +kernel, rfl, by decide +kernel, by decide +kernel⟩
abbrev s_Bench_powers : Stmt := clsS 37 8
theorem sc_Bench_powers : FnScope ["self", "name"] ["self", "name"] (defScope s_Bench_powers) := ⟨rfl, rfl, rfl, by decide +kernel, rfl, by decide +kernel, by decide +kernel⟩
abbrev s_Bench_gone : Stmt := clsS 37 9
theorem sc_Bench_gone : FnScope ["self", "name"] ["self", "name"] (defScope s_Bench_gone) := ⟨rfl, rfl, rfl, by decide +kernel, rfl, by decide +kernel, by decide +kernel⟩
abbrev s_law_bench_right : Stmt := topS 62
theorem sc_law_bench_right : FnScope ["bench", "rows", "names", "name"] ["bench", "rows"] (defScope s_law_bench_right) := ⟨rfl, rfl, rfl, by decide +kernel, rfl, by decide +kernel, by decide +kernel⟩
abbrev s_law : Stmt := topS 63
theorem sc_law : FnScope ["script", "pot", "places", "programs", "tables", "benches", "kept", "deed", "due", "k", "later", "turn", "which", "program"] ["script"] (defScope s_law) := ⟨rfl, rfl, rfl, by decide +kernel, rfl, by decide +kernel, by decide +kernel⟩
section
variable {w : World} {K : PySem.W.Frag} {mg : Str → Option Value} {base : Heap} {cl : Nat → Addr}
abbrev PP : Program := PySem.Challenge.pw_wholefract_k91_benches_and_deeds
theorem ok_law_pot {f : Addr} {fd : FuncData} (D : FunD K "_law_pot" "_law_pot" (defArgs s_law_pot) (defBody s_law_pot) (defScope s_law_pot) [] [] f fd) (m : mg "_law_pot" = some (.ref f)) (z_range : mg "range" = none) : Cal PP w K mg base cl "_law_pot" 1 ["cell"] F_law_pot 1 :=
  q_fn (k := 0) (sem := b_law_pot) D sc_law_pot rfl rfl m (FunD.bindsN (ps := ["cell"]) D fun _ _ _ _ _ _ us hl => match us, hl with | [_], _ => rfl) fun cdv A outer s H E c =>
  (ks_cons (ks_if (qt_ge (q_var 0) (k_bin o_pow k_int k_int))
  (ks_one (ks_ret (k_cell (kn_lst (ka_cons (k_bin o_sub (q_var 0) (k_bin o_pow k_int k_int)) ka_nil)))))
  ks_nil)
  (ks_cons (q_set c.nd 1 k_int)
  (ks_cons (ks_for c.hp c.calm (ki_range1 rfl z_range (ka_cons k_int ka_nil)) (q_one c.nd 2)
  (ks_cons (q_set c.nd 3 (k_bin o_mod (k_bin o_mul (k_bin o_add (k_bin o_add (k_bin o_mod (q_var 0) k_int) (k_bin o_mul k_int (q_var 2))) k_int) k_int) k_int))
  (ks_cons (q_set c.nd 3 (k_bin o_mod (k_bin o_add (k_bin o_add (k_bin o_mul (q_var 3) (q_var 3)) (k_bin o_mul k_int (q_var 2))) k_int) k_int))
  (ks_one (q_set c.nd 1 (k_bin o_add (k_bin o_mul (q_var 1) k_int) (q_var 3)))))))
  (ks_one (ks_ret (k_cell (kn_lst (ka_cons (q_var 1) ka_nil))))))))
theorem ok_law_take {f : Addr} {fd : FuncData} (D : FunD K "_law_take" "_law_take" (defArgs s_law_take) (defBody s_law_take) (defScope s_law_take) [] [] f fd) (m : mg "_law_take" = some (.ref f)) : Cal PP w K mg base cl "_law_take" 1 ["pot", "far"] F_law_take 2 :=
  q_fn (k := 0) (sem := b_law_take) D sc_law_take rfl rfl m (FunD.bindsN (ps := ["pot", "far"]) D fun _ _ _ _ _ _ us hl => match us, hl with | [_, _], _ => rfl) fun cdv A outer s H E c =>
  (ks_cons (q_set c.nd 2 (k_bin o_mod (q_idx (q_var 0) k_int) (q_var 1)))
  (ks_cons (ks_item (k_bin o_fdiv (q_idx (q_var 0) k_int) (q_var 1)) (q_var 0) k_int)
  (ks_one (ks_ret (q_var 2)))))
theorem ok_law_order {f : Addr} {fd : FuncData} (D : FunD K "_law_order" "_law_order" (defArgs s_law_order) (defBody s_law_order) (defScope s_law_order) [] [] f fd) (m : mg "_law_order" = some (.ref f)) (g_law_take : Cal PP w K mg base cl "_law_take" 1 ["pot", "far"] F_law_take 2) (z_range : mg "range" = none) (z_tuple : mg "tuple" = none) : Cal PP w K mg base cl "_law_order" 2 ["pot", "wide"] F_law_order 2 :=
  q_fn (k := 1) (sem := b_law_order) D sc_law_order rfl rfl m (FunD.bindsN (ps := ["pot", "wide"]) D fun _ _ _ _ _ _ us hl => match us, hl with | [_, _], _ => rfl) fun cdv A outer s H E c =>
  (ks_cons (q_set c.nd 2 (k_cell (kn_lst ka_nil)))
  (ks_cons (ks_for c.hp c.calm (ki_range1 rfl z_range (ka_cons (q_var 1) ka_nil)) (q_one c.nd 3)
  (ks_one (ks_expr (k_methL PySem.F.slot_list_insert PySem.F.type_list_insert m_insert (q_var 2) (ka_cons (q_call c g_law_take (by decide) rfl (ka_cons (q_var 0) (ka_cons (k_bin o_add (q_var 3) k_int) ka_nil))) (ka_cons (q_var 3) ka_nil))))))
  (ks_one (ks_ret (q_tuple z_tuple (ka_cons (q_var 2) ka_nil))))))
theorem ok_law_places {f : Addr} {fd : FuncData} (D : FunD K "_law_places" "_law_places" (defArgs s_law_places) (defBody s_law_places) (defScope s_law_places) [] [] f fd) (m : mg "_law_places" = some (.ref f)) (g_law_take : Cal PP w K mg base cl "_law_take" 1 ["pot", "far"] F_law_take 2) (g_law_order : Cal PP w K mg base cl "_law_order" 2 ["pot", "wide"] F_law_order 2) (z_range : mg "range" = none) (z_tuple : mg "tuple" = none) : Cal PP w K mg base cl "_law_places" 3 ["pot"] F_law_places 1 :=
  q_fn (k := 2) (sem := b_law_places) D sc_law_places rfl rfl m (FunD.bindsN (ps := ["pot"]) D fun _ _ _ _ _ _ us hl => match us, hl with | [_], _ => rfl) fun cdv A outer s H E c =>
  (ks_cons (q_set c.nd 1 (k_bin o_add k_int (q_call c g_law_take (by decide) rfl (ka_cons (q_var 0) (ka_cons k_int ka_nil)))))
  (ks_cons (ks_if (qt_eq c.hu (q_call c g_law_take (by decide) rfl (ka_cons (q_var 0) (ka_cons k_int ka_nil))) k_int)
  (ks_one (ks_ret (k_tupR c.calm z_tuple (kr_1 rfl z_range (q_var 1)))))
  ks_nil)
  (ks_one (ks_ret (k_slice (q_call c g_law_order (by decide) rfl (ka_cons (q_var 0) (ka_cons k_int ka_nil))) ko_none (ko_some (q_var 1)))))))
theorem ok_law_cell_at {f : Addr} {fd : FuncData} (D : FunD K "_law_cell_at" "_law_cell_at" (defArgs s_law_cell_at) (defBody s_law_cell_at) (defScope s_law_cell_at) [] [] f fd) (m : mg "_law_cell_at" = some (.ref f)) (z_len : mg "len" = none) : Cal PP w K mg base cl "_law_cell_at" 1 ["script", "k"] F_law_cell_at 2 :=
  q_fn (k := 0) (sem := b_law_cell_at) D sc_law_cell_at rfl rfl m (FunD.bindsN (ps := ["script", "k"]) D fun _ _ _ _ _ _ us hl => match us, hl with | [_, _], _ => rfl) fun cdv A outer s H E c =>
  (ks_cons (ks_if (qt_lt c.hu0 (q_var 1) (q_len z_len (ka_cons (q_var 0) ka_nil)))
  (ks_one (ks_ret (q_idx (q_var 0) (q_var 1))))
  ks_nil)
  (ks_one (ks_ret k_int)))
theorem ok_law_primes {f : Addr} {fd : FuncData} (D : FunD K "_law_primes" "_law_primes" (defArgs s_law_primes) (defBody s_law_primes) (defScope s_law_primes) [] [] f fd) (m : mg "_law_primes" = some (.ref f)) : Cal PP w K mg base cl "_law_primes" 1 [] F_law_primes 0 :=
  q_fn (k := 0) (sem := b_law_primes) D sc_law_primes rfl rfl m (FunD.bindsN (ps := []) D fun _ _ _ _ _ _ us hl => match us, hl with | [], _ => rfl) fun cdv A outer s H E c =>
  (ks_one (ks_ret (k_tup (ka_cons k_int (ka_cons k_int (ka_cons k_int (ka_cons k_int (ka_cons k_int (ka_cons k_int (ka_cons k_int (ka_cons k_int (ka_cons k_int (ka_cons k_int ka_nil)))))))))))))
theorem ok_law_product {f : Addr} {fd : FuncData} (D : FunD K "_law_product" "_law_product" (defArgs s_law_product) (defBody s_law_product) (defScope s_law_product) [] [] f fd) (m : mg "_law_product" = some (.ref f)) (g_law_primes : Cal PP w K mg base cl "_law_primes" 1 [] F_law_primes 0) (z_range : mg "range" = none) (z_zip : mg "zip" = none) : Cal PP w K mg base cl "_law_product" 2 ["line"] F_law_product 1 :=
  q_fn (k := 1) (sem := b_law_product) D sc_law_product rfl rfl m (FunD.bindsN (ps := ["line"]) D fun _ _ _ _ _ _ us hl => match us, hl with | [_], _ => rfl) fun cdv A outer s H E c =>
  (ks_cons (q_set c.nd 1 k_int)
  (ks_cons (ks_for c.hp c.calm (ki_zip rfl z_zip (ka_cons (q_call0 c g_law_primes (by decide) rfl) (ka_cons (q_var 0) ka_nil))) (kg_tup c.calm (q_gcons c.nd 3 (q_gcons c.nd 2 kgs_nil)))
  (ks_one (ks_for c.hp c.calm (ki_range1 rfl z_range (ka_cons (q_var 2) ka_nil)) (q_one c.nd 4)
  (ks_one (q_set c.nd 1 (k_bin o_mul (q_var 1) (q_var 3)))))))
  (ks_one (ks_ret (q_var 1)))))
theorem ok_law_fraction {f : Addr} {fd : FuncData} (D : FunD K "_law_fraction" "_law_fraction" (defArgs s_law_fraction) (defBody s_law_fraction) (defScope s_law_fraction) [] [] f fd) (m : mg "_law_fraction" = some (.ref f)) (g_law_take : Cal PP w K mg base cl "_law_take" 1 ["pot", "far"] F_law_take 2) (g_law_product : Cal PP w K mg base cl "_law_product" 2 ["line"] F_law_product 1) (z_len : mg "len" = none) (z_max : mg "max" = none) (z_range : mg "range" = none) (z_tuple : mg "tuple" = none) : Cal PP w K mg base cl "_law_fraction" 3 ["pot", "places"] F_law_fraction 2 :=
  q_fn (k := 2) (sem := b_law_fraction) D sc_law_fraction rfl rfl m (FunD.bindsN (ps := ["pot", "places"]) D fun _ _ _ _ _ _ us hl => match us, hl with | [_, _], _ => rfl) fun cdv A outer s H E c =>
  (ks_cons (q_set c.nd 2 (k_cell (kn_bin n_rep (k_frz (kn_lst (ka_cons k_int ka_nil))) k_int)))
  (ks_cons (ks_for c.hp c.calm (ki_range1 rfl z_range (ka_cons (q_call c g_law_take (by decide) rfl (ka_cons (q_var 0) (ka_cons k_int ka_nil))) ka_nil)) (q_one c.nd 4)
  (ks_cons (q_set c.nd 3 (q_idx (q_var 1) (q_call c g_law_take (by decide) rfl (ka_cons (q_var 0) (ka_cons (q_len z_len (ka_cons (q_var 1) ka_nil)) ka_nil)))))
  (ks_one (ks_item (k_bin o_add (q_idx (q_var 2) (q_var 3)) k_int) (q_var 2) (q_var 3)))))
  (ks_cons (ks_for c.hp c.calm (ki_range1 rfl z_range (ka_cons (q_call c g_law_take (by decide) rfl (ka_cons (q_var 0) (ka_cons k_int ka_nil))) ka_nil)) (q_one c.nd 4)
  (ks_cons (q_set c.nd 3 (q_idx (q_var 1) (q_call c g_law_take (by decide) rfl (ka_cons (q_var 0) (ka_cons (q_len z_len (ka_cons (q_var 1) ka_nil)) ka_nil)))))
  (ks_one (ks_item (k_bin o_sub (q_idx (q_var 2) (q_var 3)) k_int) (q_var 2) (q_var 3)))))
  (ks_cons (q_set c.nd 5 (q_tuple z_tuple (ka_cons (k_frz (kn_comp c.calm c.nd (ki_seq (q_var 2)) (blkOk_by (own := [("one", 7)]) (by rfl)) (by decide) (fun s1 H1 C1 l1 fp1 => (q_one (c.blk s1 H1 _ _ fp1).nd 7)) (fun s1 H1 C1 l1 fp1 => kts_nil) (fun s1 H1 C1 l1 fp1 => (q_max (c.blk s1 H1 _ _ fp1) z_max (ka_cons k_int (ka_cons (q_var 7) ka_nil)))))) ka_nil)))
  (ks_cons (q_set c.nd 6 (q_tuple z_tuple (ka_cons (k_frz (kn_comp c.calm c.nd (ki_seq (q_var 2)) (blkOk_by (own := [("one", 7)]) (by rfl)) (by decide) (fun s2 H2 C2 l2 fp2 => (q_one (c.blk s2 H2 _ _ fp2).nd 7)) (fun s2 H2 C2 l2 fp2 => kts_nil) (fun s2 H2 C2 l2 fp2 => (q_max (c.blk s2 H2 _ _ fp2) z_max (ka_cons k_int (ka_cons (k_bin o_sub k_int (q_var 7)) ka_nil)))))) ka_nil)))
  (ks_one (ks_ret (k_tup (ka_cons (q_call c g_law_product (by decide) rfl (ka_cons (q_var 5) ka_nil)) (ka_cons (q_call c g_law_product (by decide) rfl (ka_cons (q_var 6) ka_nil)) ka_nil))))))))))
theorem ok_law_program {f : Addr} {fd : FuncData} (D : FunD K "_law_program" "_law_program" (defArgs s_law_program) (defBody s_law_program) (defScope s_law_program) [] [] f fd) (m : mg "_law_program" = some (.ref f)) (g_law_fraction : Cal PP w K mg base cl "_law_fraction" 3 ["pot", "places"] F_law_fraction 2) (g_law_take : Cal PP w K mg base cl "_law_take" 1 ["pot", "far"] F_law_take 2) (z_range : mg "range" = none) (z_tuple : mg "tuple" = none) : Cal PP w K mg base cl "_law_program" 4 ["pot", "places", "most"] F_law_program 3 :=
  q_fn (k := 3) (sem := b_law_program) D sc_law_program rfl rfl m (FunD.bindsN (ps := ["pot", "places", "most"]) D fun _ _ _ _ _ _ us hl => match us, hl with | [_, _, _], _ => rfl) fun cdv A outer s H E c =>
  (ks_one (ks_ret (q_tuple z_tuple (ka_cons (k_frz (kn_comp c.calm c.nd (ki_range1 rfl z_range (ka_cons (k_bin o_add k_int (q_call c g_law_take (by decide) rfl (ka_cons (q_var 0) (ka_cons (q_var 2) ka_nil)))) ka_nil)) (blkOk_by (own := [("k", 3)]) (by rfl)) (by decide) (fun s3 H3 C3 l3 fp3 => (q_one (c.blk s3 H3 _ _ fp3).nd 3)) (fun s3 H3 C3 l3 fp3 => kts_nil) (fun s3 H3 C3 l3 fp3 => (q_call (c.blk s3 H3 _ _ fp3) g_law_fraction (by decide) rfl (ka_cons (q_var 0) (ka_cons (q_var 1) ka_nil)))))) ka_nil))))
theorem ok_law_calm_program {f : Addr} {fd : FuncData} (D : FunD K "_law_calm_program" "_law_calm_program" (defArgs s_law_calm_program) (defBody s_law_calm_program) (defScope s_law_calm_program) [] [] f fd) (m : mg "_law_calm_program" = some (.ref f)) (g_law_program : Cal PP w K mg base cl "_law_program" 4 ["pot", "places", "most"] F_law_program 3) (g_law_take : Cal PP w K mg base cl "_law_take" 1 ["pot", "far"] F_law_take 2) (g_law_product : Cal PP w K mg base cl "_law_product" 2 ["line"] F_law_product 1) (z_len : mg "len" = none) (z_min : mg "min" = none) (z_range : mg "range" = none) (z_tuple : mg "tuple" = none) (z_zip : mg "zip" = none) : Cal PP w K mg base cl "_law_calm_program" 5 ["pot", "places", "most"] F_law_calm_program 3 :=
  q_fn (k := 4) (sem := b_law_calm_program) D sc_law_calm_program rfl rfl m (FunD.bindsN (ps := ["pot", "places", "most"]) D fun _ _ _ _ _ _ us hl => match us, hl with | [_, _, _], _ => rfl) fun cdv A outer s H E c =>
  (ks_cons (q_set c.nd 3 (q_call c g_law_program (by decide) rfl (ka_cons (q_var 0) (ka_cons (q_var 1) (ka_cons (q_var 2) ka_nil)))))
  (ks_cons (ks_if (qt_eq c.hu (q_call c g_law_take (by decide) rfl (ka_cons (q_var 0) (ka_cons k_int ka_nil))) k_int)
  (ks_one (ks_ret (q_var 3)))
  ks_nil)
  (ks_cons (q_set c.nd 4 (k_cell (kn_lst ka_nil)))
  (ks_cons (ks_for c.hp c.calm (ki_range1 rfl z_range (ka_cons (k_bin o_add k_int (q_call c g_law_take (by decide) rfl (ka_cons (q_var 0) (ka_cons (q_var 2) ka_nil)))) ka_nil)) (q_one c.nd 5)
  (ks_cons (q_set c.nd 9 (k_cell (kn_lst ka_nil)))
  (ks_cons (ks_for c.hp c.calm (ki_range1 rfl z_range (ka_cons k_int ka_nil)) (q_one c.nd 11)
  (ks_cons (q_set c.nd 8 (k_cell (kn_bin n_rep (k_frz (kn_lst (ka_cons k_int ka_nil))) k_int)))
  (ks_cons (ks_for c.hp c.calm (ki_range1 rfl z_range (ka_cons (k_bin o_add k_int (q_call c g_law_take (by decide) rfl (ka_cons (q_var 0) (ka_cons k_int ka_nil)))) ka_nil)) (q_one c.nd 6)
  (ks_one (ks_itemAug (q_var 8) (q_idx (q_var 1) (q_call c g_law_take (by decide) rfl (ka_cons (q_var 0) (ka_cons (q_len z_len (ka_cons (q_var 1) ka_nil)) ka_nil)))) k_int)))
  (ks_one (ks_expr (k_methL PySem.F.slot_list_append PySem.F.type_list_append m_append (q_var 9) (ka_cons (q_var 8) ka_nil)))))))
  (ks_cons (ks_setLc (i := 7) c.calm c.nd rfl rfl (sw_true rfl rfl rfl (by decide +kernel)) (ki_zip rfl z_zip (ka_cons (q_idx (q_var 9) k_int) (ka_cons (q_idx (q_var 9) k_int) ka_nil))) (blkOk_by (own := [("one", 12), ("other", 13)]) (by rfl)) (by decide) (fun s4 H4 C4 l4 fp4 => (kg_tup (c.blk s4 H4 _ _ fp4).calm (q_gcons (c.blk s4 H4 _ _ fp4).nd 12 (q_gcons (c.blk s4 H4 _ _ fp4).nd 13 kgs_nil)))) (fun s4 H4 C4 l4 fp4 => kts_nil) (fun s4 H4 C4 l4 fp4 => (q_min (c.blk s4 H4 _ _ fp4) z_min (ka_cons (q_var 12) (ka_cons (q_var 13) ka_nil)))))
  (ks_cons (q_set c.nd 10 (q_call c g_law_product (by decide) rfl (ka_cons (k_frz (kn_comp c.calm c.nd (ki_zip rfl z_zip (ka_cons (q_idx (q_var 9) k_int) (ka_cons (q_var 7) ka_nil))) (blkOk_by (own := [("one", 12), ("other", 13)]) (by rfl)) (by decide) (fun s5 H5 C5 l5 fp5 => (kg_tup (c.blk s5 H5 _ _ fp5).calm (q_gcons (c.blk s5 H5 _ _ fp5).nd 12 (q_gcons (c.blk s5 H5 _ _ fp5).nd 13 kgs_nil)))) (fun s5 H5 C5 l5 fp5 => kts_nil) (fun s5 H5 C5 l5 fp5 => (k_bin o_sub (q_var 12) (q_var 13))))) ka_nil)))
  (ks_one (ks_expr (k_methL PySem.F.slot_list_append PySem.F.type_list_append m_append (q_var 4) (ka_cons (k_tup (ka_cons (q_var 10) (ka_cons (q_call c g_law_product (by decide) rfl (ka_cons (k_frz (kn_comp c.calm c.nd (ki_zip rfl z_zip (ka_cons (q_idx (q_var 9) k_int) (ka_cons (q_var 7) ka_nil))) (blkOk_by (own := [("one", 12), ("other", 13)]) (by rfl)) (by decide) (fun s6 H6 C6 l6 fp6 => (kg_tup (c.blk s6 H6 _ _ fp6).calm (q_gcons (c.blk s6 H6 _ _ fp6).nd 12 (q_gcons (c.blk s6 H6 _ _ fp6).nd 13 kgs_nil)))) (fun s6 H6 C6 l6 fp6 => kts_nil) (fun s6 H6 C6 l6 fp6 => (k_bin o_sub (q_var 12) (q_var 13))))) ka_nil)) ka_nil))) ka_nil)))))))))
  (ks_one (ks_ret (q_tuple z_tuple (ka_cons (q_var 4) ka_nil))))))))
theorem ok_law_exps {f : Addr} {fd : FuncData} (D : FunD K "_law_exps" "_law_exps" (defArgs s_law_exps) (defBody s_law_exps) (defScope s_law_exps) [] [] f fd) (m : mg "_law_exps" = some (.ref f)) (g_law_primes : Cal PP w K mg base cl "_law_primes" 1 [] F_law_primes 0) (z_tuple : mg "tuple" = none) : Cal PP w K mg base cl "_law_exps" 2 ["number"] F_law_exps 1 :=
  q_fn (k := 1) (sem := b_law_exps) D sc_law_exps rfl rfl m (FunD.bindsN (ps := ["number"]) D fun _ _ _ _ _ _ us hl => match us, hl with | [_], _ => rfl) fun cdv A outer s H E c =>
  (ks_cons (q_set c.nd 1 (k_cell (kn_lst ka_nil)))
  (ks_cons (ks_for c.hp c.calm (ki_seq (q_call0 c g_law_primes (by decide) rfl)) (q_one c.nd 3)
  (ks_cons (q_set c.nd 2 k_int)
  (ks_cons (ks_while c.hp (qt_eq c.hu (k_bin o_mod (q_var 0) (q_var 3)) k_int)
  (ks_cons (q_set c.nd 0 (k_bin o_fdiv (q_var 0) (q_var 3)))
  (ks_one (q_set c.nd 2 (k_bin o_add (q_var 2) k_int)))))
  (ks_one (ks_expr (k_methL PySem.F.slot_list_append PySem.F.type_list_append m_append (q_var 1) (ka_cons (q_var 2) ka_nil)))))))
  (ks_cons (ks_if (qt_gt (q_var 0) k_int)
  (ks_one (ks_ret k_non))
  ks_nil)
  (ks_one (ks_ret (q_tuple z_tuple (ka_cons (q_var 1) ka_nil)))))))
theorem ok_law_table {f : Addr} {fd : FuncData} (D : FunD K "_law_table" "_law_table" (defArgs s_law_table) (defBody s_law_table) (defScope s_law_table) [] [] f fd) (m : mg "_law_table" = some (.ref f)) (g_law_exps : Cal PP w K mg base cl "_law_exps" 2 ["number"] F_law_exps 1) (z_tuple : mg "tuple" = none) (z_zip : mg "zip" = none) : Cal PP w K mg base cl "_law_table" 3 ["program"] F_law_table 1 :=
  q_fn (k := 2) (sem := b_law_table) D sc_law_table rfl rfl m (FunD.bindsN (ps := ["program"]) D fun _ _ _ _ _ _ us hl => match us, hl with | [_], _ => rfl) fun cdv A outer s H E c =>
  (ks_cons (q_set c.nd 1 (k_cell (kn_lst ka_nil)))
  (ks_cons (ks_for c.hp c.calm (ki_seq (q_var 0)) (kg_tup c.calm (q_gcons c.nd 3 (q_gcons c.nd 2 kgs_nil)))
  (ks_cons (q_set c.nd 4 (q_call c g_law_exps (by decide) rfl (ka_cons (q_var 2) ka_nil)))
  (ks_one (ks_expr (k_methL PySem.F.slot_list_append PySem.F.type_list_append m_append (q_var 1) (ka_cons (k_tup (ka_cons (q_var 4) (ka_cons (q_tuple z_tuple (ka_cons (k_frz (kn_comp c.calm c.nd (ki_zip rfl z_zip (ka_cons (q_call c g_law_exps (by decide) rfl (ka_cons (q_var 3) ka_nil)) (ka_cons (q_var 4) ka_nil))) (blkOk_by (own := [("one", 5), ("other", 6)]) (by rfl)) (by decide) (fun s7 H7 C7 l7 fp7 => (kg_tup (c.blk s7 H7 _ _ fp7).calm (q_gcons (c.blk s7 H7 _ _ fp7).nd 5 (q_gcons (c.blk s7 H7 _ _ fp7).nd 6 kgs_nil)))) (fun s7 H7 C7 l7 fp7 => kts_nil) (fun s7 H7 C7 l7 fp7 => (k_bin o_sub (q_var 5) (q_var 6))))) ka_nil)) ka_nil))) ka_nil))))))
  (ks_one (ks_ret (q_var 1)))))
theorem ok_found_powers {f : Addr} {fd : FuncData} (D : FunD K "found_powers" "found_powers" (defArgs s_found_powers) (defBody s_found_powers) (defScope s_found_powers) [] [] f fd) (m : mg "found_powers" = some (.ref f)) (z_tuple : mg "tuple" = none) (h_PRIMES : Con K mg "PRIMES" t_PRIMES) : Cal PP w K mg base cl "found_powers" 1 ["number"] F_found_powers 1 :=
  q_fn (k := 0) (sem := b_found_powers) D sc_found_powers rfl rfl m (FunD.bindsN (ps := ["number"]) D fun _ _ _ _ _ _ us hl => match us, hl with | [_], _ => rfl) fun cdv A outer s H E c =>
  (ks_cons (q_set c.nd 1 (k_cell (kn_lst ka_nil)))
  (ks_cons (ks_for c.hp c.calm (ki_seq (q_con h_PRIMES)) (q_one c.nd 3)
  (ks_cons (q_set c.nd 2 k_int)
  (ks_cons (ks_while c.hp (qt_eq c.hu (k_bin o_mod (q_var 0) (q_var 3)) k_int)
  (ks_cons (q_set c.nd 0 (k_bin o_fdiv (q_var 0) (q_var 3)))
  (ks_one (q_set c.nd 2 (k_bin o_add (q_var 2) k_int)))))
  (ks_one (ks_expr (k_methL PySem.F.slot_list_append PySem.F.type_list_append m_append (q_var 1) (ka_cons (q_var 2) ka_nil)))))))
  (ks_cons (ks_if (qt_ne c.hu (q_var 0) k_int)
  (ks_one (ks_ret k_non))
  ks_nil)
  (ks_one (ks_ret (q_tuple z_tuple (ka_cons (q_var 1) ka_nil)))))))
theorem ok_is_whole {f : Addr} {fd : FuncData} (D : FunD K "is_whole" "is_whole" (defArgs s_is_whole) (defBody s_is_whole) (defScope s_is_whole) [] [] f fd) (m : mg "is_whole" = some (.ref f)) (z_bool : mg "bool" = none) (z_int : mg "int" = none) (z_isinstance : mg "isinstance" = none) : Cal PP w K mg base cl "is_whole" 1 ["thing"] F_is_whole 1 :=
  q_fn (k := 0) (sem := b_is_whole) D sc_is_whole rfl rfl m (FunD.bindsN (ps := ["thing"]) D fun _ _ _ _ _ _ us hl => match us, hl with | [_], _ => rfl) fun cdv A outer s H E c =>
  (ks_one (ks_ret (k_and (q_isi "int" (q_var 0) z_isinstance z_int) (k_one (k_not (q_isi "bool" (q_var 0) z_isinstance z_bool))))))
theorem ok_is_upto {f : Addr} {fd : FuncData} (D : FunD K "is_upto" "is_upto" (defArgs s_is_upto) (defBody s_is_upto) (defScope s_is_upto) [] [] f fd) (m : mg "is_upto" = some (.ref f)) (g_is_whole : Cal PP w K mg base cl "is_whole" 1 ["thing"] F_is_whole 1) : Cal PP w K mg base cl "is_upto" 2 ["thing", "least", "most"] F_is_upto 3 :=
  q_fn (k := 1) (sem := b_is_upto) D sc_is_upto rfl rfl m (FunD.bindsN (ps := ["thing", "least", "most"]) D fun _ _ _ _ _ _ us hl => match us, hl with | [_, _, _], _ => rfl) fun cdv A outer s H E c =>
  (ks_one (ks_ret (k_and (q_call c g_is_whole (by decide) rfl (ka_cons (q_var 0) ka_nil)) (k_one (k_chain o_le o_le (q_var 1) (q_var 0) (q_var 2))))))
theorem ok_is_fraction {f : Addr} {fd : FuncData} (D : FunD K "is_fraction" "is_fraction" (defArgs s_is_fraction) (defBody s_is_fraction) (defScope s_is_fraction) [] [] f fd) (m : mg "is_fraction" = some (.ref f)) (g_found_powers : Cal PP w K mg base cl "found_powers" 1 ["number"] F_found_powers 1) (g_is_upto : Cal PP w K mg base cl "is_upto" 2 ["thing", "least", "most"] F_is_upto 3) (z_all : mg "all" = none) (z_isinstance : mg "isinstance" = none) (z_len : mg "len" = none) (z_tuple : mg "tuple" = none) (z_zip : mg "zip" = none) (h_MOST : Con K mg "MOST" t_MOST) : Cal PP w K mg base cl "is_fraction" 3 ["thing"] F_is_fraction 1 :=
  q_fn (k := 2) (sem := b_is_fraction) D sc_is_fraction rfl rfl m (FunD.bindsN (ps := ["thing"]) D fun _ _ _ _ _ _ us hl => match us, hl with | [_], _ => rfl) fun cdv A outer s H E c =>
  (ks_cons (ks_if (kt_bool (kw_or (kt_not (kt_tru (q_isi "tuple" (q_var 0) z_isinstance z_tuple))) (kw_or1 (qt_ne c.hu (q_len z_len (ka_cons (q_var 0) ka_nil)) k_int))))
  (ks_one (ks_ret k_bl))
  ks_nil)
  (ks_cons (ks_if (kt_bool (kw_or (kt_not (kt_tru (q_call c g_is_upto (by decide) rfl (ka_cons (q_idx (q_var 0) k_int) (ka_cons k_int (ka_cons (q_con h_MOST) ka_nil)))))) (kw_or1 (kt_not (kt_tru (q_call c g_is_upto (by decide) rfl (ka_cons (q_idx (q_var 0) k_int) (ka_cons k_int (ka_cons (q_con h_MOST) ka_nil)))))))))
  (ks_one (ks_ret k_bl))
  ks_nil)
  (ks_cons (q_set c.nd 1 (q_call c g_found_powers (by decide) rfl (ka_cons (q_idx (q_var 0) k_int) ka_nil)))
  (ks_cons (q_set c.nd 2 (q_call c g_found_powers (by decide) rfl (ka_cons (q_idx (q_var 0) k_int) ka_nil)))
  (ks_cons (ks_if (kt_bool (kw_or (qt_is (q_var 1) k_non) (kw_or1 (qt_is (q_var 2) k_non))))
  (ks_one (ks_ret k_bl))
  ks_nil)
  (ks_one (ks_ret (q_all c z_all (ka_cons (k_frz (kn_comp c.calm c.nd (ki_zip rfl z_zip (ka_cons (q_var 1) (ka_cons (q_var 2) ka_nil))) (blkOk_by (own := [("one", 3), ("other", 4)]) (by rfl)) (by decide) (fun s8 H8 C8 l8 fp8 => (kg_tup (c.blk s8 H8 _ _ fp8).calm (q_gcons (c.blk s8 H8 _ _ fp8).nd 3 (q_gcons (c.blk s8 H8 _ _ fp8).nd 4 kgs_nil)))) (fun s8 H8 C8 l8 fp8 => kts_nil) (fun s8 H8 C8 l8 fp8 => (k_or (q_eq (c.blk s8 H8 _ _ fp8).hu (q_var 3) k_int) (k_one (q_eq (c.blk s8 H8 _ _ fp8).hu (q_var 4) k_int)))))) ka_nil)))))))))
theorem ok_is_program {f : Addr} {fd : FuncData} (D : FunD K "is_program" "is_program" (defArgs s_is_program) (defBody s_is_program) (defScope s_is_program) [] [] f fd) (m : mg "is_program" = some (.ref f)) (g_is_fraction : Cal PP w K mg base cl "is_fraction" 3 ["thing"] F_is_fraction 1) (z_all : mg "all" = none) (z_isinstance : mg "isinstance" = none) (z_len : mg "len" = none) (z_tuple : mg "tuple" = none) (h_MOST_FRACTIONS : Con K mg "MOST_FRACTIONS" t_MOST_FRACTIONS) : Cal PP w K mg base cl "is_program" 4 ["thing"] F_is_program 1 :=
  q_fn (k := 3) (sem := b_is_program) D sc_is_program rfl rfl m (FunD.bindsN (ps := ["thing"]) D fun _ _ _ _ _ _ us hl => match us, hl with | [_], _ => rfl) fun cdv A outer s H E c =>
  (ks_cons (ks_if (kt_bool (kw_or (kt_not (kt_tru (q_isi "tuple" (q_var 0) z_isinstance z_tuple))) (kw_or1 (kt_not (kt_chain o_le o_le k_int (q_len z_len (ka_cons (q_var 0) ka_nil)) (q_con h_MOST_FRACTIONS))))))
  (ks_one (ks_ret k_bl))
  ks_nil)
  (ks_one (ks_ret (q_all c z_all (ka_cons (k_frz (kn_comp c.calm c.nd (ki_seq (q_var 0)) (blkOk_by (own := [("one", 1)]) (by rfl)) (by decide) (fun s9 H9 C9 l9 fp9 => (q_one (c.blk s9 H9 _ _ fp9).nd 1)) (fun s9 H9 C9 l9 fp9 => kts_nil) (fun s9 H9 C9 l9 fp9 => (q_call (c.blk s9 H9 _ _ fp9) g_is_fraction (by decide) rfl (ka_cons (q_var 1) ka_nil))))) ka_nil)))))
theorem ok_Bench_init {f : Addr} {fd : FuncData} (D : FunD K "__init__" "Bench.__init__" (defArgs s_Bench_init) (defBody s_Bench_init) (defScope s_Bench_init) [] [] f fd) (m : Mk K (cl 2) f) (mm : mg "Bench" = some (.ref (cl 2))) (g_is_program : Cal PP w K mg base cl "is_program" 4 ["thing"] F_is_program 1) (e_NoProgram : ExcF K mg cl 16 "NoProgram") (c_Bench : Cls K (cl 2)) (n_Bench_own : NoAttr K (cl 2) "own") (n_Bench_kept : NoAttr K (cl 2) "kept") (n_Bench_earlier : NoAttr K (cl 2) "earlier") : CalI PP w K mg base cl 2 "Bench" 5 ["self", "program"] F_Bench_init_v2 2 :=
  q_fnI (k := 4) (sem := b_Bench_init_v2) D sc_Bench_init rfl rfl m mm (FunD.bindsN (ps := ["self", "program"]) D fun _ _ _ _ _ _ us hl => match us, hl with | [_, _], _ => rfl) fun cdv A outer s H E c =>
  (ks_cons (ks_if (kt_not (kt_tru (q_call c g_is_program (by decide) rfl (ka_cons (q_var 1) ka_nil))))
  (ks_one (ks_raise c e_NoProgram))
  ks_nil)
  (ks_cons (ks_fld 2 "own" c_Bench n_Bench_own (q_var 1) (q_var 0))
  (ks_cons (ks_fld 2 "kept" c_Bench n_Bench_kept k_empD (q_var 0))
  (ks_one (ks_fld 2 "earlier" c_Bench n_Bench_earlier (k_cell (kn_lst ka_nil)) (q_var 0))))))
theorem ok_law_line {f : Addr} {fd : FuncData} (D : FunD K "_law_line" "_law_line" (defArgs s_law_line) (defBody s_law_line) (defScope s_law_line) [] [] f fd) (m : mg "_law_line" = some (.ref f)) (g_law_take : Cal PP w K mg base cl "_law_take" 1 ["pot", "far"] F_law_take 2) (z_tuple : mg "tuple" = none) : Cal PP w K mg base cl "_law_line" 2 ["pot", "places", "most"] F_law_line 3 :=
  q_fn (k := 1) (sem := b_law_line) D sc_law_line rfl rfl m (FunD.bindsN (ps := ["pot", "places", "most"]) D fun _ _ _ _ _ _ us hl => match us, hl with | [_, _, _], _ => rfl) fun cdv A outer s H E c =>
  (ks_cons (q_set c.nd 3 (k_cell (kn_bin n_rep (k_frz (kn_lst (ka_cons k_int ka_nil))) k_int)))
  (ks_cons (ks_for c.hp c.calm (ki_seq (q_var 1)) (q_one c.nd 4)
  (ks_one (ks_item (q_call c g_law_take (by decide) rfl (ka_cons (q_var 0) (ka_cons (k_bin o_add (q_var 2) k_int) ka_nil))) (q_var 3) (q_var 4))))
  (ks_cons (ks_if (qt_eq c.hu (q_call c g_law_take (by decide) rfl (ka_cons (q_var 0) (ka_cons k_int ka_nil))) k_int)
  (ks_one (ks_item (q_call c g_law_take (by decide) rfl (ka_cons (q_var 0) (ka_cons (k_bin o_add (q_var 2) k_int) ka_nil))) (q_var 3) (q_call c g_law_take (by decide) rfl (ka_cons (q_var 0) (ka_cons k_int ka_nil)))))
  ks_nil)
  (ks_one (ks_ret (q_tuple z_tuple (ka_cons (q_var 3) ka_nil)))))))
theorem ok_law_bench_deed {f : Addr} {fd : FuncData} (D : FunD K "_law_bench_deed" "_law_bench_deed" (defArgs s_law_bench_deed) (defBody s_law_bench_deed) (defScope s_law_bench_deed) [] [] f fd) (m : mg "_law_bench_deed" = some (.ref f)) (g_law_take : Cal PP w K mg base cl "_law_take" 1 ["pot", "far"] F_law_take 2) (g_law_line : Cal PP w K mg base cl "_law_line" 2 ["pot", "places", "most"] F_law_line 3) (z_len : mg "len" = none) (z_list : mg "list" = none) (z_sorted : mg "sorted" = none) : Cal PP w K mg base cl "_law_bench_deed" 3 ["pot", "places", "rows"] F_law_bench_deed_v2 3 :=
  q_fn (k := 2) (sem := b_law_bench_deed_v2) D sc_law_bench_deed rfl rfl m (FunD.bindsN (ps := ["pot", "places", "rows"]) D fun _ _ _ _ _ _ us hl => match us, hl with | [_, _, _], _ => rfl) fun cdv A outer s H E c =>
  (ks_cons (q_set c.nd 3 (q_call c g_law_take (by decide) rfl (ka_cons (q_var 0) (ka_cons k_int ka_nil))))
  (ks_cons (q_set c.nd 4 (q_eq c.hu (q_call c g_law_take (by decide) rfl (ka_cons (q_var 0) (ka_cons k_int ka_nil))) k_int))
  (ks_cons (q_set c.nd 5 (q_idx (k_frz (kn_lst (ka_cons k_str (ka_cons k_str (ka_cons k_str (ka_cons k_str (ka_cons k_str ka_nil))))))) (q_call c g_law_take (by decide) rfl (ka_cons (q_var 0) (ka_cons k_int ka_nil)))))
  (ks_cons (ks_if (kt_bool (kw_and (qt_gt (q_lenS z_len (ka_cons (q_var 2) ka_nil)) k_int) (kw_and1 (qt_gt (q_call c g_law_take (by decide) rfl (ka_cons (q_var 0) (ka_cons k_int ka_nil))) k_int))))
  (ks_one (q_set c.nd 5 (q_idx (k_frz (qn_sortS c.calm z_sorted (ka_cons (q_var 2) ka_nil))) (q_call c g_law_take (by decide) rfl (ka_cons (q_var 0) (ka_cons (q_lenS z_len (ka_cons (q_var 2) ka_nil)) ka_nil))))))
  ks_nil)
  (ks_cons (ks_if (kt_bool (kw_and (kt_tru (q_var 4)) (kw_and1 (qt_eq c.hu (q_call c g_law_take (by decide) rfl (ka_cons (q_var 0) (ka_cons k_int ka_nil))) k_int))))
  (ks_cons (q_set c.nd 6 (k_frz (kn_lst (ka_cons k_str (ka_cons k_str (ka_cons k_str (ka_cons k_str (ka_cons k_str (ka_cons k_non (ka_cons k_int (ka_cons (k_tup (ka_cons k_str ka_nil)) (ka_cons (k_frz (kn_lst (ka_cons k_str ka_nil))) (ka_cons k_bl (ka_cons k_emp (ka_cons k_str ka_nil)))))))))))))))
  (ks_one (q_set c.nd 5 (q_idx (q_var 6) (q_call c g_law_take (by decide) rfl (ka_cons (q_var 0) (ka_cons k_int ka_nil)))))))
  ks_nil)
  (ks_cons (ks_if (qt_lt c.hu0 (q_var 3) k_int)
  (ks_cons (q_set c.nd 7 (q_call c g_law_line (by decide) rfl (ka_cons (q_var 0) (ka_cons (q_var 1) (ka_cons (q_idx (k_frz (kn_lst (ka_cons k_int (ka_cons k_int (ka_cons k_int (ka_cons (k_bin o_pow k_int k_int) ka_nil)))))) (q_call c g_law_take (by decide) rfl (ka_cons (q_var 0) (ka_cons k_int ka_nil)))) ka_nil)))))
  (ks_cons (ks_if (kt_bool (kw_and (kt_tru (q_var 4)) (kw_and1 (qt_eq c.hu (q_call c g_law_take (by decide) rfl (ka_cons (q_var 0) (ka_cons k_int ka_nil))) k_int))))
  (ks_cons (q_set c.nd 6 (k_frz (kn_lst (ka_cons (k_slice (q_var 7) ko_none (ko_some k_int)) (ka_cons (k_bin o_add (q_var 7) (k_tup (ka_cons k_int ka_nil))) (ka_cons (k_frz (qn_list z_list (ka_cons (q_var 7) ka_nil))) (ka_cons (k_bin o_add (k_slice (q_var 7) ko_none (ko_some k_int)) (k_tup (ka_cons (k_bin o_add (k_bin o_pow k_int k_int) k_int) ka_nil))) (ka_cons (k_bin o_add (k_slice (q_var 7) ko_none (ko_some k_int)) (k_tup (ka_cons (q_neg k_int) ka_nil))) (ka_cons k_non (ka_cons k_int (ka_cons k_emp ka_nil)))))))))))
  (ks_one (q_set c.nd 7 (q_idx (k_bin o_add (q_var 6) (k_frz (kn_lst (ka_cons (k_bin o_add (k_slice (q_var 7) ko_none (ko_some k_int)) (k_tup (ka_cons k_bl ka_nil))) (ka_cons (k_bin o_add (k_slice (q_var 7) ko_none (ko_some k_int)) (k_tup (ka_cons k_str ka_nil))) ka_nil))))) (q_call c g_law_take (by decide) rfl (ka_cons (q_var 0) (ka_cons k_int ka_nil)))))))
  ks_nil)
  (ks_one (ks_ret (k_tup (ka_cons k_str (ka_cons (q_var 5) (ka_cons (q_var 7) ka_nil))))))))
  ks_nil)
  (ks_cons (ks_if (qt_lt c.hu0 (q_var 3) k_int)
  (ks_one (ks_ret (k_tup (ka_cons k_str (ka_cons (q_var 5) (ka_cons (q_idx (k_frz (kn_lst (ka_cons k_int (ka_cons k_int (ka_cons (q_call c g_law_take (by decide) rfl (ka_cons (q_var 0) (ka_cons k_int ka_nil))) (ka_cons k_int ka_nil)))))) (q_call c g_law_take (by decide) rfl (ka_cons (q_var 0) (ka_cons k_int ka_nil)))) ka_nil))))))
  ks_nil)
  (ks_one (ks_ret (q_idx (k_frz (kn_lst (ka_cons (k_tup (ka_cons k_str (ka_cons (q_var 5) (ka_cons k_non ka_nil)))) (ka_cons (k_tup (ka_cons k_str (ka_cons k_non (ka_cons k_non ka_nil)))) (ka_cons (k_tup (ka_cons k_str (ka_cons k_non (ka_cons k_non ka_nil)))) ka_nil))))) (k_bin o_sub (q_var 3) k_int)))))))))))
theorem ok_law_first_of {f : Addr} {fd : FuncData} (D : FunD K "_law_first_of" "_law_first_of" (defArgs s_law_first_of) (defBody s_law_first_of) (defScope s_law_first_of) [] [] f fd) (m : mg "_law_first_of" = some (.ref f)) (z_enumerate : mg "enumerate" = none) (z_min : mg "min" = none) (z_zip : mg "zip" = none) : Cal PP w K mg base cl "_law_first_of" 1 ["table", "line"] F_law_first_of 2 :=
  q_fn (k := 0) (sem := b_law_first_of) D sc_law_first_of rfl rfl m (FunD.bindsN (ps := ["table", "line"]) D fun _ _ _ _ _ _ us hl => match us, hl with | [_, _], _ => rfl) fun cdv A outer s H E c =>
  (ks_cons (ks_for c.hp c.calm (ki_enum rfl z_enumerate (ka_cons (q_var 0) ka_nil)) (q_gnest c.calm c.nd 3 (q_gcons c.nd 4 (q_gcons c.nd 2 kgs_nil)))
  (ks_one (ks_if (qt_ge (q_min c z_min (ka_cons (k_frz (kn_comp c.calm c.nd (ki_zip rfl z_zip (ka_cons (q_var 1) (ka_cons (q_var 4) ka_nil))) (blkOk_by (own := [("one", 5), ("other", 6)]) (by rfl)) (by decide) (fun s10 H10 C10 l10 fp10 => (kg_tup (c.blk s10 H10 _ _ fp10).calm (q_gcons (c.blk s10 H10 _ _ fp10).nd 5 (q_gcons (c.blk s10 H10 _ _ fp10).nd 6 kgs_nil)))) (fun s10 H10 C10 l10 fp10 => kts_nil) (fun s10 H10 C10 l10 fp10 => (k_bin o_sub (q_var 5) (q_var 6))))) ka_nil)) k_int)
  (ks_one (ks_ret (q_var 3)))
  ks_nil)))
  (ks_one (ks_ret k_non)))
theorem ok_law_put {f : Addr} {fd : FuncData} (D : FunD K "_law_put" "_law_put" (defArgs s_law_put) (defBody s_law_put) (defScope s_law_put) [] [] f fd) (m : mg "_law_put" = some (.ref f)) (z_tuple : mg "tuple" = none) (z_zip : mg "zip" = none) : Cal PP w K mg base cl "_law_put" 1 ["table", "line", "number", "often"] F_law_put_v2 4 :=
  q_fn (k := 0) (sem := b_law_put_v2) D sc_law_put rfl rfl m (FunD.bindsN (ps := ["table", "line", "number", "often"]) D fun _ _ _ _ _ _ us hl => match us, hl with | [_, _, _, _], _ => rfl) fun cdv A outer s H E c =>
  (ks_one (ks_ret (q_tuple z_tuple (ka_cons (k_frz (kn_comp c.calm c.nd (ki_zip rfl z_zip (ka_cons (q_var 1) (ka_cons (q_idx (q_idx (q_var 0) (q_var 2)) k_int) ka_nil))) (blkOk_by (own := [("one", 4), ("other", 5)]) (by rfl)) (by decide) (fun s11 H11 C11 l11 fp11 => (kg_tup (c.blk s11 H11 _ _ fp11).calm (q_gcons (c.blk s11 H11 _ _ fp11).nd 4 (q_gcons (c.blk s11 H11 _ _ fp11).nd 5 kgs_nil)))) (fun s11 H11 C11 l11 fp11 => kts_nil) (fun s11 H11 C11 l11 fp11 => (k_bin o_add (q_var 4) (k_bin o_mul (q_var 3) (q_var 5)))))) ka_nil))))
theorem ok_law_gone_through {f : Addr} {fd : FuncData} (D : FunD K "_law_gone_through" "_law_gone_through" (defArgs s_law_gone_through) (defBody s_law_gone_through) (defScope s_law_gone_through) [] [] f fd) (m : mg "_law_gone_through" = some (.ref f)) (g_law_first_of : Cal PP w K mg base cl "_law_first_of" 1 ["table", "line"] F_law_first_of 2) (g_law_put : Cal PP w K mg base cl "_law_put" 1 ["table", "line", "number", "often"] F_law_put_v2 4) (z_len : mg "len" = none) : Cal PP w K mg base cl "_law_gone_through" 2 ["table", "line", "many"] F_law_gone_through 3 :=
  q_fn (k := 1) (sem := b_law_gone_through) D sc_law_gone_through rfl rfl m (FunD.bindsN (ps := ["table", "line", "many"]) D fun _ _ _ _ _ _ us hl => match us, hl with | [_, _, _], _ => rfl) fun cdv A outer s H E c =>
  (ks_cons (q_set c.nd 3 (k_cell (kn_lst (ka_cons (q_var 1) ka_nil))))
  (ks_cons (q_set c.nd 4 (k_cell (kn_lst ka_nil)))
  (ks_cons (q_set c.nd 5 (q_call c g_law_first_of (by decide) rfl (ka_cons (q_var 0) (ka_cons (q_var 1) ka_nil))))
  (ks_cons (ks_while c.hp (kt_bool (kw_and (qt_lt c.hu0 (q_len z_len (ka_cons (q_var 4) ka_nil)) (q_var 2)) (kw_and1 (qt_isnot (q_var 5) k_non))))
  (ks_cons (ks_expr (k_methL PySem.F.slot_list_append PySem.F.type_list_append m_append (q_var 4) (ka_cons (q_var 5) ka_nil)))
  (ks_cons (ks_expr (k_methL PySem.F.slot_list_append PySem.F.type_list_append m_append (q_var 3) (ka_cons (q_call c g_law_put (by decide) rfl (ka_cons (q_var 0) (ka_cons (q_idx (q_var 3) (q_neg k_int)) (ka_cons (q_var 5) (ka_cons k_int ka_nil))))) ka_nil)))
  (ks_one (q_set c.nd 5 (q_call c g_law_first_of (by decide) rfl (ka_cons (q_var 0) (ka_cons (q_idx (q_var 3) (q_neg k_int)) ka_nil))))))))
  (ks_one (ks_ret (k_frz (kn_lst (ka_cons (q_var 3) (ka_cons (q_var 4) ka_nil))))))))))
theorem ok_law_whole {f : Addr} {fd : FuncData} (D : FunD K "_law_whole" "_law_whole" (defArgs s_law_whole) (defBody s_law_whole) (defScope s_law_whole) [] [] f fd) (m : mg "_law_whole" = some (.ref f)) (z_bool : mg "bool" = none) (z_int : mg "int" = none) (z_isinstance : mg "isinstance" = none) : Cal PP w K mg base cl "_law_whole" 1 ["found"] F_law_whole 1 :=
  q_fn (k := 0) (sem := b_law_whole) D sc_law_whole rfl rfl m (FunD.bindsN (ps := ["found"]) D fun _ _ _ _ _ _ us hl => match us, hl with | [_], _ => rfl) fun cdv A outer s H E c =>
  (ks_one (ks_ret (k_and (q_isi "int" (q_var 0) z_isinstance z_int) (k_one (k_not (q_isi "bool" (q_var 0) z_isinstance z_bool))))))
theorem ok_law_line_right {f : Addr} {fd : FuncData} (D : FunD K "_law_line_right" "_law_line_right" (defArgs s_law_line_right) (defBody s_law_line_right) (defScope s_law_line_right) [] [] f fd) (m : mg "_law_line_right" = some (.ref f)) (g_law_whole : Cal PP w K mg base cl "_law_whole" 1 ["found"] F_law_whole 1) (z_all : mg "all" = none) (z_isinstance : mg "isinstance" = none) (z_len : mg "len" = none) (z_tuple : mg "tuple" = none) : Cal PP w K mg base cl "_law_line_right" 2 ["thing"] F_law_line_right 1 :=
  q_fn (k := 1) (sem := b_law_line_right) D sc_law_line_right rfl rfl m (FunD.bindsN (ps := ["thing"]) D fun _ _ _ _ _ _ us hl => match us, hl with | [_], _ => rfl) fun cdv A outer s H E c =>
  (ks_cons (ks_if (kt_bool (kw_or (kt_not (kt_tru (q_isi "tuple" (q_var 0) z_isinstance z_tuple))) (kw_or1 (qt_ne c.hu (q_len z_len (ka_cons (q_var 0) ka_nil)) k_int))))
  (ks_one (ks_ret k_bl))
  ks_nil)
  (ks_one (ks_ret (q_all c z_all (ka_cons (k_frz (kn_comp c.calm c.nd (ki_seq (q_var 0)) (blkOk_by (own := [("one", 1)]) (by rfl)) (by decide) (fun s12 H12 C12 l12 fp12 => (q_one (c.blk s12 H12 _ _ fp12).nd 1)) (fun s12 H12 C12 l12 fp12 => kts_nil) (fun s12 H12 C12 l12 fp12 => (k_and (q_call (c.blk s12 H12 _ _ fp12) g_law_whole (by decide) rfl (ka_cons (q_var 1) ka_nil)) (k_one (k_chain o_le o_le k_int (q_var 1) (k_bin o_pow k_int k_int))))))) ka_nil)))))
theorem ok_law_bench_due {f : Addr} {fd : FuncData} (D : FunD K "_law_bench_due" "_law_bench_due" (defArgs s_law_bench_due) (defBody s_law_bench_due) (defScope s_law_bench_due) [] [] f fd) (m : mg "_law_bench_due" = some (.ref f)) (g_law_gone_through : Cal PP w K mg base cl "_law_gone_through" 2 ["table", "line", "many"] F_law_gone_through 3) (g_law_line_right : Cal PP w K mg base cl "_law_line_right" 2 ["thing"] F_law_line_right 1) (z_all : mg "all" = none) (z_dict : mg "dict" = none) (z_isinstance : mg "isinstance" = none) (z_len : mg "len" = none) (z_str : mg "str" = none) : Cal PP w K mg base cl "_law_bench_due" 3 ["table", "rows", "deed"] F_law_bench_due 3 :=
  q_fn (k := 2) (sem := b_law_bench_due) D sc_law_bench_due rfl rfl m (FunD.bindsN (ps := ["table", "rows", "deed"]) D fun _ _ _ _ _ _ us hl => match us, hl with | [_, _, _], _ => rfl) fun cdv A outer s H E c =>
  (ks_cons (ks_asg (kg_tup c.calm (q_gcons c.nd 5 (q_gcons c.nd 3 (q_gcons c.nd 4 kgs_nil)))) (q_var 2))
  (ks_cons (q_set c.nd 6 (k_and (q_isi "str" (q_var 3) z_isinstance z_str) (k_one (k_chain o_le o_le k_int (q_len z_len (ka_cons (q_var 3) ka_nil)) k_int))))
  (ks_cons (ks_if (kt_tru (q_var 6))
  (ks_one (q_set c.nd 6 (q_all c z_all (ka_cons (k_frz (kn_comp c.calm c.nd (ki_seq (q_var 3)) (blkOk_by (own := [("sign", 12)]) (by rfl)) (by decide) (fun s13 H13 C13 l13 fp13 => (q_one (c.blk s13 H13 _ _ fp13).nd 12)) (fun s13 H13 C13 l13 fp13 => kts_nil) (fun s13 H13 C13 l13 fp13 => (k_chain o_leS o_leS k_str (q_var 12) k_str)))) ka_nil))))
  ks_nil)
  (ks_cons (ks_if (kt_bool (kw_or (kt_not (kt_tru (q_var 6))) (kw_or1 (kt_bool (kw_and (qt_ne c.hu (q_var 5) k_str) (kw_and1 (qt_notInS c.hu (q_var 3) (q_var 1))))))))
  (ks_one (ks_ret (k_frz (kn_lst (ka_cons k_str (ka_cons (q_var 1) ka_nil))))))
  ks_nil)
  (ks_cons (q_set c.nd 7 (k_copyD z_dict (ka_cons (q_var 1) ka_nil)))
  (ks_cons (ks_if (qt_eq c.hu (q_var 5) k_str)
  (ks_cons (ks_expr (k_popD (q_var 7) (q_var 3)))
  (ks_one (ks_ret (k_frz (kn_lst (ka_cons k_non (ka_cons (k_frzD (q_var 7)) ka_nil)))))))
  ks_nil)
  (ks_cons (ks_if (qt_eq c.hu (q_var 5) k_str)
  (ks_cons (ks_asg (kg_tup c.calm (q_gcons c.nd 8 (q_gcons c.nd 10 kgs_nil))) (k_getS c.hu (q_var 1) (q_var 3)))
  (ks_cons (ks_asg (kg_tup c.calm (q_gcons c.nd 9 (q_gcons c.nd 11 kgs_nil))) (q_call c g_law_gone_through (by decide) rfl (ka_cons (q_var 0) (ka_cons (q_var 8) (ka_cons (q_var 4) ka_nil)))))
  (ks_cons (ks_putD c.hu (k_tup (ka_cons (q_idx (q_var 9) (q_neg k_int)) (ka_cons (k_bin o_add (q_var 10) (q_len z_len (ka_cons (q_var 11) ka_nil))) ka_nil))) (q_var 7) (q_var 3))
  (ks_one (ks_ret (k_frz (kn_lst (ka_cons (q_len z_len (ka_cons (q_var 11) ka_nil)) (ka_cons (k_frzD (q_var 7)) ka_nil)))))))))
  ks_nil)
  (ks_cons (ks_if (kt_not (kt_tru (q_call c g_law_line_right (by decide) rfl (ka_cons (q_var 4) ka_nil))))
  (ks_one (ks_ret (k_frz (kn_lst (ka_cons k_str (ka_cons (q_var 1) ka_nil))))))
  ks_nil)
  (ks_cons (ks_if (kt_bool (kw_and (qt_notInS c.hu (q_var 3) (q_var 1)) (kw_and1 (qt_eq c.hu (q_lenS z_len (ka_cons (q_var 1) ka_nil)) k_int))))
  (ks_one (ks_ret (k_frz (kn_lst (ka_cons k_str (ka_cons (q_var 1) ka_nil))))))
  ks_nil)
  (ks_cons (ks_putD c.hu (k_tup (ka_cons (q_var 4) (ka_cons k_int ka_nil))) (q_var 7) (q_var 3))
  (ks_one (ks_ret (k_frz (kn_lst (ka_cons k_non (ka_cons (k_frzD (q_var 7)) ka_nil))))))))))))))))
theorem ok_law_same {f : Addr} {fd : FuncData} (D : FunD K "_law_same" "_law_same" (defArgs s_law_same) (defBody s_law_same) (defScope s_law_same) [] [] f fd) (m : mg "_law_same" = some (.ref f)) (g_law_whole : Cal PP w K mg base cl "_law_whole" 1 ["found"] F_law_whole 1) (z_all : mg "all" = none) (z_bool : mg "bool" = none) (z_int : mg "int" = none) (z_isinstance : mg "isinstance" = none) (z_len : mg "len" = none) (z_list : mg "list" = none) (z_str : mg "str" = none) (z_tuple : mg "tuple" = none) (z_zip : mg "zip" = none) : ∀ n, Cal PP w K mg base cl "_law_same" (1 + n) ["found", "due"] (F_law_same n) 2
  | 0 => q_bad D m (FunD.bindsN (ps := ["found", "due"]) D fun _ _ _ _ _ _ us hl => match us, hl with | [_, _], _ => rfl) rfl
  | n + 1 => by
    have g_rec := ok_law_same D m g_law_whole z_all z_bool z_int z_isinstance z_len z_list z_str z_tuple z_zip n
    exact q_fn (k := 1 + n) (sem := b_law_same (F_law_same n)) D sc_law_same rfl rfl m (FunD.bindsN (ps := ["found", "due"]) D fun _ _ _ _ _ _ us hl => match us, hl with | [_, _], _ => rfl) fun cdv A outer s H E c =>
  (ks_cons (ks_if (qt_is (q_var 1) k_non)
  (ks_one (ks_ret (q_is (q_var 0) k_non)))
  ks_nil)
  (ks_cons (ks_if (kt_tru (q_isi "bool" (q_var 1) z_isinstance z_bool))
  (ks_one (ks_ret (k_and (q_isi "bool" (q_var 0) z_isinstance z_bool) (k_one (q_eq c.hu (q_var 0) (q_var 1))))))
  ks_nil)
  (ks_cons (ks_if (kt_tru (q_isi "int" (q_var 1) z_isinstance z_int))
  (ks_one (ks_ret (k_and (q_call c g_law_whole (by omega) rfl (ka_cons (q_var 0) ka_nil)) (k_one (q_eq c.hu (q_var 0) (q_var 1))))))
  ks_nil)
  (ks_cons (ks_if (kt_tru (q_isi "str" (q_var 1) z_isinstance z_str))
  (ks_one (ks_ret (k_and (q_isi "str" (q_var 0) z_isinstance z_str) (k_one (q_eq c.hu (q_var 0) (q_var 1))))))
  ks_nil)
  (ks_cons (ks_if (kt_bool (kw_or (qt_ne c.hu (q_isi "tuple" (q_var 1) z_isinstance z_tuple) (q_isi "tuple" (q_var 0) z_isinstance z_tuple)) (kw_or1 (qt_ne c.hu (q_isi "list" (q_var 1) z_isinstance z_list) (q_isi "list" (q_var 0) z_isinstance z_list)))))
  (ks_one (ks_ret k_bl))
  ks_nil)
  (ks_one (ks_ret (k_and (q_eq c.hu (q_len z_len (ka_cons (q_var 0) ka_nil)) (q_len z_len (ka_cons (q_var 1) ka_nil))) (k_one (q_all c z_all (ka_cons (k_frz (kn_comp c.calm c.nd (ki_zip rfl z_zip (ka_cons (q_var 0) (ka_cons (q_var 1) ka_nil))) (blkOk_by (own := [("one", 2), ("other", 3)]) (by rfl)) (by decide) (fun s14 H14 C14 l14 fp14 => (kg_tup (c.blk s14 H14 _ _ fp14).calm (q_gcons (c.blk s14 H14 _ _ fp14).nd 2 (q_gcons (c.blk s14 H14 _ _ fp14).nd 3 kgs_nil)))) (fun s14 H14 C14 l14 fp14 => kts_nil) (fun s14 H14 C14 l14 fp14 => (q_call (c.blk s14 H14 _ _ fp14) g_rec (by omega) rfl (ka_cons (q_var 2) (ka_cons (q_var 3) ka_nil)))))) ka_nil)))))))))))
theorem ok_Bench_undo {f : Addr} {fd : FuncData} (D : FunD K "undo" "Bench.undo" (defArgs s_Bench_undo) (defBody s_Bench_undo) (defScope s_Bench_undo) [] [] f fd) (m : Meth K (cl 2) "undo" f) (mm : Cls K (cl 2)) (e_NoDeed : ExcF K mg cl 21 "NoDeed") (c_Bench : Cls K (cl 2)) (n_Bench_earlier : NoAttr K (cl 2) "earlier") (n_Bench_kept : NoAttr K (cl 2) "kept") : CalM PP w K mg base cl 2 "undo" 1 ["self"] F_Bench_undo_v2 1 :=
  q_fnM (k := 0) (sem := b_Bench_undo_v2) D sc_Bench_undo rfl rfl m mm (FunD.bindsN (ps := ["self"]) D fun _ _ _ _ _ _ us hl => match us, hl with | [_], _ => rfl) fun cdv A outer s H E c =>
  (ks_cons (ks_if (qt_eqN c.hu (k_fld 2 "earlier" c_Bench n_Bench_earlier (q_var 0)) (k_frz (kn_lst ka_nil)))
  (ks_one (ks_raise c e_NoDeed))
  ks_nil)
  (ks_one (ks_fld 2 "kept" c_Bench n_Bench_kept (k_methL0 PySem.F.slot_list_pop PySem.F.type_list_pop m_pop (k_fld 2 "earlier" c_Bench n_Bench_earlier (q_var 0))) (q_var 0))))
theorem ok_Bench_turn_to {f : Addr} {fd : FuncData} (D : FunD K "turn_to" "Bench.turn_to" (defArgs s_Bench_turn_to) (defBody s_Bench_turn_to) (defScope s_Bench_turn_to) [] [] f fd) (m : Meth K (cl 2) "turn_to" f) (mm : Cls K (cl 2)) (c_Bench : Cls K (cl 2)) (n_Bench_earlier : NoAttr K (cl 2) "earlier") (n_Bench_kept : NoAttr K (cl 2) "kept") : CalM PP w K mg base cl 2 "turn_to" 1 ["self", "later"] F_Bench_turn_to 2 :=
  q_fnM (k := 0) (sem := b_Bench_turn_to) D sc_Bench_turn_to rfl rfl m mm (FunD.bindsN (ps := ["self", "later"]) D fun _ _ _ _ _ _ us hl => match us, hl with | [_, _], _ => rfl) fun cdv A outer s H E c =>
  (ks_cons (ks_expr (k_methL PySem.F.slot_list_append PySem.F.type_list_append m_append (k_fld 2 "earlier" c_Bench n_Bench_earlier (q_var 0)) (ka_cons (k_fld 2 "kept" c_Bench n_Bench_kept (q_var 0)) ka_nil)))
  (ks_one (ks_fld 2 "kept" c_Bench n_Bench_kept (q_var 1) (q_var 0))))
theorem ok_is_name {f : Addr} {fd : FuncData} (D : FunD K "is_name" "is_name" (defArgs s_is_name) (defBody s_is_name) (defScope s_is_name) [] [] f fd) (m : mg "is_name" = some (.ref f)) (z_all : mg "all" = none) (z_isinstance : mg "isinstance" = none) (z_len : mg "len" = none) (z_str : mg "str" = none) (h_LONGEST_NAME : Con K mg "LONGEST_NAME" t_LONGEST_NAME) (h_NAME_LETTERS : Con K mg "NAME_LETTERS" t_NAME_LETTERS) : Cal PP w K mg base cl "is_name" 1 ["thing"] F_is_name 1 :=
  q_fn (k := 0) (sem := b_is_name) D sc_is_name rfl rfl m (FunD.bindsN (ps := ["thing"]) D fun _ _ _ _ _ _ us hl => match us, hl with | [_], _ => rfl) fun cdv A outer s H E c =>
  (ks_cons (ks_if (kt_bool (kw_or (kt_not (kt_tru (q_isi "str" (q_var 0) z_isinstance z_str))) (kw_or1 (kt_not (kt_chain o_le o_le k_int (q_len z_len (ka_cons (q_var 0) ka_nil)) (q_con h_LONGEST_NAME))))))
  (ks_one (ks_ret k_bl))
  ks_nil)
  (ks_one (ks_ret (q_all c z_all (ka_cons (k_frz (kn_comp c.calm c.nd (ki_seq (q_var 0)) (blkOk_by (own := [("sign", 1)]) (by rfl)) (by decide) (fun s15 H15 C15 l15 fp15 => (q_one (c.blk s15 H15 _ _ fp15).nd 1)) (fun s15 H15 C15 l15 fp15 => kts_nil) (fun s15 H15 C15 l15 fp15 => (q_in (c.blk s15 H15 _ _ fp15).hu5 (q_var 1) (q_con h_NAME_LETTERS))))) ka_nil)))))
theorem ok_is_powers {f : Addr} {fd : FuncData} (D : FunD K "is_powers" "is_powers" (defArgs s_is_powers) (defBody s_is_powers) (defScope s_is_powers) [] [] f fd) (m : mg "is_powers" = some (.ref f)) (g_is_whole : Cal PP w K mg base cl "is_whole" 1 ["thing"] F_is_whole 1) (z_all : mg "all" = none) (z_isinstance : mg "isinstance" = none) (z_len : mg "len" = none) (z_tuple : mg "tuple" = none) (h_PRIMES : Con K mg "PRIMES" t_PRIMES) : Cal PP w K mg base cl "is_powers" 2 ["thing"] F_is_powers 1 :=
  q_fn (k := 1) (sem := b_is_powers) D sc_is_powers rfl rfl m (FunD.bindsN (ps := ["thing"]) D fun _ _ _ _ _ _ us hl => match us, hl with | [_], _ => rfl) fun cdv A outer s H E c =>
  (ks_cons (ks_if (kt_bool (kw_or (kt_not (kt_tru (q_isi "tuple" (q_var 0) z_isinstance z_tuple))) (kw_or1 (qt_ne c.hu (q_len z_len (ka_cons (q_var 0) ka_nil)) (q_len z_len (ka_cons (q_con h_PRIMES) ka_nil))))))
  (ks_one (ks_ret k_bl))
  ks_nil)
  (ks_one (ks_ret (q_all c z_all (ka_cons (k_frz (kn_comp c.calm c.nd (ki_seq (q_var 0)) (blkOk_by (own := [("one", 1)]) (by rfl)) (by decide) (fun s16 H16 C16 l16 fp16 => (q_one (c.blk s16 H16 _ _ fp16).nd 1)) (fun s16 H16 C16 l16 fp16 => kts_nil) (fun s16 H16 C16 l16 fp16 => (k_and (q_call (c.blk s16 H16 _ _ fp16) g_is_whole (by decide) rfl (ka_cons (q_var 1) ka_nil)) (k_one (q_ge (q_var 1) k_int)))))) ka_nil)))))
theorem ok_Bench_put {f : Addr} {fd : FuncData} (D : FunD K "put" "Bench.put" (defArgs s_Bench_put) (defBody s_Bench_put) (defScope s_Bench_put) [] [] f fd) (m : Meth K (cl 2) "put" f) (mm : Cls K (cl 2)) (g_Bench_turn_to : CalM PP w K mg base cl 2 "turn_to" 1 ["self", "later"] F_Bench_turn_to 2) (g_is_name : Cal PP w K mg base cl "is_name" 1 ["thing"] F_is_name 1) (g_is_powers : Cal PP w K mg base cl "is_powers" 2 ["thing"] F_is_powers 1) (e_NoName : ExcF K mg cl 20 "NoName") (e_NoPowers : ExcF K mg cl 18 "NoPowers") (e_TooMany : ExcF K mg cl 12 "TooMany") (c_Bench : Cls K (cl 2)) (n_Bench_kept : NoAttr K (cl 2) "kept") (z_dict : mg "dict" = none) (z_len : mg "len" = none) (z_max : mg "max" = none) (h_GREATEST : Con K mg "GREATEST" t_GREATEST) (h_MOST_NAMES : Con K mg "MOST_NAMES" t_MOST_NAMES) : CalM PP w K mg base cl 2 "put" 3 ["self", "name", "powers"] F_Bench_put 3 :=
  q_fnM (k := 2) (sem := b_Bench_put) D sc_Bench_put rfl rfl m mm (FunD.bindsN (ps := ["self", "name", "powers"]) D fun _ _ _ _ _ _ us hl => match us, hl with | [_, _, _], _ => rfl) fun cdv A outer s H E c =>
  (ks_cons (ks_if (kt_not (kt_tru (q_call c g_is_name (by decide) rfl (ka_cons (q_var 1) ka_nil))))
  (ks_one (ks_raise c e_NoName))
  ks_nil)
  (ks_cons (ks_if (kt_bool (kw_or (kt_not (kt_tru (q_call c g_is_powers (by decide) rfl (ka_cons (q_var 2) ka_nil)))) (kw_or1 (qt_gt (q_maxA c z_max (ka_cons (q_var 2) ka_nil)) (q_con h_GREATEST)))))
  (ks_one (ks_raise c e_NoPowers))
  ks_nil)
  (ks_cons (ks_if (kt_bool (kw_and (qt_notInS c.hu (q_var 1) (k_fld 2 "kept" c_Bench n_Bench_kept (q_var 0))) (kw_and1 (qt_eq c.hu (q_lenS z_len (ka_cons (k_fld 2 "kept" c_Bench n_Bench_kept (q_var 0)) ka_nil)) (q_con h_MOST_NAMES)))))
  (ks_one (ks_raise c e_TooMany))
  ks_nil)
  (ks_cons (q_set c.nd 3 (k_copyD z_dict (ka_cons (k_fld 2 "kept" c_Bench n_Bench_kept (q_var 0)) ka_nil)))
  (ks_cons (ks_putD c.hu (k_tup (ka_cons (q_var 2) (ka_cons k_int ka_nil))) (q_var 3) (q_var 1))
  (ks_one (ks_expr (k_methS c g_Bench_turn_to (by decide) (q_var 0) (ka_cons (k_frzD (q_var 3)) ka_nil)))))))))
theorem ok_Bench_look_for {f : Addr} {fd : FuncData} (D : FunD K "look_for" "Bench.look_for" (defArgs s_Bench_look_for) (defBody s_Bench_look_for) (defScope s_Bench_look_for) [] [] f fd) (m : Meth K (cl 2) "look_for" f) (mm : Cls K (cl 2)) (g_is_name : Cal PP w K mg base cl "is_name" 1 ["thing"] F_is_name 1) (e_NoName : ExcF K mg cl 20 "NoName") (c_Bench : Cls K (cl 2)) (n_Bench_kept : NoAttr K (cl 2) "kept") : CalM PP w K mg base cl 2 "look_for" 2 ["self", "name"] F_Bench_look_for 2 :=
  q_fnM (k := 1) (sem := b_Bench_look_for) D sc_Bench_look_for rfl rfl m mm (FunD.bindsN (ps := ["self", "name"]) D fun _ _ _ _ _ _ us hl => match us, hl with | [_, _], _ => rfl) fun cdv A outer s H E c =>
  (ks_one (ks_if (kt_bool (kw_or (kt_not (kt_tru (q_call c g_is_name (by decide) rfl (ka_cons (q_var 1) ka_nil)))) (kw_or1 (qt_notInS c.hu (q_var 1) (k_fld 2 "kept" c_Bench n_Bench_kept (q_var 0))))))
  (ks_one (ks_raise c e_NoName))
  ks_nil))
theorem ok_bottoms_of {f : Addr} {fd : FuncData} (D : FunD K "bottoms_of" "bottoms_of" (defArgs s_bottoms_of) (defBody s_bottoms_of) (defScope s_bottoms_of) [] [] f fd) (m : mg "bottoms_of" = some (.ref f)) (g_found_powers : Cal PP w K mg base cl "found_powers" 1 ["number"] F_found_powers 1) : Cal PP w K mg base cl "bottoms_of" 2 ["program"] F_bottoms_of 1 :=
  q_fn (k := 1) (sem := b_bottoms_of) D sc_bottoms_of rfl rfl m (FunD.bindsN (ps := ["program"]) D fun _ _ _ _ _ _ us hl => match us, hl with | [_], _ => rfl) fun cdv A outer s H E c =>
  (ks_one (ks_ret (k_frz (kn_comp c.calm c.nd (ki_seq (q_var 0)) (blkOk_by (own := [("top", 1), ("bottom", 2)]) (by rfl)) (by decide) (fun s17 H17 C17 l17 fp17 => (kg_tup (c.blk s17 H17 _ _ fp17).calm (q_gcons (c.blk s17 H17 _ _ fp17).nd 1 (q_gcons (c.blk s17 H17 _ _ fp17).nd 2 kgs_nil)))) (fun s17 H17 C17 l17 fp17 => kts_nil) (fun s17 H17 C17 l17 fp17 => (q_call (c.blk s17 H17 _ _ fp17) g_found_powers (by decide) rfl (ka_cons (q_var 2) ka_nil)))))))
theorem ok_tops_of {f : Addr} {fd : FuncData} (D : FunD K "tops_of" "tops_of" (defArgs s_tops_of) (defBody s_tops_of) (defScope s_tops_of) [] [] f fd) (m : mg "tops_of" = some (.ref f)) (g_found_powers : Cal PP w K mg base cl "found_powers" 1 ["number"] F_found_powers 1) : Cal PP w K mg base cl "tops_of" 2 ["program"] F_tops_of 1 :=
  q_fn (k := 1) (sem := b_tops_of) D sc_tops_of rfl rfl m (FunD.bindsN (ps := ["program"]) D fun _ _ _ _ _ _ us hl => match us, hl with | [_], _ => rfl) fun cdv A outer s H E c =>
  (ks_one (ks_ret (k_frz (kn_comp c.calm c.nd (ki_seq (q_var 0)) (blkOk_by (own := [("top", 1), ("bottom", 2)]) (by rfl)) (by decide) (fun s18 H18 C18 l18 fp18 => (kg_tup (c.blk s18 H18 _ _ fp18).calm (q_gcons (c.blk s18 H18 _ _ fp18).nd 1 (q_gcons (c.blk s18 H18 _ _ fp18).nd 2 kgs_nil)))) (fun s18 H18 C18 l18 fp18 => kts_nil) (fun s18 H18 C18 l18 fp18 => (q_call (c.blk s18 H18 _ _ fp18) g_found_powers (by decide) rfl (ka_cons (q_var 1) ka_nil)))))))
theorem ok_changes_of {f : Addr} {fd : FuncData} (D : FunD K "changes_of" "changes_of" (defArgs s_changes_of) (defBody s_changes_of) (defScope s_changes_of) [] [] f fd) (m : mg "changes_of" = some (.ref f)) (g_tops_of : Cal PP w K mg base cl "tops_of" 2 ["program"] F_tops_of 1) (g_bottoms_of : Cal PP w K mg base cl "bottoms_of" 2 ["program"] F_bottoms_of 1) (z_tuple : mg "tuple" = none) (z_zip : mg "zip" = none) : Cal PP w K mg base cl "changes_of" 3 ["program"] F_changes_of 1 :=
  q_fn (k := 2) (sem := b_changes_of) D sc_changes_of rfl rfl m (FunD.bindsN (ps := ["program"]) D fun _ _ _ _ _ _ us hl => match us, hl with | [_], _ => rfl) fun cdv A outer s H E c =>
  (ks_cons (q_set c.nd 1 (k_cell (kn_lst ka_nil)))
  (ks_cons (ks_for c.hp c.calm (ki_zip rfl z_zip (ka_cons (q_call c g_tops_of (by decide) rfl (ka_cons (q_var 0) ka_nil)) (ka_cons (q_call c g_bottoms_of (by decide) rfl (ka_cons (q_var 0) ka_nil)) ka_nil))) (kg_tup c.calm (q_gcons c.nd 3 (q_gcons c.nd 2 kgs_nil)))
  (ks_one (ks_expr (k_methL PySem.F.slot_list_append PySem.F.type_list_append m_append (q_var 1) (ka_cons (q_tuple z_tuple (ka_cons (k_frz (kn_comp c.calm c.nd (ki_zip rfl z_zip (ka_cons (q_var 3) (ka_cons (q_var 2) ka_nil))) (blkOk_by (own := [("one", 4), ("other", 5)]) (by rfl)) (by decide) (fun s19 H19 C19 l19 fp19 => (kg_tup (c.blk s19 H19 _ _ fp19).calm (q_gcons (c.blk s19 H19 _ _ fp19).nd 4 (q_gcons (c.blk s19 H19 _ _ fp19).nd 5 kgs_nil)))) (fun s19 H19 C19 l19 fp19 => kts_nil) (fun s19 H19 C19 l19 fp19 => (k_bin o_sub (q_var 4) (q_var 5))))) ka_nil)) ka_nil)))))
  (ks_one (ks_ret (q_var 1)))))
theorem ok_Ways_init {f : Addr} {fd : FuncData} (D : FunD K "__init__" "Ways.__init__" (defArgs s_Ways_init) (defBody s_Ways_init) (defScope s_Ways_init) [] [] f fd) (m : Mk K (cl 0) f) (mm : mg "Ways" = some (.ref (cl 0))) (g_bottoms_of : Cal PP w K mg base cl "bottoms_of" 2 ["program"] F_bottoms_of 1) (g_changes_of : Cal PP w K mg base cl "changes_of" 3 ["program"] F_changes_of 1) (c_Ways : Cls K (cl 0)) (n_Ways_wants : NoAttr K (cl 0) "wants") (n_Ways_adds : NoAttr K (cl 0) "adds") : CalI PP w K mg base cl 0 "Ways" 4 ["self", "program"] F_Ways_init 2 :=
  q_fnI (k := 3) (sem := b_Ways_init) D sc_Ways_init rfl rfl m mm (FunD.bindsN (ps := ["self", "program"]) D fun _ _ _ _ _ _ us hl => match us, hl with | [_, _], _ => rfl) fun cdv A outer s H E c =>
  (ks_cons (ks_fld 0 "wants" c_Ways n_Ways_wants (q_call c g_bottoms_of (by decide) rfl (ka_cons (q_var 1) ka_nil)) (q_var 0))
  (ks_one (ks_fld 0 "adds" c_Ways n_Ways_adds (q_call c g_changes_of (by decide) rfl (ka_cons (q_var 1) ka_nil)) (q_var 0))))
theorem ok_Ways_first {f : Addr} {fd : FuncData} (D : FunD K "first" "Ways.first" (defArgs s_Ways_first) (defBody s_Ways_first) (defScope s_Ways_first) [] [] f fd) (m : Meth K (cl 0) "first" f) (mm : Cls K (cl 0)) (c_Ways : Cls K (cl 0)) (n_Ways_wants : NoAttr K (cl 0) "wants") (z_all : mg "all" = none) (z_enumerate : mg "enumerate" = none) (z_zip : mg "zip" = none) : CalM PP w K mg base cl 0 "first" 1 ["self", "powers"] F_Ways_first 2 :=
  q_fnM (k := 0) (sem := b_Ways_first) D sc_Ways_first rfl rfl m mm (FunD.bindsN (ps := ["self", "powers"]) D fun _ _ _ _ _ _ us hl => match us, hl with | [_, _], _ => rfl) fun cdv A outer s H E c =>
  (ks_cons (ks_for c.hp c.calm (ki_enum rfl z_enumerate (ka_cons (k_fld 0 "wants" c_Ways n_Ways_wants (q_var 0)) ka_nil)) (kg_tup c.calm (q_gcons c.nd 2 (q_gcons c.nd 3 kgs_nil)))
  (ks_one (ks_if (kt_tru (q_all c z_all (ka_cons (k_frz (kn_comp c.calm c.nd (ki_zip rfl z_zip (ka_cons (q_var 1) (ka_cons (q_var 3) ka_nil))) (blkOk_by (own := [("one", 4), ("other", 5)]) (by rfl)) (by decide) (fun s20 H20 C20 l20 fp20 => (kg_tup (c.blk s20 H20 _ _ fp20).calm (q_gcons (c.blk s20 H20 _ _ fp20).nd 4 (q_gcons (c.blk s20 H20 _ _ fp20).nd 5 kgs_nil)))) (fun s20 H20 C20 l20 fp20 => kts_nil) (fun s20 H20 C20 l20 fp20 => (q_ge (q_var 4) (q_var 5))))) ka_nil)))
  (ks_one (ks_ret (q_var 2)))
  ks_nil)))
  (ks_one (ks_ret k_non)))
theorem ok_Ways_last_fit {f : Addr} {fd : FuncData} (D : FunD K "last_fit" "Ways.last_fit" (defArgs s_Ways_last_fit) (defBody s_Ways_last_fit) (defScope s_Ways_last_fit) [] [] f fd) (m : Meth K (cl 0) "last_fit" f) (mm : Cls K (cl 0)) (c_Ways : Cls K (cl 0)) (n_Ways_adds : NoAttr K (cl 0) "adds") (n_Ways_wants : NoAttr K (cl 0) "wants") (z_zip : mg "zip" = none) : CalM PP w K mg base cl 0 "last_fit" 1 ["self", "powers", "number"] F_Ways_last_fit 3 :=
  q_fnM (k := 0) (sem := b_Ways_last_fit) D sc_Ways_last_fit rfl rfl m mm (FunD.bindsN (ps := ["self", "powers", "number"]) D fun _ _ _ _ _ _ us hl => match us, hl with | [_, _, _], _ => rfl) fun cdv A outer s H E c =>
  (ks_cons (q_set c.nd 3 k_non)
  (ks_cons (ks_for c.hp c.calm (ki_zip3 rfl z_zip (ka_cons (q_var 1) (ka_cons (q_idx (k_fld 0 "wants" c_Ways n_Ways_wants (q_var 0)) (q_var 2)) (ka_cons (q_idx (k_fld 0 "adds" c_Ways n_Ways_adds (q_var 0)) (q_var 2)) ka_nil)))) (kg_tup c.calm (q_gcons c.nd 6 (q_gcons c.nd 7 (q_gcons c.nd 4 kgs_nil))))
  (ks_one (ks_if (qt_lt c.hu0 (q_var 4) k_int)
  (ks_cons (q_set c.nd 5 (k_bin o_add (k_bin o_fdiv (k_bin o_sub (q_var 6) (q_var 7)) (k_bin o_sub k_int (q_var 4))) k_int))
  (ks_one (ks_if (kt_bool (kw_or (qt_is (q_var 3) k_non) (kw_or1 (qt_lt c.hu0 (q_var 5) (q_var 3)))))
  (ks_one (q_set c.nd 3 (q_var 5)))
  ks_nil)))
  ks_nil)))
  (ks_one (ks_ret (q_var 3)))))
theorem ok_Ways_comes_in {f : Addr} {fd : FuncData} (D : FunD K "comes_in" "Ways.comes_in" (defArgs s_Ways_comes_in) (defBody s_Ways_comes_in) (defScope s_Ways_comes_in) [] [] f fd) (m : Meth K (cl 0) "comes_in" f) (mm : Cls K (cl 0)) (c_Ways : Cls K (cl 0)) (n_Ways_adds : NoAttr K (cl 0) "adds") (n_Ways_wants : NoAttr K (cl 0) "wants") (z_max : mg "max" = none) (z_zip : mg "zip" = none) : CalM PP w K mg base cl 0 "comes_in" 1 ["self", "powers", "number", "other"] F_Ways_comes_in 4 :=
  q_fnM (k := 0) (sem := b_Ways_comes_in) D sc_Ways_comes_in rfl rfl m mm (FunD.bindsN (ps := ["self", "powers", "number", "other"]) D fun _ _ _ _ _ _ us hl => match us, hl with | [_, _, _, _], _ => rfl) fun cdv A outer s H E c =>
  (ks_cons (q_set c.nd 4 k_int)
  (ks_cons (q_set c.nd 5 k_non)
  (ks_cons (ks_for c.hp c.calm (ki_zip3 rfl z_zip (ka_cons (q_var 1) (ka_cons (q_idx (k_fld 0 "wants" c_Ways n_Ways_wants (q_var 0)) (q_var 3)) (ka_cons (q_idx (k_fld 0 "adds" c_Ways n_Ways_adds (q_var 0)) (q_var 2)) ka_nil)))) (kg_tup c.calm (q_gcons c.nd 8 (q_gcons c.nd 9 (q_gcons c.nd 6 kgs_nil))))
  (ks_one (ks_if (qt_gt (q_var 6) k_int)
  (ks_one (q_set c.nd 4 (q_max c z_max (ka_cons (q_var 4) (ka_cons (k_bin o_sub k_int (k_bin o_fdiv (k_bin o_sub (q_var 8) (q_var 9)) (q_var 6))) ka_nil)))))
  (ks_one (ks_if (kt_bool (kw_and (qt_eq c.hu (q_var 6) k_int) (kw_and1 (qt_lt c.hu0 (q_var 8) (q_var 9)))))
  (ks_one (ks_ret k_non))
  (ks_one (ks_if (qt_lt c.hu0 (q_var 6) k_int)
  (ks_cons (q_set c.nd 7 (k_bin o_fdiv (k_bin o_sub (q_var 8) (q_var 9)) (k_bin o_sub k_int (q_var 6))))
  (ks_one (ks_if (kt_bool (kw_or (qt_is (q_var 5) k_non) (kw_or1 (qt_lt c.hu0 (q_var 7) (q_var 5)))))
  (ks_one (q_set c.nd 5 (q_var 7)))
  ks_nil)))
  ks_nil)))))))
  (ks_cons (ks_if (kt_bool (kw_and (qt_isnot (q_var 5) k_non) (kw_and1 (qt_gt (q_var 4) (q_var 5)))))
  (ks_one (ks_ret k_non))
  ks_nil)
  (ks_one (ks_ret (q_var 4)))))))
theorem ok_Ways_stretch_of {f : Addr} {fd : FuncData} (D : FunD K "stretch_of" "Ways.stretch_of" (defArgs s_Ways_stretch_of) (defBody s_Ways_stretch_of) (defScope s_Ways_stretch_of) [] [] f fd) (m : Meth K (cl 0) "stretch_of" f) (mm : Cls K (cl 0)) (g_Ways_last_fit : CalM PP w K mg base cl 0 "last_fit" 1 ["self", "powers", "number"] F_Ways_last_fit 3) (g_Ways_comes_in : CalM PP w K mg base cl 0 "comes_in" 1 ["self", "powers", "number", "other"] F_Ways_comes_in 4) (z_range : mg "range" = none) : CalM PP w K mg base cl 0 "stretch_of" 2 ["self", "powers", "number"] F_Ways_stretch_of 3 :=
  q_fnM (k := 1) (sem := b_Ways_stretch_of) D sc_Ways_stretch_of rfl rfl m mm (FunD.bindsN (ps := ["self", "powers", "number"]) D fun _ _ _ _ _ _ us hl => match us, hl with | [_, _, _], _ => rfl) fun cdv A outer s H E c =>
  (ks_cons (q_set c.nd 3 (k_methS c g_Ways_last_fit (by decide) (q_var 0) (ka_cons (q_var 1) (ka_cons (q_var 2) ka_nil))))
  (ks_cons (ks_for c.hp c.calm (ki_range1 rfl z_range (ka_cons (q_var 2) ka_nil)) (q_one c.nd 5)
  (ks_cons (q_set c.nd 4 (k_methS c g_Ways_comes_in (by decide) (q_var 0) (ka_cons (q_var 1) (ka_cons (q_var 2) (ka_cons (q_var 5) ka_nil)))))
  (ks_one (ks_if (kt_bool (kw_and (qt_isnot (q_var 4) k_non) (kw_and1 (kt_bool (kw_or (qt_is (q_var 3) k_non) (kw_or1 (qt_lt c.hu0 (q_var 4) (q_var 3))))))))
  (ks_one (q_set c.nd 3 (q_var 4)))
  ks_nil))))
  (ks_one (ks_ret (q_var 3)))))
theorem ok_Ways_gone {f : Addr} {fd : FuncData} (D : FunD K "gone" "Ways.gone" (defArgs s_Ways_gone) (defBody s_Ways_gone) (defScope s_Ways_gone) [] [] f fd) (m : Meth K (cl 0) "gone" f) (mm : Cls K (cl 0)) (c_Ways : Cls K (cl 0)) (n_Ways_adds : NoAttr K (cl 0) "adds") (z_tuple : mg "tuple" = none) (z_zip : mg "zip" = none) : CalM PP w K mg base cl 0 "gone" 1 ["self", "powers", "number", "many"] F_Ways_gone 4 :=
  q_fnM (k := 0) (sem := b_Ways_gone) D sc_Ways_gone rfl rfl m mm (FunD.bindsN (ps := ["self", "powers", "number", "many"]) D fun _ _ _ _ _ _ us hl => match us, hl with | [_, _, _, _], _ => rfl) fun cdv A outer s H E c =>
  (ks_one (ks_ret (q_tuple z_tuple (ka_cons (k_frz (kn_comp c.calm c.nd (ki_zip rfl z_zip (ka_cons (q_var 1) (ka_cons (q_idx (k_fld 0 "adds" c_Ways n_Ways_adds (q_var 0)) (q_var 2)) ka_nil))) (blkOk_by (own := [("one", 4), ("more", 5)]) (by rfl)) (by decide) (fun s21 H21 C21 l21 fp21 => (kg_tup (c.blk s21 H21 _ _ fp21).calm (q_gcons (c.blk s21 H21 _ _ fp21).nd 4 (q_gcons (c.blk s21 H21 _ _ fp21).nd 5 kgs_nil)))) (fun s21 H21 C21 l21 fp21 => kts_nil) (fun s21 H21 C21 l21 fp21 => (k_bin o_add (q_var 4) (k_bin o_mul (q_var 3) (q_var 5)))))) ka_nil))))
theorem ok_leapt {f : Addr} {fd : FuncData} (D : FunD K "leapt" "leapt" (defArgs s_leapt) (defBody s_leapt) (defScope s_leapt) [] [] f fd) (m : mg "leapt" = some (.ref f)) (g_Ways_init : CalI PP w K mg base cl 0 "Ways" 4 ["self", "program"] F_Ways_init 2) (g_Ways_first : CalM PP w K mg base cl 0 "first" 1 ["self", "powers"] F_Ways_first 2) (g_Ways_stretch_of : CalM PP w K mg base cl 0 "stretch_of" 2 ["self", "powers", "number"] F_Ways_stretch_of 3) (g_Ways_gone : CalM PP w K mg base cl 0 "gone" 1 ["self", "powers", "number", "many"] F_Ways_gone 4) (e_TooMany : ExcF K mg cl 12 "TooMany") (h_MOST_STRETCHES : Con K mg "MOST_STRETCHES" t_MOST_STRETCHES) : Cal PP w K mg base cl "leapt" 6 ["program", "powers", "many"] F_leapt 3 :=
  q_fn (k := 5) (sem := b_leapt) D sc_leapt rfl rfl m (FunD.bindsN (ps := ["program", "powers", "many"]) D fun _ _ _ _ _ _ us hl => match us, hl with | [_, _, _], _ => rfl) fun cdv A outer s H E c =>
  (ks_cons (q_set c.nd 3 (k_newS c g_Ways_init (by decide) rfl (ka_cons (q_var 0) ka_nil)))
  (ks_cons (q_set c.nd 4 k_int)
  (ks_cons (q_set c.nd 5 k_int)
  (ks_cons (q_set c.nd 6 (k_methS c g_Ways_first (by decide) (q_var 3) (ka_cons (q_var 1) ka_nil)))
  (ks_cons (ks_while c.hp (kt_bool (kw_and (qt_lt c.hu0 (q_var 4) (q_var 2)) (kw_and1 (qt_isnot (q_var 6) k_non))))
  (ks_cons (ks_if (qt_eq c.hu (q_var 5) (q_con h_MOST_STRETCHES))
  (ks_one (ks_raise c e_TooMany))
  ks_nil)
  (ks_cons (q_set c.nd 5 (k_bin o_add (q_var 5) k_int))
  (ks_cons (q_set c.nd 7 (k_methS c g_Ways_stretch_of (by decide) (q_var 3) (ka_cons (q_var 1) (ka_cons (q_var 6) ka_nil))))
  (ks_cons (ks_if (kt_bool (kw_or (qt_is (q_var 7) k_non) (kw_or1 (qt_gt (q_var 7) (k_bin o_sub (q_var 2) (q_var 4))))))
  (ks_one (q_set c.nd 7 (k_bin o_sub (q_var 2) (q_var 4))))
  ks_nil)
  (ks_cons (q_set c.nd 1 (k_methS c g_Ways_gone (by decide) (q_var 3) (ka_cons (q_var 1) (ka_cons (q_var 6) (ka_cons (q_var 7) ka_nil)))))
  (ks_cons (q_set c.nd 4 (k_bin o_add (q_var 4) (q_var 7)))
  (ks_one (q_set c.nd 6 (k_methS c g_Ways_first (by decide) (q_var 3) (ka_cons (q_var 1) ka_nil)))))))))))
  (ks_one (ks_ret (k_tup (ka_cons (q_var 4) (ka_cons (q_var 1) ka_nil))))))))))
theorem ok_Bench_run {f : Addr} {fd : FuncData} (D : FunD K "run" "Bench.run" (defArgs s_Bench_run) (defBody s_Bench_run) (defScope s_Bench_run) [] [] f fd) (m : Meth K (cl 2) "run" f) (mm : Cls K (cl 2)) (g_Bench_look_for : CalM PP w K mg base cl 2 "look_for" 2 ["self", "name"] F_Bench_look_for 2) (g_leapt : Cal PP w K mg base cl "leapt" 6 ["program", "powers", "many"] F_leapt 3) (g_Bench_turn_to : CalM PP w K mg base cl 2 "turn_to" 1 ["self", "later"] F_Bench_turn_to 2) (c_Bench : Cls K (cl 2)) (n_Bench_kept : NoAttr K (cl 2) "kept") (n_Bench_own : NoAttr K (cl 2) "own") (z_dict : mg "dict" = none) : CalM PP w K mg base cl 2 "run" 7 ["self", "name", "many"] F_Bench_run 3 :=
  q_fnM (k := 6) (sem := b_Bench_run) D sc_Bench_run rfl rfl m mm (FunD.bindsN (ps := ["self", "name", "many"]) D fun _ _ _ _ _ _ us hl => match us, hl with | [_, _, _], _ => rfl) fun cdv A outer s H E c =>
  (ks_cons (ks_expr (k_methS c g_Bench_look_for (by decide) (q_var 0) (ka_cons (q_var 1) ka_nil)))
  (ks_cons (ks_asg (kg_tup c.calm (q_gcons c.nd 4 (q_gcons c.nd 3 kgs_nil))) (k_getS c.hu (k_fld 2 "kept" c_Bench n_Bench_kept (q_var 0)) (q_var 1)))
  (ks_cons (ks_asg (kg_tup c.calm (q_gcons c.nd 5 (q_gcons c.nd 6 kgs_nil))) (q_call c g_leapt (by decide) rfl (ka_cons (k_fld 2 "own" c_Bench n_Bench_own (q_var 0)) (ka_cons (q_var 4) (ka_cons (q_var 2) ka_nil)))))
  (ks_cons (q_set c.nd 7 (k_copyD z_dict (ka_cons (k_fld 2 "kept" c_Bench n_Bench_kept (q_var 0)) ka_nil)))
  (ks_cons (ks_putD c.hu (k_tup (ka_cons (q_var 6) (ka_cons (k_bin o_add (q_var 3) (q_var 5)) ka_nil))) (q_var 7) (q_var 1))
  (ks_cons (ks_expr (k_methS c g_Bench_turn_to (by decide) (q_var 0) (ka_cons (k_frzD (q_var 7)) ka_nil)))
  (ks_one (ks_ret (q_var 5)))))))))
theorem ok_Bench_drop {f : Addr} {fd : FuncData} (D : FunD K "drop" "Bench.drop" (defArgs s_Bench_drop) (defBody s_Bench_drop) (defScope s_Bench_drop) [] [] f fd) (m : Meth K (cl 2) "drop" f) (mm : Cls K (cl 2)) (g_Bench_look_for : CalM PP w K mg base cl 2 "look_for" 2 ["self", "name"] F_Bench_look_for 2) (g_Bench_turn_to : CalM PP w K mg base cl 2 "turn_to" 1 ["self", "later"] F_Bench_turn_to 2) (c_Bench : Cls K (cl 2)) (n_Bench_kept : NoAttr K (cl 2) "kept") (z_dict : mg "dict" = none) : CalM PP w K mg base cl 2 "drop" 3 ["self", "name"] F_Bench_drop 2 :=
  q_fnM (k := 2) (sem := b_Bench_drop) D sc_Bench_drop rfl rfl m mm (FunD.bindsN (ps := ["self", "name"]) D fun _ _ _ _ _ _ us hl => match us, hl with | [_, _], _ => rfl) fun cdv A outer s H E c =>
  (ks_cons (ks_expr (k_methS c g_Bench_look_for (by decide) (q_var 0) (ka_cons (q_var 1) ka_nil)))
  (ks_cons (q_set c.nd 2 (k_copyD z_dict (ka_cons (k_fld 2 "kept" c_Bench n_Bench_kept (q_var 0)) ka_nil)))
  (ks_cons (ks_expr (k_popD (q_var 2) (q_var 1)))
  (ks_one (ks_expr (k_methS c g_Bench_turn_to (by decide) (q_var 0) (ka_cons (k_frzD (q_var 2)) ka_nil)))))))
theorem okx_law_kind_of {f : Addr} {fd : FuncData} (D : FunD K "_law_kind_of" "_law_kind_of" (defArgs s_law_kind_of) (defBody s_law_kind_of) (defScope s_law_kind_of) [] [] f fd) (m : mg "_law_kind_of" = some (.ref f)) (tf : TryF K cl [12, 16, 18, 20, 21] [11, 12, 13, 14, 15, 16, 17, 18, 19, 20, 21, 22] 10) (mc_NoNumber : mg "NoNumber" = some (.ref (cl 14))) (mc_NoName : mg "NoName" = some (.ref (cl 20))) (mc_NoDeed : mg "NoDeed" = some (.ref (cl 21))) (mc_AtRest : mg "AtRest" = some (.ref (cl 11))) (mc_NoRow : mg "NoRow" = some (.ref (cl 22))) (mc_NoProgram : mg "NoProgram" = some (.ref (cl 16))) (mc_NoPowers : mg "NoPowers" = some (.ref (cl 18))) (mc_NoOrder : mg "NoOrder" = some (.ref (cl 15))) (mc_TooMany : mg "TooMany" = some (.ref (cl 12))) (mc_Shared : mg "Shared" = some (.ref (cl 17))) (mc_NoTrail : mg "NoTrail" = some (.ref (cl 19))) (mc_NoText : mg "NoText" = some (.ref (cl 13))) (z_ValueError : mg "ValueError" = none) (z_isinstance : mg "isinstance" = none) : CalX PP w K mg base cl "_law_kind_of" 1 ["e"] F_law_kind_of 1 (okE [12, 16, 18, 20, 21]) :=
  q_fnX (k := 0) (sem := b_law_kind_of) D sc_law_kind_of rfl rfl m (FunD.bindsN (ps := ["e"]) D fun _ _ _ _ _ _ us hl => match us, hl with | [_], _ => rfl) fun cdv A outer s H E ea ed oe ee oke c =>
  (ks_cons (q_set c.nd 1 (k_frz (kn_lst (ka_cons (k_isX c (tf.i _ oke.1) (q_var 0) z_isinstance mc_AtRest (tf.k _ oke.1 11 (by decide))) (ka_cons (k_isX c (tf.i _ oke.1) (q_var 0) z_isinstance mc_NoDeed (tf.k _ oke.1 21 (by decide))) (ka_cons (k_isX c (tf.i _ oke.1) (q_var 0) z_isinstance mc_NoName (tf.k _ oke.1 20 (by decide))) (ka_cons (k_isX c (tf.i _ oke.1) (q_var 0) z_isinstance mc_NoNumber (tf.k _ oke.1 14 (by decide))) ka_nil)))))))
  (ks_cons (q_set c.nd 1 (k_bin o_add (q_var 1) (k_frz (kn_lst (ka_cons (k_isX c (tf.i _ oke.1) (q_var 0) z_isinstance mc_NoOrder (tf.k _ oke.1 15 (by decide))) (ka_cons (k_isX c (tf.i _ oke.1) (q_var 0) z_isinstance mc_NoPowers (tf.k _ oke.1 18 (by decide))) (ka_cons (k_isX c (tf.i _ oke.1) (q_var 0) z_isinstance mc_NoProgram (tf.k _ oke.1 16 (by decide))) (ka_cons (k_isX c (tf.i _ oke.1) (q_var 0) z_isinstance mc_NoRow (tf.k _ oke.1 22 (by decide))) ka_nil))))))))
  (ks_cons (q_set c.nd 1 (k_bin o_add (q_var 1) (k_frz (kn_lst (ka_cons (k_isX c (tf.i _ oke.1) (q_var 0) z_isinstance mc_NoText (tf.k _ oke.1 13 (by decide))) (ka_cons (k_isX c (tf.i _ oke.1) (q_var 0) z_isinstance mc_NoTrail (tf.k _ oke.1 19 (by decide))) (ka_cons (k_isX c (tf.i _ oke.1) (q_var 0) z_isinstance mc_Shared (tf.k _ oke.1 17 (by decide))) (ka_cons (k_isX c (tf.i _ oke.1) (q_var 0) z_isinstance mc_TooMany (tf.k _ oke.1 12 (by decide))) ka_nil))))))))
  (ks_cons (ks_if (kt_bool (kw_or (qt_ne c.hu (k_methL PySem.F.slot_list_count PySem.F.type_list_count m_count (q_var 1) (ka_cons k_bl ka_nil)) k_int) (kw_or1 (kt_not (kt_tru (k_isXB c (tf.i _ oke.1) (q_var 0) z_isinstance z_ValueError PyProof.Rows.Boot.«ValueError» (tf.v _ oke.1)))))))
  (ks_one (ks_ret k_str))
  ks_nil)
  (ks_cons (q_set c.nd 2 (k_frz (kn_lst (ka_cons k_str (ka_cons k_str (ka_cons k_str (ka_cons k_str (ka_cons k_str (ka_cons k_str (ka_cons k_str (ka_cons k_str ka_nil)))))))))))
  (ks_cons (q_set c.nd 2 (k_bin o_add (q_var 2) (k_frz (kn_lst (ka_cons k_str (ka_cons k_str (ka_cons k_str (ka_cons k_str ka_nil))))))))
  (ks_one (ks_ret (q_idx (q_var 2) (k_methL PySem.F.slot_list_index PySem.F.type_list_index m_index (q_var 1) (ka_cons k_bl ka_nil)))))))))))
theorem ok_law_bench_told {f : Addr} {fd : FuncData} (D : FunD K "_law_bench_told" "_law_bench_told" (defArgs s_law_bench_told) (defBody s_law_bench_told) (defScope s_law_bench_told) [] [] f fd) (m : mg "_law_bench_told" = some (.ref f)) (g_Bench_undo : CalM PP w K mg base cl 2 "undo" 1 ["self"] F_Bench_undo_v2 1) (g_Bench_put : CalM PP w K mg base cl 2 "put" 3 ["self", "name", "powers"] F_Bench_put 3) (g_Bench_run : CalM PP w K mg base cl 2 "run" 7 ["self", "name", "many"] F_Bench_run 3) (g_Bench_drop : CalM PP w K mg base cl 2 "drop" 3 ["self", "name"] F_Bench_drop 2) (gx_law_kind_of : CalX PP w K mg base cl "_law_kind_of" 1 ["e"] F_law_kind_of 1 (okE [12, 16, 18, 20, 21])) (tf : TryF K cl [12, 16, 18, 20, 21] [11, 12, 13, 14, 15, 16, 17, 18, 19, 20, 21, 22] 10) (mc_FractError : mg "FractError" = some (.ref (cl 10))) : Cal PP w K mg base cl "_law_bench_told" 8 ["bench", "deed"] F_law_bench_told_v2 2 :=
  q_fn (k := 7) (sem := b_law_bench_told_v2) D sc_law_bench_told rfl rfl m (FunD.bindsN (ps := ["bench", "deed"]) D fun _ _ _ _ _ _ us hl => match us, hl with | [_, _], _ => rfl) fun cdv A outer s H E c =>
  (ks_cons (ks_asg (kg_tup c.calm (q_gcons c.nd 4 (q_gcons c.nd 2 (q_gcons c.nd 3 kgs_nil)))) (q_var 1))
  (ks_one (ks_try (i := 5) (cl := cl) (c0 := 10) (cs := [12, 16, 18, 20, 21]) c rfl rfl ⟨rfl, by decide, .inl mc_FractError⟩ tf.m (fun W2 pn2 xe2 cT =>
  (ks_cons (ks_if (qt_eq cT.hu (q_var 4) k_str)
  (ks_one (ks_ret (k_methS cT g_Bench_put (by decide) (q_var 0) (ka_cons (q_var 2) (ka_cons (q_var 3) ka_nil)))))
  ks_nil)
  (ks_cons (ks_if (qt_eq cT.hu (q_var 4) k_str)
  (ks_one (ks_ret (k_methS cT g_Bench_run (by decide) (q_var 0) (ka_cons (q_var 2) (ka_cons (q_var 3) ka_nil)))))
  ks_nil)
  (ks_cons (ks_if (qt_eq cT.hu (q_var 4) k_str)
  (ks_one (ks_ret (k_methS cT g_Bench_drop (by decide) (q_var 0) (ka_cons (q_var 2) ka_nil))))
  ks_nil)
  (ks_one (ks_ret (k_methS0 cT g_Bench_undo (by decide) (q_var 0)))))))) (fun ea ed oe ee pn oke cX =>
  (ks_one (ks_ret (k_callX cX gx_law_kind_of (by decide) oke rfl (ka_cons (q_var 5) ka_nil))))))))
theorem ok_Bench_names {f : Addr} {fd : FuncData} (D : FunD K "names" "Bench.names" (defArgs s_Bench_names) (defBody s_Bench_names) (defScope s_Bench_names) [] [] f fd) (m : Meth K (cl 2) "names" f) (mm : Cls K (cl 2)) (c_Bench : Cls K (cl 2)) (n_Bench_kept : NoAttr K (cl 2) "kept") (z_sorted : mg "sorted" = none) : CalM PP w K mg base cl 2 "names" 1 ["self"] F_Bench_names 1 :=
  q_fnM (k := 0) (sem := b_Bench_names) D sc_Bench_names rfl rfl m mm (FunD.bindsN (ps := ["self"]) D fun _ _ _ _ _ _ us hl => match us, hl with | [_], _ => rfl) fun cdv A outer s H E c =>
  (ks_one (ks_ret (k_cell (qn_sortS c.calm z_sorted (ka_cons (k_fld 2 "kept" c_Bench n_Bench_kept (q_var 0)) ka_nil)))))
theorem ok_Bench_powers {f : Addr} {fd : FuncData} (D : FunD K "powers" "Bench.powers" (defArgs s_Bench_powers) (defBody s_Bench_powers) (defScope s_Bench_powers) [] [] f fd) (m : Meth K (cl 2) "powers" f) (mm : Cls K (cl 2)) (g_Bench_look_for : CalM PP w K mg base cl 2 "look_for" 2 ["self", "name"] F_Bench_look_for 2) (c_Bench : Cls K (cl 2)) (n_Bench_kept : NoAttr K (cl 2) "kept") : CalM PP w K mg base cl 2 "powers" 3 ["self", "name"] F_Bench_powers 2 :=
  q_fnM (k := 2) (sem := b_Bench_powers) D sc_Bench_powers rfl rfl m mm (FunD.bindsN (ps := ["self", "name"]) D fun _ _ _ _ _ _ us hl => match us, hl with | [_, _], _ => rfl) fun cdv A outer s H E c =>
  (ks_cons (ks_expr (k_methS c g_Bench_look_for (by decide) (q_var 0) (ka_cons (q_var 1) ka_nil)))
  (ks_one (ks_ret (q_idx (k_getS c.hu (k_fld 2 "kept" c_Bench n_Bench_kept (q_var 0)) (q_var 1)) k_int))))
theorem ok_Bench_gone {f : Addr} {fd : FuncData} (D : FunD K "gone" "Bench.gone" (defArgs s_Bench_gone) (defBody s_Bench_gone) (defScope s_Bench_gone) [] [] f fd) (m : Meth K (cl 2) "gone" f) (mm : Cls K (cl 2)) (g_Bench_look_for : CalM PP w K mg base cl 2 "look_for" 2 ["self", "name"] F_Bench_look_for 2) (c_Bench : Cls K (cl 2)) (n_Bench_kept : NoAttr K (cl 2) "kept") : CalM PP w K mg base cl 2 "gone" 3 ["self", "name"] F_Bench_gone 2 :=
  q_fnM (k := 2) (sem := b_Bench_gone) D sc_Bench_gone rfl rfl m mm (FunD.bindsN (ps := ["self", "name"]) D fun _ _ _ _ _ _ us hl => match us, hl with | [_, _], _ => rfl) fun cdv A outer s H E c =>
  (ks_cons (ks_expr (k_methS c g_Bench_look_for (by decide) (q_var 0) (ka_cons (q_var 1) ka_nil)))
  (ks_one (ks_ret (q_idx (k_getS c.hu (k_fld 2 "kept" c_Bench n_Bench_kept (q_var 0)) (q_var 1)) k_int))))
theorem ok_law_bench_right {f : Addr} {fd : FuncData} (D : FunD K "_law_bench_right" "_law_bench_right" (defArgs s_law_bench_right) (defBody s_law_bench_right) (defScope s_law_bench_right) [] [] f fd) (m : mg "_law_bench_right" = some (.ref f)) (g_Bench_names : CalM PP w K mg base cl 2 "names" 1 ["self"] F_Bench_names 1) (g_law_same : Cal PP w K mg base cl "_law_same" 9 ["found", "due"] (F_law_same 8) 2) (g_Bench_powers : CalM PP w K mg base cl 2 "powers" 3 ["self", "name"] F_Bench_powers 2) (g_Bench_gone : CalM PP w K mg base cl 2 "gone" 3 ["self", "name"] F_Bench_gone 2) (z_sorted : mg "sorted" = none) : Cal PP w K mg base cl "_law_bench_right" 10 ["bench", "rows"] F_law_bench_right 2 :=
  q_fn (k := 9) (sem := b_law_bench_right) D sc_law_bench_right rfl rfl m (FunD.bindsN (ps := ["bench", "rows"]) D fun _ _ _ _ _ _ us hl => match us, hl with | [_, _], _ => rfl) fun cdv A outer s H E c =>
  (ks_cons (q_set c.nd 2 (k_methS0 c g_Bench_names (by decide) (q_var 0)))
  (ks_cons (ks_if (kt_not (kt_tru (q_call c g_law_same (by decide) rfl (ka_cons (q_var 2) (ka_cons (k_frz (qn_sortS c.calm z_sorted (ka_cons (q_var 1) ka_nil))) ka_nil)))))
  (ks_one (ks_ret k_bl))
  ks_nil)
  (ks_cons (ks_expr (k_methL PySem.F.slot_list_append PySem.F.type_list_append m_append (q_var 2) (ka_cons k_str ka_nil)))
  (ks_cons (ks_for c.hp c.calm (ki_keysD (q_var 1)) (q_one c.nd 3)
  (ks_one (ks_if (kt_bool (kw_or (kt_not (kt_tru (q_call c g_law_same (by decide) rfl (ka_cons (k_methS c g_Bench_powers (by decide) (q_var 0) (ka_cons (q_var 3) ka_nil)) (ka_cons (q_idx (k_getS c.hu (q_var 1) (q_var 3)) k_int) ka_nil))))) (kw_or1 (kt_not (kt_tru (q_call c g_law_same (by decide) rfl (ka_cons (k_methS c g_Bench_gone (by decide) (q_var 0) (ka_cons (q_var 3) ka_nil)) (ka_cons (q_idx (k_getS c.hu (q_var 1) (q_var 3)) k_int) ka_nil))))))))
  (ks_one (ks_ret k_bl))
  ks_nil)))
  (ks_one (ks_ret (q_call c g_law_same (by decide) rfl (ka_cons (k_methS0 c g_Bench_names (by decide) (q_var 0)) (ka_cons (k_frz (qn_sortS c.calm z_sorted (ka_cons (q_var 1) ka_nil))) ka_nil)))))))))
theorem ok_law {f : Addr} {fd : FuncData} (D : FunD K "law" "law" (defArgs s_law) (defBody s_law) (defScope s_law) [] [] f fd) (m : mg "law" = some (.ref f)) (g_law_pot : Cal PP w K mg base cl "_law_pot" 1 ["cell"] F_law_pot 1) (g_law_places : Cal PP w K mg base cl "_law_places" 3 ["pot"] F_law_places 1) (g_law_cell_at : Cal PP w K mg base cl "_law_cell_at" 1 ["script", "k"] F_law_cell_at 2) (g_law_calm_program : Cal PP w K mg base cl "_law_calm_program" 5 ["pot", "places", "most"] F_law_calm_program 3) (g_law_table : Cal PP w K mg base cl "_law_table" 3 ["program"] F_law_table 1) (g_Bench_init : CalI PP w K mg base cl 2 "Bench" 5 ["self", "program"] F_Bench_init_v2 2) (g_law_bench_deed : Cal PP w K mg base cl "_law_bench_deed" 3 ["pot", "places", "rows"] F_law_bench_deed_v2 3) (g_law_bench_due : Cal PP w K mg base cl "_law_bench_due" 3 ["table", "rows", "deed"] F_law_bench_due 3) (g_law_same : Cal PP w K mg base cl "_law_same" 9 ["found", "due"] (F_law_same 8) 2) (g_law_take : Cal PP w K mg base cl "_law_take" 1 ["pot", "far"] F_law_take 2) (g_law_bench_told : Cal PP w K mg base cl "_law_bench_told" 8 ["bench", "deed"] F_law_bench_told_v2 2) (g_law_bench_right : Cal PP w K mg base cl "_law_bench_right" 10 ["bench", "rows"] F_law_bench_right 2) (z_int : mg "int" = none) (z_isinstance : mg "isinstance" = none) (z_len : mg "len" = none) (z_max : mg "max" = none) (z_min : mg "min" = none) (z_range : mg "range" = none) (z_str : mg "str" = none) : FnOk PP w K mg base (L2N.CX PP w) 11 f fd ["script"] (spF K cl F_law_k91_v2 1) :=
  q_fnF (k := 10) (sem := b_law_k91_v2) D sc_law rfl rfl fun cdv A outer s H E c =>
  (ks_cons (q_set c.nd 1 (q_call c g_law_pot (by decide) rfl (ka_cons (q_call c g_law_cell_at (by decide) rfl (ka_cons (q_var 0) (ka_cons k_int ka_nil))) ka_nil)))
  (ks_cons (q_set c.nd 2 (q_call c g_law_places (by decide) rfl (ka_cons (q_var 1) ka_nil)))
  (ks_cons (q_set c.nd 3 (k_frz (kn_lst (ka_cons (q_call c g_law_calm_program (by decide) rfl (ka_cons (q_var 1) (ka_cons (q_var 2) (ka_cons k_int ka_nil)))) (ka_cons (q_call c g_law_calm_program (by decide) rfl (ka_cons (q_var 1) (ka_cons (q_var 2) (ka_cons k_int ka_nil)))) ka_nil)))))
  (ks_cons (ks_setLc (i := 4) c.calm c.nd rfl rfl (sw_true rfl rfl rfl (by decide +kernel)) (ki_seq (q_var 3)) (blkOk_by (own := [("program", 13)]) (by rfl)) (by decide) (fun s22 H22 C22 l22 fp22 => (q_one (c.blk s22 H22 _ _ fp22).nd 13)) (fun s22 H22 C22 l22 fp22 => kts_nil) (fun s22 H22 C22 l22 fp22 => (q_call (c.blk s22 H22 _ _ fp22) g_law_table (by decide) rfl (ka_cons (q_var 13) ka_nil))))
  (ks_cons (ks_setLc (i := 5) c.calm c.nd rfl rfl (sw_true rfl rfl rfl (by decide +kernel)) (ki_seq (q_var 3)) (blkOk_by (own := [("program", 13)]) (by rfl)) (by decide) (fun s23 H23 C23 l23 fp23 => (q_one (c.blk s23 H23 _ _ fp23).nd 13)) (fun s23 H23 C23 l23 fp23 => kts_nil) (fun s23 H23 C23 l23 fp23 => (k_newS (c.blk s23 H23 _ _ fp23) g_Bench_init (by decide) rfl (ka_cons (q_var 13) ka_nil))))
  (ks_cons (q_set c.nd 6 (k_frz (kn_lst (ka_cons (k_cell (kn_lst (ka_cons k_empD ka_nil))) (ka_cons (k_cell (kn_lst (ka_cons k_empD ka_nil))) ka_nil)))))
  (ks_cons (ks_for c.hp c.calm (ki_range2 rfl z_range (ka_cons k_int (ka_cons (q_max c z_max (ka_cons k_int (ka_cons (q_min c z_min (ka_cons (q_len z_len (ka_cons (q_var 0) ka_nil)) (ka_cons k_int ka_nil))) ka_nil))) ka_nil))) (q_one c.nd 9)
  (ks_cons (q_set c.nd 1 (q_call c g_law_pot (by decide) rfl (ka_cons (q_call c g_law_cell_at (by decide) rfl (ka_cons (q_var 0) (ka_cons (q_var 9) ka_nil))) ka_nil)))
  (ks_cons (q_set c.nd 12 (q_int z_int (ka_cons (q_eq c.hu (q_call c g_law_take (by decide) rfl (ka_cons (q_var 1) (ka_cons k_int ka_nil))) k_int) ka_nil)))
  (ks_cons (q_set c.nd 7 (q_call c g_law_bench_deed (by decide) rfl (ka_cons (q_var 1) (ka_cons (q_var 2) (ka_cons (q_idx (q_idx (q_var 6) (q_var 12)) (q_neg k_int)) ka_nil)))))
  (ks_cons (q_set c.nd 8 k_str)
  (ks_cons (ks_if (qt_ne c.hu (q_idx (q_var 7) k_int) k_str)
  (ks_cons (ks_asg (kg_tup c.calm (q_gcons c.nd 8 (q_gcons c.nd 10 kgs_nil))) (q_call c g_law_bench_due (by decide) rfl (ka_cons (q_idx (q_var 4) (q_var 12)) (ka_cons (q_idx (q_idx (q_var 6) (q_var 12)) (q_neg k_int)) (ka_cons (q_var 7) ka_nil)))))
  (ks_one (ks_if (kt_not (kt_tru (q_isi "str" (q_var 8) z_isinstance z_str)))
  (ks_one (ks_expr (k_methL PySem.F.slot_list_append PySem.F.type_list_append m_append (q_idx (q_var 6) (q_var 12)) (ka_cons (q_var 10) ka_nil))))
  ks_nil)))
  (ks_one (ks_if (qt_gt (q_len z_len (ka_cons (q_idx (q_var 6) (q_var 12)) ka_nil)) k_int)
  (ks_cons (ks_expr (k_methL0 PySem.F.slot_list_pop PySem.F.type_list_pop m_pop (q_idx (q_var 6) (q_var 12))))
  (ks_one (q_set c.nd 8 k_non)))
  ks_nil)))
  (ks_cons (ks_if (kt_not (kt_tru (q_call c g_law_same (by decide) rfl (ka_cons (q_call c g_law_bench_told (by decide) rfl (ka_cons (q_idx (q_var 5) (q_var 12)) (ka_cons (q_var 7) ka_nil))) (ka_cons (q_var 8) ka_nil)))))
  (ks_one (ks_ret k_bl))
  ks_nil)
  (ks_one (ks_for c.hp c.calm (ki_range1 rfl z_range (ka_cons k_int ka_nil)) (q_one c.nd 11)
  (ks_one (ks_if (kt_bool (kw_or (kt_not (kt_tru (q_call c g_law_bench_right (by decide) rfl (ka_cons (q_idx (q_var 5) k_int) (ka_cons (q_idx (q_idx (q_var 6) k_int) (q_neg k_int)) ka_nil))))) (kw_or1 (kt_not (kt_tru (q_call c g_law_bench_right (by decide) rfl (ka_cons (q_idx (q_var 5) k_int) (ka_cons (q_idx (q_idx (q_var 6) k_int) (q_neg k_int)) ka_nil))))))))
  (ks_one (ks_ret k_bl))
  ks_nil)))))))))))
  (ks_one (ks_ret k_bl)))))))))
end
def d_law_pot : He.DefD := ⟨("_law_pot", none), "_law_pot", "_law_pot", defArgs s_law_pot, defBody s_law_pot, defScope s_law_pot, [], []⟩
def d_law_take : He.DefD := ⟨("_law_take", none), "_law_take", "_law_take", defArgs s_law_take, defBody s_law_take, defScope s_law_take, [], []⟩
def d_law_order : He.DefD := ⟨("_law_order", none), "_law_order", "_law_order", defArgs s_law_order, defBody s_law_order, defScope s_law_order, [], []⟩
def d_law_places : He.DefD := ⟨("_law_places", none), "_law_places", "_law_places", defArgs s_law_places, defBody s_law_places, defScope s_law_places, [], []⟩
def d_law_cell_at : He.DefD := ⟨("_law_cell_at", none), "_law_cell_at", "_law_cell_at", defArgs s_law_cell_at, defBody s_law_cell_at, defScope s_law_cell_at, [], []⟩
def d_law_primes : He.DefD := ⟨("_law_primes", none), "_law_primes", "_law_primes", defArgs s_law_primes, defBody s_law_primes, defScope s_law_primes, [], []⟩
def d_law_product : He.DefD := ⟨("_law_product", none), "_law_product", "_law_product", defArgs s_law_product, defBody s_law_product, defScope s_law_product, [], []⟩
def d_law_fraction : He.DefD := ⟨("_law_fraction", none), "_law_fraction", "_law_fraction", defArgs s_law_fraction, defBody s_law_fraction, defScope s_law_fraction, [], []⟩
def d_law_program : He.DefD := ⟨("_law_program", none), "_law_program", "_law_program", defArgs s_law_program, defBody s_law_program, defScope s_law_program, [], []⟩
def d_law_calm_program : He.DefD := ⟨("_law_calm_program", none), "_law_calm_program", "_law_calm_program", defArgs s_law_calm_program, defBody s_law_calm_program, defScope s_law_calm_program, [], []⟩
def d_law_exps : He.DefD := ⟨("_law_exps", none), "_law_exps", "_law_exps", defArgs s_law_exps, defBody s_law_exps, defScope s_law_exps, [], []⟩
def d_law_table : He.DefD := ⟨("_law_table", none), "_law_table", "_law_table", defArgs s_law_table, defBody s_law_table, defScope s_law_table, [], []⟩
def d_found_powers : He.DefD := ⟨("found_powers", none), "found_powers", "found_powers", defArgs s_found_powers, defBody s_found_powers, defScope s_found_powers, [], []⟩
def d_is_whole : He.DefD := ⟨("is_whole", none), "is_whole", "is_whole", defArgs s_is_whole, defBody s_is_whole, defScope s_is_whole, [], []⟩
def d_is_upto : He.DefD := ⟨("is_upto", none), "is_upto", "is_upto", defArgs s_is_upto, defBody s_is_upto, defScope s_is_upto, [], []⟩
def d_is_fraction : He.DefD := ⟨("is_fraction", none), "is_fraction", "is_fraction", defArgs s_is_fraction, defBody s_is_fraction, defScope s_is_fraction, [], []⟩
def d_is_program : He.DefD := ⟨("is_program", none), "is_program", "is_program", defArgs s_is_program, defBody s_is_program, defScope s_is_program, [], []⟩
def d_Bench_init : He.DefD := ⟨("Bench", some "__init__"), "__init__", "Bench.__init__", defArgs s_Bench_init, defBody s_Bench_init, defScope s_Bench_init, [], []⟩
def d_law_line : He.DefD := ⟨("_law_line", none), "_law_line", "_law_line", defArgs s_law_line, defBody s_law_line, defScope s_law_line, [], []⟩
def d_law_bench_deed : He.DefD := ⟨("_law_bench_deed", none), "_law_bench_deed", "_law_bench_deed", defArgs s_law_bench_deed, defBody s_law_bench_deed, defScope s_law_bench_deed, [], []⟩
def d_law_first_of : He.DefD := ⟨("_law_first_of", none), "_law_first_of", "_law_first_of", defArgs s_law_first_of, defBody s_law_first_of, defScope s_law_first_of, [], []⟩
def d_law_put : He.DefD := ⟨("_law_put", none), "_law_put", "_law_put", defArgs s_law_put, defBody s_law_put, defScope s_law_put, [], []⟩
def d_law_gone_through : He.DefD := ⟨("_law_gone_through", none), "_law_gone_through", "_law_gone_through", defArgs s_law_gone_through, defBody s_law_gone_through, defScope s_law_gone_through, [], []⟩
def d_law_whole : He.DefD := ⟨("_law_whole", none), "_law_whole", "_law_whole", defArgs s_law_whole, defBody s_law_whole, defScope s_law_whole, [], []⟩
def d_law_line_right : He.DefD := ⟨("_law_line_right", none), "_law_line_right", "_law_line_right", defArgs s_law_line_right, defBody s_law_line_right, defScope s_law_line_right, [], []⟩
def d_law_bench_due : He.DefD := ⟨("_law_bench_due", none), "_law_bench_due", "_law_bench_due", defArgs s_law_bench_due, defBody s_law_bench_due, defScope s_law_bench_due, [], []⟩
def d_law_same : He.DefD := ⟨("_law_same", none), "_law_same", "_law_same", defArgs s_law_same, defBody s_law_same, defScope s_law_same, [], []⟩
def d_Bench_undo : He.DefD := ⟨("Bench", some "undo"), "undo", "Bench.undo", defArgs s_Bench_undo, defBody s_Bench_undo, defScope s_Bench_undo, [], []⟩
def d_Bench_turn_to : He.DefD := ⟨("Bench", some "turn_to"), "turn_to", "Bench.turn_to", defArgs s_Bench_turn_to, defBody s_Bench_turn_to, defScope s_Bench_turn_to, [], []⟩
def d_is_name : He.DefD := ⟨("is_name", none), "is_name", "is_name", defArgs s_is_name, defBody s_is_name, defScope s_is_name, [], []⟩
def d_is_powers : He.DefD := ⟨("is_powers", none), "is_powers", "is_powers", defArgs s_is_powers, defBody s_is_powers, defScope s_is_powers, [], []⟩
def d_Bench_put : He.DefD := ⟨("Bench", some "put"), "put", "Bench.put", defArgs s_Bench_put, defBody s_Bench_put, defScope s_Bench_put, [], []⟩
def d_Bench_look_for : He.DefD := ⟨("Bench", some "look_for"), "look_for", "Bench.look_for", defArgs s_Bench_look_for, defBody s_Bench_look_for, defScope s_Bench_look_for, [], []⟩
def d_bottoms_of : He.DefD := ⟨("bottoms_of", none), "bottoms_of", "bottoms_of", defArgs s_bottoms_of, defBody s_bottoms_of, defScope s_bottoms_of, [], []⟩
def d_tops_of : He.DefD := ⟨("tops_of", none), "tops_of", "tops_of", defArgs s_tops_of, defBody s_tops_of, defScope s_tops_of, [], []⟩
def d_changes_of : He.DefD := ⟨("changes_of", none), "changes_of", "changes_of", defArgs s_changes_of, defBody s_changes_of, defScope s_changes_of, [], []⟩
def d_Ways_init : He.DefD := ⟨("Ways", some "__init__"), "__init__", "Ways.__init__", defArgs s_Ways_init, defBody s_Ways_init, defScope s_Ways_init, [], []⟩
def d_Ways_first : He.DefD := ⟨("Ways", some "first"), "first", "Ways.first", defArgs s_Ways_first, defBody s_Ways_first, defScope s_Ways_first, [], []⟩
def d_Ways_last_fit : He.DefD := ⟨("Ways", some "last_fit"), "last_fit", "Ways.last_fit", defArgs s_Ways_last_fit, defBody s_Ways_last_fit, defScope s_Ways_last_fit, [], []⟩
def d_Ways_comes_in : He.DefD := ⟨("Ways", some "comes_in"), "comes_in", "Ways.comes_in", defArgs s_Ways_comes_in, defBody s_Ways_comes_in, defScope s_Ways_comes_in, [], []⟩
def d_Ways_stretch_of : He.DefD := ⟨("Ways", some "stretch_of"), "stretch_of", "Ways.stretch_of", defArgs s_Ways_stretch_of, defBody s_Ways_stretch_of, defScope s_Ways_stretch_of, [], []⟩
def d_Ways_gone : He.DefD := ⟨("Ways", some "gone"), "gone", "Ways.gone", defArgs s_Ways_gone, defBody s_Ways_gone, defScope s_Ways_gone, [], []⟩
def d_leapt : He.DefD := ⟨("leapt", none), "leapt", "leapt", defArgs s_leapt, defBody s_leapt, defScope s_leapt, [], []⟩
def d_Bench_run : He.DefD := ⟨("Bench", some "run"), "run", "Bench.run", defArgs s_Bench_run, defBody s_Bench_run, defScope s_Bench_run, [], []⟩
def d_Bench_drop : He.DefD := ⟨("Bench", some "drop"), "drop", "Bench.drop", defArgs s_Bench_drop, defBody s_Bench_drop, defScope s_Bench_drop, [], []⟩
def d_law_kind_of : He.DefD := ⟨("_law_kind_of", none), "_law_kind_of", "_law_kind_of", defArgs s_law_kind_of, defBody s_law_kind_of, defScope s_law_kind_of, [], []⟩
def d_law_bench_told : He.DefD := ⟨("_law_bench_told", none), "_law_bench_told", "_law_bench_told", defArgs s_law_bench_told, defBody s_law_bench_told, defScope s_law_bench_told, [], []⟩
def d_Bench_names : He.DefD := ⟨("Bench", some "names"), "names", "Bench.names", defArgs s_Bench_names, defBody s_Bench_names, defScope s_Bench_names, [], []⟩
def d_Bench_powers : He.DefD := ⟨("Bench", some "powers"), "powers", "Bench.powers", defArgs s_Bench_powers, defBody s_Bench_powers, defScope s_Bench_powers, [], []⟩
def d_Bench_gone : He.DefD := ⟨("Bench", some "gone"), "gone", "Bench.gone", defArgs s_Bench_gone, defBody s_Bench_gone, defScope s_Bench_gone, [], []⟩
def d_law_bench_right : He.DefD := ⟨("_law_bench_right", none), "_law_bench_right", "_law_bench_right", defArgs s_law_bench_right, defBody s_law_bench_right, defScope s_law_bench_right, [], []⟩
def d_law : He.DefD := ⟨("law", none), "law", "law", defArgs s_law, defBody s_law, defScope s_law, [], []⟩
def fnl_0 : List He.DefD := [d_law_pot, d_law_take, d_law_order, d_law_places, d_law_cell_at, d_law_primes, d_law_product, d_law_fraction, d_law_program, d_law_calm_program, d_law_exps, d_law_table, d_found_powers, d_is_whole, d_is_upto, d_is_fraction, d_is_program, d_Bench_init, d_law_line, d_law_bench_deed, d_law_first_of, d_law_put, d_law_gone_through, d_law_whole]
def fnl_1 : List He.DefD := [d_law_line_right, d_law_bench_due, d_law_same, d_Bench_undo, d_Bench_turn_to, d_is_name, d_is_powers, d_Bench_put, d_Bench_look_for, d_bottoms_of, d_tops_of, d_changes_of, d_Ways_init, d_Ways_first, d_Ways_last_fit, d_Ways_comes_in, d_Ways_stretch_of, d_Ways_gone, d_leapt, d_Bench_run, d_Bench_drop, d_law_kind_of, d_law_bench_told, d_Bench_names]
def fnl_2 : List He.DefD := [d_Bench_powers, d_Bench_gone, d_law_bench_right, d_law]
def fnl : List He.DefD := fnl_0 ++ fnl_1 ++ fnl_2
def fal_0 : List He.Fa := [.glo "NoProgram", .exc "NoProgram", .glo "NoDeed", .exc "NoDeed", .glo "NoName", .exc "NoName", .glo "NoPowers", .exc "NoPowers", .glo "TooMany", .exc "TooMany", .glo "FractError", .glo "NoNumber", .glo "AtRest", .glo "NoRow", .glo "NoOrder", .glo "Shared", .glo "NoTrail", .glo "NoText", .glo "Ways", .cls "Ways", .glo "Bench", .cls "Bench", .noat "Bench" "own", .noat "Bench" "kept"]
def fal_1 : List He.Fa := [.noat "Bench" "earlier", .noat "Ways" "wants", .noat "Ways" "adds", .mkr "Bench", .meth "Bench" "undo", .meth "Bench" "turn_to", .meth "Bench" "put", .meth "Bench" "look_for", .mkr "Ways", .meth "Ways" "first", .meth "Ways" "last_fit", .meth "Ways" "comes_in", .meth "Ways" "stretch_of", .meth "Ways" "gone", .meth "Bench" "run", .meth "Bench" "drop", .meth "Bench" "names", .meth "Bench" "powers", .meth "Bench" "gone", .glo "_law_pot", .glo "_law_take", .glo "_law_order", .glo "_law_places", .glo "_law_cell_at"]
def fal_2 : List He.Fa := [.glo "_law_primes", .glo "_law_product", .glo "_law_fraction", .glo "_law_program", .glo "_law_calm_program", .glo "_law_exps", .glo "_law_table", .glo "found_powers", .glo "is_whole", .glo "is_upto", .glo "is_fraction", .glo "is_program", .glo "_law_line", .glo "_law_bench_deed", .glo "_law_first_of", .glo "_law_put", .glo "_law_gone_through", .glo "_law_whole", .glo "_law_line_right", .glo "_law_bench_due", .glo "_law_same", .glo "is_name", .glo "is_powers", .glo "bottoms_of"]
def fal_3 : List He.Fa := [.glo "tops_of", .glo "changes_of", .glo "leapt", .glo "_law_kind_of", .glo "_law_bench_told", .glo "_law_bench_right", .glo "law", .free "ValueError", .free "all", .free "bool", .free "dict", .free "enumerate", .free "int", .free "isinstance", .free "len", .free "list", .free "max", .free "min", .free "range", .free "sorted", .free "str", .free "tuple", .free "zip", .int "MOST" 1000000000000]
def fal_4 : List He.Fa := [.int "MOST_FRACTIONS" 16, .int "LONGEST_NAME" 8, .int "GREATEST" 1000000, .int "MOST_NAMES" 12, .int "MOST_STRETCHES" 2000, .str "NAME_LETTERS" "abcdefghijklmnopqrstuvwxyz", .glo "PRIMES"]
def fal : List He.Fa := fal_0 ++ fal_1 ++ fal_2 ++ fal_3 ++ fal_4
def exl (K : PySem.W.Frag) : Bool := He.tupB K "PRIMES" (([2, 3, 5, 7, 11, 13, 17, 19, 23, 29] : List Int).map He.Dv.int) && tryB K [12, 16, 18, 20, 21] [11, 12, 13, 14, 15, 16, 17, 18, 19, 20, 21, 22] 10
def nm0 : List PySem.Str := ["FractError", "NoText", "NoNumber", "AtRest", "TooMany", "NoOrder", "NoProgram", "Shared", "NoPowers", "NoTrail", "NoName", "NoDeed", "NoRow", "PRIMES", "MOST", "MOST_FRACTIONS", "is_whole", "is_upto", "is_powers", "found_powers"]
def nm1 : List PySem.Str := ["is_fraction", "is_program", "tops_of", "bottoms_of", "changes_of", "MOST_STRETCHES", "Ways", "leapt", "MOST_NAMES", "LONGEST_NAME", "GREATEST", "NAME_LETTERS", "is_name", "Bench", "_law_cell_at", "_law_pot", "_law_take", "_law_order", "_law_places", "_law_primes"]
def nm2 : List PySem.Str := ["_law_product", "_law_fraction", "_law_program", "_law_calm_program", "_law_line", "_law_exps", "_law_table", "_law_whole", "_law_same", "_law_first_of", "_law_put", "_law_gone_through", "_law_line_right", "_law_bench_due", "_law_kind_of", "_law_bench_told", "_law_bench_deed", "_law_bench_right"]
def names : List PySem.Str := nm0 ++ nm1 ++ nm2
abbrev R : PySem.W.OpenRow := PySem.W.OpenLaw.row PySem.Challenge.rw_wholefract_k91_benches_and_deeds
abbrev qv : Program := PySem.W.view R.prog [63]
abbrev hk : PySem.W.Hook := hookY 5 fal fnl exl
def ob (s : PySem.W.SharedT) : He.AlD × Bool := obsY 5 fal fnl exl (HandSHeadRun.getT s)
theorem ob_eq (s : PySem.W.SharedT) : ob s = hk.obs s.abs := obsY_eq (HandSHeadRun.getT_eq s)
theorem run (w : World) : HandSHeadRun.RunEq R qv hk ob 7590 names w := by
  intro os
  kernel_rfl
theorem facts {w : World} {K : PySem.W.Frag} {h : Heap} {mg : Str → Option Value} {fa : Addr} (X : K.In h) (G : h.Ns mainGlobals mg) (c : SaysY fal fnl exl K) (hfa : mg "law" = some (.ref fa)) : ∃ fd : FuncData, (∀ (s : Shared) (u : Value), BindsTo s fd ⟨[u], []⟩ [("script", u)]) ∧
    ∀ base : Heap, FnOk PP w K mg base (L2N.CX PP w) 11 fa fd ["script"] (spF K (clK K) F_law_k91_v2 1) := by
  have cd := c.t
  have mc_NoProgram : mg "NoProgram" = some (.ref (clK K 16)) := He.glo_ok X G (cd.fact 0 rfl)
  have e_NoProgram : ExcF K mg (clK K) 16 "NoProgram" := let q := He.exc_ok (cd.fact 1 rfl); ⟨mc_NoProgram, q.1, q.2.1, q.2.2.1, q.2.2.2⟩
  have mc_NoDeed : mg "NoDeed" = some (.ref (clK K 21)) := He.glo_ok X G (cd.fact 2 rfl)
  have e_NoDeed : ExcF K mg (clK K) 21 "NoDeed" := let q := He.exc_ok (cd.fact 3 rfl); ⟨mc_NoDeed, q.1, q.2.1, q.2.2.1, q.2.2.2⟩
  have mc_NoName : mg "NoName" = some (.ref (clK K 20)) := He.glo_ok X G (cd.fact 4 rfl)
  have e_NoName : ExcF K mg (clK K) 20 "NoName" := let q := He.exc_ok (cd.fact 5 rfl); ⟨mc_NoName, q.1, q.2.1, q.2.2.1, q.2.2.2⟩
  have mc_NoPowers : mg "NoPowers" = some (.ref (clK K 18)) := He.glo_ok X G (cd.fact 6 rfl)
  have e_NoPowers : ExcF K mg (clK K) 18 "NoPowers" := let q := He.exc_ok (cd.fact 7 rfl); ⟨mc_NoPowers, q.1, q.2.1, q.2.2.1, q.2.2.2⟩
  have mc_TooMany : mg "TooMany" = some (.ref (clK K 12)) := He.glo_ok X G (cd.fact 8 rfl)
  have e_TooMany : ExcF K mg (clK K) 12 "TooMany" := let q := He.exc_ok (cd.fact 9 rfl); ⟨mc_TooMany, q.1, q.2.1, q.2.2.1, q.2.2.2⟩
  have mc_FractError : mg "FractError" = some (.ref (clK K 10)) := He.glo_ok X G (cd.fact 10 rfl)
  have mc_NoNumber : mg "NoNumber" = some (.ref (clK K 14)) := He.glo_ok X G (cd.fact 11 rfl)
  have mc_AtRest : mg "AtRest" = some (.ref (clK K 11)) := He.glo_ok X G (cd.fact 12 rfl)
  have mc_NoRow : mg "NoRow" = some (.ref (clK K 22)) := He.glo_ok X G (cd.fact 13 rfl)
  have mc_NoOrder : mg "NoOrder" = some (.ref (clK K 15)) := He.glo_ok X G (cd.fact 14 rfl)
  have mc_Shared : mg "Shared" = some (.ref (clK K 17)) := He.glo_ok X G (cd.fact 15 rfl)
  have mc_NoTrail : mg "NoTrail" = some (.ref (clK K 19)) := He.glo_ok X G (cd.fact 16 rfl)
  have mc_NoText : mg "NoText" = some (.ref (clK K 13)) := He.glo_ok X G (cd.fact 17 rfl)
  have mc_Ways : mg "Ways" = some (.ref (clK K 0)) := He.glo_ok X G (cd.fact 18 rfl)
  have c_Ways : Cls K (clK K 0) := He.cls_ok (cd.fact 19 rfl)
  have mc_Bench : mg "Bench" = some (.ref (clK K 2)) := He.glo_ok X G (cd.fact 20 rfl)
  have c_Bench : Cls K (clK K 2) := He.cls_ok (cd.fact 21 rfl)
  have n_Bench_own : NoAttr K (clK K 2) "own" := He.noat_ok (cd.fact 22 rfl)
  have n_Bench_kept : NoAttr K (clK K 2) "kept" := He.noat_ok (cd.fact 23 rfl)
  have n_Bench_earlier : NoAttr K (clK K 2) "earlier" := He.noat_ok (cd.fact 24 rfl)
  have n_Ways_wants : NoAttr K (clK K 0) "wants" := He.noat_ok (cd.fact 25 rfl)
  have n_Ways_adds : NoAttr K (clK K 0) "adds" := He.noat_ok (cd.fact 26 rfl)
  have mm_Bench_init := He.mkr_ok (cd.fact 27 rfl)
  have mm_Bench_undo := He.meth_ok (cd.fact 28 rfl)
  have mm_Bench_turn_to := He.meth_ok (cd.fact 29 rfl)
  have mm_Bench_put := He.meth_ok (cd.fact 30 rfl)
  have mm_Bench_look_for := He.meth_ok (cd.fact 31 rfl)
  have mm_Ways_init := He.mkr_ok (cd.fact 32 rfl)
  have mm_Ways_first := He.meth_ok (cd.fact 33 rfl)
  have mm_Ways_last_fit := He.meth_ok (cd.fact 34 rfl)
  have mm_Ways_comes_in := He.meth_ok (cd.fact 35 rfl)
  have mm_Ways_stretch_of := He.meth_ok (cd.fact 36 rfl)
  have mm_Ways_gone := He.meth_ok (cd.fact 37 rfl)
  have mm_Bench_run := He.meth_ok (cd.fact 38 rfl)
  have mm_Bench_drop := He.meth_ok (cd.fact 39 rfl)
  have mm_Bench_names := He.meth_ok (cd.fact 40 rfl)
  have mm_Bench_powers := He.meth_ok (cd.fact 41 rfl)
  have mm_Bench_gone := He.meth_ok (cd.fact 42 rfl)
  have z_ValueError : mg "ValueError" = none := He.free_ok X G (cd.fact 79 (f := .free "ValueError") rfl)
  have z_all : mg "all" = none := He.free_ok X G (cd.fact 80 (f := .free "all") rfl)
  have z_bool : mg "bool" = none := He.free_ok X G (cd.fact 81 (f := .free "bool") rfl)
  have z_dict : mg "dict" = none := He.free_ok X G (cd.fact 82 (f := .free "dict") rfl)
  have z_enumerate : mg "enumerate" = none := He.free_ok X G (cd.fact 83 (f := .free "enumerate") rfl)
  have z_int : mg "int" = none := He.free_ok X G (cd.fact 84 (f := .free "int") rfl)
  have z_isinstance : mg "isinstance" = none := He.free_ok X G (cd.fact 85 (f := .free "isinstance") rfl)
  have z_len : mg "len" = none := He.free_ok X G (cd.fact 86 (f := .free "len") rfl)
  have z_list : mg "list" = none := He.free_ok X G (cd.fact 87 (f := .free "list") rfl)
  have z_max : mg "max" = none := He.free_ok X G (cd.fact 88 (f := .free "max") rfl)
  have z_min : mg "min" = none := He.free_ok X G (cd.fact 89 (f := .free "min") rfl)
  have z_range : mg "range" = none := He.free_ok X G (cd.fact 90 (f := .free "range") rfl)
  have z_sorted : mg "sorted" = none := He.free_ok X G (cd.fact 91 (f := .free "sorted") rfl)
  have z_str : mg "str" = none := He.free_ok X G (cd.fact 92 (f := .free "str") rfl)
  have z_tuple : mg "tuple" = none := He.free_ok X G (cd.fact 93 (f := .free "tuple") rfl)
  have z_zip : mg "zip" = none := He.free_ok X G (cd.fact 94 (f := .free "zip") rfl)
  have h_MOST : Con K mg "MOST" t_MOST := con_int (He.int_ok X G (cd.fact 95 (f := .int "MOST" 1000000000000) rfl))
  have h_MOST_FRACTIONS : Con K mg "MOST_FRACTIONS" t_MOST_FRACTIONS := con_int (He.int_ok X G (cd.fact 96 (f := .int "MOST_FRACTIONS" 16) rfl))
  have h_LONGEST_NAME : Con K mg "LONGEST_NAME" t_LONGEST_NAME := con_int (He.int_ok X G (cd.fact 97 (f := .int "LONGEST_NAME" 8) rfl))
  have h_GREATEST : Con K mg "GREATEST" t_GREATEST := con_int (He.int_ok X G (cd.fact 98 (f := .int "GREATEST" 1000000) rfl))
  have h_MOST_NAMES : Con K mg "MOST_NAMES" t_MOST_NAMES := con_int (He.int_ok X G (cd.fact 99 (f := .int "MOST_NAMES" 12) rfl))
  have h_MOST_STRETCHES : Con K mg "MOST_STRETCHES" t_MOST_STRETCHES := con_int (He.int_ok X G (cd.fact 100 (f := .int "MOST_STRETCHES" 2000) rfl))
  have h_NAME_LETTERS : Con K mg "NAME_LETTERS" t_NAME_LETTERS := con_str (He.str_ok X G (cd.fact 101 (f := .str "NAME_LETTERS" "abcdefghijklmnopqrstuvwxyz") rfl))
  have cm : (He.tupB K "PRIMES" (([2, 3, 5, 7, 11, 13, 17, 19, 23, 29] : List Int).map He.Dv.int) && tryB K [12, 16, 18, 20, 21] [11, 12, 13, 14, 15, 16, 17, 18, 19, 20, 21, 22] 10) = true := c.more
  simp only [Bool.and_eq_true] at cm
  have h_PRIMES : Con K mg "PRIMES" t_PRIMES := con_ints (He.glo_ok X G (cd.fact 102 (f := .glo "PRIMES") rfl)) cm.1
  have tf := tryB_ok cm.2
  obtain ⟨fd_law_pot, D_law_pot⟩ := cd.def_ 0 (d := d_law_pot) rfl
  have m_law_pot := He.glo_ok X G (cd.fact 43 (f := .glo "_law_pot") rfl)
  obtain ⟨fd_law_take, D_law_take⟩ := cd.def_ 1 (d := d_law_take) rfl
  have m_law_take := He.glo_ok X G (cd.fact 44 (f := .glo "_law_take") rfl)
  obtain ⟨fd_law_order, D_law_order⟩ := cd.def_ 2 (d := d_law_order) rfl
  have m_law_order := He.glo_ok X G (cd.fact 45 (f := .glo "_law_order") rfl)
  obtain ⟨fd_law_places, D_law_places⟩ := cd.def_ 3 (d := d_law_places) rfl
  have m_law_places := He.glo_ok X G (cd.fact 46 (f := .glo "_law_places") rfl)
  obtain ⟨fd_law_cell_at, D_law_cell_at⟩ := cd.def_ 4 (d := d_law_cell_at) rfl
  have m_law_cell_at := He.glo_ok X G (cd.fact 47 (f := .glo "_law_cell_at") rfl)
  obtain ⟨fd_law_primes, D_law_primes⟩ := cd.def_ 5 (d := d_law_primes) rfl
  have m_law_primes := He.glo_ok X G (cd.fact 48 (f := .glo "_law_primes") rfl)
  obtain ⟨fd_law_product, D_law_product⟩ := cd.def_ 6 (d := d_law_product) rfl
  have m_law_product := He.glo_ok X G (cd.fact 49 (f := .glo "_law_product") rfl)
  obtain ⟨fd_law_fraction, D_law_fraction⟩ := cd.def_ 7 (d := d_law_fraction) rfl
  have m_law_fraction := He.glo_ok X G (cd.fact 50 (f := .glo "_law_fraction") rfl)
  obtain ⟨fd_law_program, D_law_program⟩ := cd.def_ 8 (d := d_law_program) rfl
  have m_law_program := He.glo_ok X G (cd.fact 51 (f := .glo "_law_program") rfl)
  obtain ⟨fd_law_calm_program, D_law_calm_program⟩ := cd.def_ 9 (d := d_law_calm_program) rfl
  have m_law_calm_program := He.glo_ok X G (cd.fact 52 (f := .glo "_law_calm_program") rfl)
  obtain ⟨fd_law_exps, D_law_exps⟩ := cd.def_ 10 (d := d_law_exps) rfl
  have m_law_exps := He.glo_ok X G (cd.fact 53 (f := .glo "_law_exps") rfl)
  obtain ⟨fd_law_table, D_law_table⟩ := cd.def_ 11 (d := d_law_table) rfl
  have m_law_table := He.glo_ok X G (cd.fact 54 (f := .glo "_law_table") rfl)
  obtain ⟨fd_found_powers, D_found_powers⟩ := cd.def_ 12 (d := d_found_powers) rfl
  have m_found_powers := He.glo_ok X G (cd.fact 55 (f := .glo "found_powers") rfl)
  obtain ⟨fd_is_whole, D_is_whole⟩ := cd.def_ 13 (d := d_is_whole) rfl
  have m_is_whole := He.glo_ok X G (cd.fact 56 (f := .glo "is_whole") rfl)
  obtain ⟨fd_is_upto, D_is_upto⟩ := cd.def_ 14 (d := d_is_upto) rfl
  have m_is_upto := He.glo_ok X G (cd.fact 57 (f := .glo "is_upto") rfl)
  obtain ⟨fd_is_fraction, D_is_fraction⟩ := cd.def_ 15 (d := d_is_fraction) rfl
  have m_is_fraction := He.glo_ok X G (cd.fact 58 (f := .glo "is_fraction") rfl)
  obtain ⟨fd_is_program, D_is_program⟩ := cd.def_ 16 (d := d_is_program) rfl
  have m_is_program := He.glo_ok X G (cd.fact 59 (f := .glo "is_program") rfl)
  obtain ⟨fd_Bench_init, D_Bench_init⟩ := cd.def_ 17 (d := d_Bench_init) rfl
  obtain ⟨fd_law_line, D_law_line⟩ := cd.def_ 18 (d := d_law_line) rfl
  have m_law_line := He.glo_ok X G (cd.fact 60 (f := .glo "_law_line") rfl)
  obtain ⟨fd_law_bench_deed, D_law_bench_deed⟩ := cd.def_ 19 (d := d_law_bench_deed) rfl
  have m_law_bench_deed := He.glo_ok X G (cd.fact 61 (f := .glo "_law_bench_deed") rfl)
  obtain ⟨fd_law_first_of, D_law_first_of⟩ := cd.def_ 20 (d := d_law_first_of) rfl
  have m_law_first_of := He.glo_ok X G (cd.fact 62 (f := .glo "_law_first_of") rfl)
  obtain ⟨fd_law_put, D_law_put⟩ := cd.def_ 21 (d := d_law_put) rfl
  have m_law_put := He.glo_ok X G (cd.fact 63 (f := .glo "_law_put") rfl)
  obtain ⟨fd_law_gone_through, D_law_gone_through⟩ := cd.def_ 22 (d := d_law_gone_through) rfl
  have m_law_gone_through := He.glo_ok X G (cd.fact 64 (f := .glo "_law_gone_through") rfl)
  obtain ⟨fd_law_whole, D_law_whole⟩ := cd.def_ 23 (d := d_law_whole) rfl
  have m_law_whole := He.glo_ok X G (cd.fact 65 (f := .glo "_law_whole") rfl)
  obtain ⟨fd_law_line_right, D_law_line_right⟩ := cd.def_ 24 (d := d_law_line_right) rfl
  have m_law_line_right := He.glo_ok X G (cd.fact 66 (f := .glo "_law_line_right") rfl)
  obtain ⟨fd_law_bench_due, D_law_bench_due⟩ := cd.def_ 25 (d := d_law_bench_due) rfl
  have m_law_bench_due := He.glo_ok X G (cd.fact 67 (f := .glo "_law_bench_due") rfl)
  obtain ⟨fd_law_same, D_law_same⟩ := cd.def_ 26 (d := d_law_same) rfl
  have m_law_same := He.glo_ok X G (cd.fact 68 (f := .glo "_law_same") rfl)
  obtain ⟨fd_Bench_undo, D_Bench_undo⟩ := cd.def_ 27 (d := d_Bench_undo) rfl
  obtain ⟨fd_Bench_turn_to, D_Bench_turn_to⟩ := cd.def_ 28 (d := d_Bench_turn_to) rfl
  obtain ⟨fd_is_name, D_is_name⟩ := cd.def_ 29 (d := d_is_name) rfl
  have m_is_name := He.glo_ok X G (cd.fact 69 (f := .glo "is_name") rfl)
  obtain ⟨fd_is_powers, D_is_powers⟩ := cd.def_ 30 (d := d_is_powers) rfl
  have m_is_powers := He.glo_ok X G (cd.fact 70 (f := .glo "is_powers") rfl)
  obtain ⟨fd_Bench_put, D_Bench_put⟩ := cd.def_ 31 (d := d_Bench_put) rfl
  obtain ⟨fd_Bench_look_for, D_Bench_look_for⟩ := cd.def_ 32 (d := d_Bench_look_for) rfl
  obtain ⟨fd_bottoms_of, D_bottoms_of⟩ := cd.def_ 33 (d := d_bottoms_of) rfl
  have m_bottoms_of := He.glo_ok X G (cd.fact 71 (f := .glo "bottoms_of") rfl)
  obtain ⟨fd_tops_of, D_tops_of⟩ := cd.def_ 34 (d := d_tops_of) rfl
  have m_tops_of := He.glo_ok X G (cd.fact 72 (f := .glo "tops_of") rfl)
  obtain ⟨fd_changes_of, D_changes_of⟩ := cd.def_ 35 (d := d_changes_of) rfl
  have m_changes_of := He.glo_ok X G (cd.fact 73 (f := .glo "changes_of") rfl)
  obtain ⟨fd_Ways_init, D_Ways_init⟩ := cd.def_ 36 (d := d_Ways_init) rfl
  obtain ⟨fd_Ways_first, D_Ways_first⟩ := cd.def_ 37 (d := d_Ways_first) rfl
  obtain ⟨fd_Ways_last_fit, D_Ways_last_fit⟩ := cd.def_ 38 (d := d_Ways_last_fit) rfl
  obtain ⟨fd_Ways_comes_in, D_Ways_comes_in⟩ := cd.def_ 39 (d := d_Ways_comes_in) rfl
  obtain ⟨fd_Ways_stretch_of, D_Ways_stretch_of⟩ := cd.def_ 40 (d := d_Ways_stretch_of) rfl
  obtain ⟨fd_Ways_gone, D_Ways_gone⟩ := cd.def_ 41 (d := d_Ways_gone) rfl
  obtain ⟨fd_leapt, D_leapt⟩ := cd.def_ 42 (d := d_leapt) rfl
  have m_leapt := He.glo_ok X G (cd.fact 74 (f := .glo "leapt") rfl)
  obtain ⟨fd_Bench_run, D_Bench_run⟩ := cd.def_ 43 (d := d_Bench_run) rfl
  obtain ⟨fd_Bench_drop, D_Bench_drop⟩ := cd.def_ 44 (d := d_Bench_drop) rfl
  obtain ⟨fd_law_kind_of, D_law_kind_of⟩ := cd.def_ 45 (d := d_law_kind_of) rfl
  have m_law_kind_of := He.glo_ok X G (cd.fact 75 (f := .glo "_law_kind_of") rfl)
  obtain ⟨fd_law_bench_told, D_law_bench_told⟩ := cd.def_ 46 (d := d_law_bench_told) rfl
  have m_law_bench_told := He.glo_ok X G (cd.fact 76 (f := .glo "_law_bench_told") rfl)
  obtain ⟨fd_Bench_names, D_Bench_names⟩ := cd.def_ 47 (d := d_Bench_names) rfl
  obtain ⟨fd_Bench_powers, D_Bench_powers⟩ := cd.def_ 48 (d := d_Bench_powers) rfl
  obtain ⟨fd_Bench_gone, D_Bench_gone⟩ := cd.def_ 49 (d := d_Bench_gone) rfl
  obtain ⟨fd_law_bench_right, D_law_bench_right⟩ := cd.def_ 50 (d := d_law_bench_right) rfl
  have m_law_bench_right := He.glo_ok X G (cd.fact 77 (f := .glo "_law_bench_right") rfl)
  obtain ⟨fd_law, D_law⟩ := cd.def_ 51 (d := d_law) rfl
  have m_law := He.glo_ok X G (cd.fact 78 (f := .glo "law") rfl)
  have e := hfa.symm.trans m_law
  cases e
  refine ⟨fd_law, fun s u => FunD.bindsA (ps := ["script"]) D_law (fun _ _ _ _ _ _ us hl => match us, hl with | [_], _ => rfl) s [u] rfl, fun base => ?_⟩
  have g_law_pot := ok_law_pot (w := w) (base := base) (cl := clK K) D_law_pot m_law_pot z_range
  have g_law_take := ok_law_take (w := w) (base := base) (cl := clK K) D_law_take m_law_take 
  have g_law_order := ok_law_order (w := w) (base := base) (cl := clK K) D_law_order m_law_order g_law_take z_range z_tuple
  have g_law_places := ok_law_places (w := w) (base := base) (cl := clK K) D_law_places m_law_places g_law_take g_law_order z_range z_tuple
  have g_law_cell_at := ok_law_cell_at (w := w) (base := base) (cl := clK K) D_law_cell_at m_law_cell_at z_len
  have g_law_primes := ok_law_primes (w := w) (base := base) (cl := clK K) D_law_primes m_law_primes 
  have g_law_product := ok_law_product (w := w) (base := base) (cl := clK K) D_law_product m_law_product g_law_primes z_range z_zip
  have g_law_fraction := ok_law_fraction (w := w) (base := base) (cl := clK K) D_law_fraction m_law_fraction g_law_take g_law_product z_len z_max z_range z_tuple
  have g_law_program := ok_law_program (w := w) (base := base) (cl := clK K) D_law_program m_law_program g_law_fraction g_law_take z_range z_tuple
  have g_law_calm_program := ok_law_calm_program (w := w) (base := base) (cl := clK K) D_law_calm_program m_law_calm_program g_law_program g_law_take g_law_product z_len z_min z_range z_tuple z_zip
  have g_law_exps := ok_law_exps (w := w) (base := base) (cl := clK K) D_law_exps m_law_exps g_law_primes z_tuple
  have g_law_table := ok_law_table (w := w) (base := base) (cl := clK K) D_law_table m_law_table g_law_exps z_tuple z_zip
  have g_found_powers := ok_found_powers (w := w) (base := base) (cl := clK K) D_found_powers m_found_powers z_tuple h_PRIMES
  have g_is_whole := ok_is_whole (w := w) (base := base) (cl := clK K) D_is_whole m_is_whole z_bool z_int z_isinstance
  have g_is_upto := ok_is_upto (w := w) (base := base) (cl := clK K) D_is_upto m_is_upto g_is_whole
  have g_is_fraction := ok_is_fraction (w := w) (base := base) (cl := clK K) D_is_fraction m_is_fraction g_found_powers g_is_upto z_all z_isinstance z_len z_tuple z_zip h_MOST
  have g_is_program := ok_is_program (w := w) (base := base) (cl := clK K) D_is_program m_is_program g_is_fraction z_all z_isinstance z_len z_tuple h_MOST_FRACTIONS
  have g_Bench_init := ok_Bench_init (w := w) (mg := mg) (base := base) (cl := clK K) D_Bench_init mm_Bench_init mc_Bench g_is_program e_NoProgram c_Bench n_Bench_own n_Bench_kept n_Bench_earlier
  have g_law_line := ok_law_line (w := w) (base := base) (cl := clK K) D_law_line m_law_line g_law_take z_tuple
  have g_law_bench_deed := ok_law_bench_deed (w := w) (base := base) (cl := clK K) D_law_bench_deed m_law_bench_deed g_law_take g_law_line z_len z_list z_sorted
  have g_law_first_of := ok_law_first_of (w := w) (base := base) (cl := clK K) D_law_first_of m_law_first_of z_enumerate z_min z_zip
  have g_law_put := ok_law_put (w := w) (base := base) (cl := clK K) D_law_put m_law_put z_tuple z_zip
  have g_law_gone_through := ok_law_gone_through (w := w) (base := base) (cl := clK K) D_law_gone_through m_law_gone_through g_law_first_of g_law_put z_len
  have g_law_whole := ok_law_whole (w := w) (base := base) (cl := clK K) D_law_whole m_law_whole z_bool z_int z_isinstance
  have g_law_line_right := ok_law_line_right (w := w) (base := base) (cl := clK K) D_law_line_right m_law_line_right g_law_whole z_all z_isinstance z_len z_tuple
  have g_law_bench_due := ok_law_bench_due (w := w) (base := base) (cl := clK K) D_law_bench_due m_law_bench_due g_law_gone_through g_law_line_right z_all z_dict z_isinstance z_len z_str
  have g_law_same := ok_law_same (w := w) (base := base) (cl := clK K) D_law_same m_law_same g_law_whole z_all z_bool z_int z_isinstance z_len z_list z_str z_tuple z_zip 8
  have g_Bench_undo := ok_Bench_undo (w := w) (mg := mg) (base := base) (cl := clK K) D_Bench_undo mm_Bench_undo c_Bench e_NoDeed c_Bench n_Bench_earlier n_Bench_kept
  have g_Bench_turn_to := ok_Bench_turn_to (w := w) (mg := mg) (base := base) (cl := clK K) D_Bench_turn_to mm_Bench_turn_to c_Bench c_Bench n_Bench_earlier n_Bench_kept
  have g_is_name := ok_is_name (w := w) (base := base) (cl := clK K) D_is_name m_is_name z_all z_isinstance z_len z_str h_LONGEST_NAME h_NAME_LETTERS
  have g_is_powers := ok_is_powers (w := w) (base := base) (cl := clK K) D_is_powers m_is_powers g_is_whole z_all z_isinstance z_len z_tuple h_PRIMES
  have g_Bench_put := ok_Bench_put (w := w) (mg := mg) (base := base) (cl := clK K) D_Bench_put mm_Bench_put c_Bench g_Bench_turn_to g_is_name g_is_powers e_NoName e_NoPowers e_TooMany c_Bench n_Bench_kept z_dict z_len z_max h_GREATEST h_MOST_NAMES
  have g_Bench_look_for := ok_Bench_look_for (w := w) (mg := mg) (base := base) (cl := clK K) D_Bench_look_for mm_Bench_look_for c_Bench g_is_name e_NoName c_Bench n_Bench_kept
  have g_bottoms_of := ok_bottoms_of (w := w) (base := base) (cl := clK K) D_bottoms_of m_bottoms_of g_found_powers
  have g_tops_of := ok_tops_of (w := w) (base := base) (cl := clK K) D_tops_of m_tops_of g_found_powers
  have g_changes_of := ok_changes_of (w := w) (base := base) (cl := clK K) D_changes_of m_changes_of g_tops_of g_bottoms_of z_tuple z_zip
  have g_Ways_init := ok_Ways_init (w := w) (mg := mg) (base := base) (cl := clK K) D_Ways_init mm_Ways_init mc_Ways g_bottoms_of g_changes_of c_Ways n_Ways_wants n_Ways_adds
  have g_Ways_first := ok_Ways_first (w := w) (mg := mg) (base := base) (cl := clK K) D_Ways_first mm_Ways_first c_Ways c_Ways n_Ways_wants z_all z_enumerate z_zip
  have g_Ways_last_fit := ok_Ways_last_fit (w := w) (mg := mg) (base := base) (cl := clK K) D_Ways_last_fit mm_Ways_last_fit c_Ways c_Ways n_Ways_adds n_Ways_wants z_zip
  have g_Ways_comes_in := ok_Ways_comes_in (w := w) (mg := mg) (base := base) (cl := clK K) D_Ways_comes_in mm_Ways_comes_in c_Ways c_Ways n_Ways_adds n_Ways_wants z_max z_zip
  have g_Ways_stretch_of := ok_Ways_stretch_of (w := w) (mg := mg) (base := base) (cl := clK K) D_Ways_stretch_of mm_Ways_stretch_of c_Ways g_Ways_last_fit g_Ways_comes_in z_range
  have g_Ways_gone := ok_Ways_gone (w := w) (mg := mg) (base := base) (cl := clK K) D_Ways_gone mm_Ways_gone c_Ways c_Ways n_Ways_adds z_tuple z_zip
  have g_leapt := ok_leapt (w := w) (base := base) (cl := clK K) D_leapt m_leapt g_Ways_init g_Ways_first g_Ways_stretch_of g_Ways_gone e_TooMany h_MOST_STRETCHES
  have g_Bench_run := ok_Bench_run (w := w) (mg := mg) (base := base) (cl := clK K) D_Bench_run mm_Bench_run c_Bench g_Bench_look_for g_leapt g_Bench_turn_to c_Bench n_Bench_kept n_Bench_own z_dict
  have g_Bench_drop := ok_Bench_drop (w := w) (mg := mg) (base := base) (cl := clK K) D_Bench_drop mm_Bench_drop c_Bench g_Bench_look_for g_Bench_turn_to c_Bench n_Bench_kept z_dict
  have gx_law_kind_of := okx_law_kind_of (w := w) (base := base) (cl := clK K) D_law_kind_of m_law_kind_of tf mc_NoNumber mc_NoName mc_NoDeed mc_AtRest mc_NoRow mc_NoProgram mc_NoPowers mc_NoOrder mc_TooMany mc_Shared mc_NoTrail mc_NoText z_ValueError z_isinstance
  have g_law_bench_told := ok_law_bench_told (w := w) (base := base) (cl := clK K) D_law_bench_told m_law_bench_told g_Bench_undo g_Bench_put g_Bench_run g_Bench_drop gx_law_kind_of tf mc_FractError
  have g_Bench_names := ok_Bench_names (w := w) (mg := mg) (base := base) (cl := clK K) D_Bench_names mm_Bench_names c_Bench c_Bench n_Bench_kept z_sorted
  have g_Bench_powers := ok_Bench_powers (w := w) (mg := mg) (base := base) (cl := clK K) D_Bench_powers mm_Bench_powers c_Bench g_Bench_look_for c_Bench n_Bench_kept
  have g_Bench_gone := ok_Bench_gone (w := w) (mg := mg) (base := base) (cl := clK K) D_Bench_gone mm_Bench_gone c_Bench g_Bench_look_for c_Bench n_Bench_kept
  have g_law_bench_right := ok_law_bench_right (w := w) (base := base) (cl := clK K) D_law_bench_right m_law_bench_right g_Bench_names g_law_same g_Bench_powers g_Bench_gone z_sorted
  exact ok_law (w := w) (base := base) (cl := clK K) D_law m_law g_law_pot g_law_places g_law_cell_at g_law_calm_program g_law_table g_Bench_init g_law_bench_deed g_law_bench_due g_law_same g_law_take g_law_bench_told g_law_bench_right z_int z_isinstance z_len z_max z_min z_range z_str
theorem walk (hL : ∀ ns : List Int, ns.length ≤ 63 → ∃ h', F_law_k91_v2 [.scr ns] [] = .ok (.bl true) h') : PySem.Challenge.rw_wholefract_k91_benches_and_deeds.Holds := by
  w_on; o_law
  refine HandSHeadRun.head_any (r := R) (q := qv) (H := hk) (ob := ob) (M := 7590) (loose := names) (kwd := []) ob_eq (by kernel_rfl) (fun s => by kernel_rfl) run (by rfl) (by rfl) (by rfl) (by rfl) (by first | assumption | decide +kernel) (by decide +kernel) ⟨rfl, rfl, rfl, rfl, rfl, by decide +kernel⟩ ?hw ?hc
  case hw => w_witness2
  case hc =>
    refine walk_ofW (l := PySem.Challenge.rw_wholefract_k91_benches_and_deeds) (n := 63) (k := 11) (x := "script") (F := F_law_k91_v2) rfl (by decide) rfl ⟨rfl, by decide, by decide⟩ (fun w mg fa h Y G e => ?_) hL
    obtain ⟨K, KX, c⟩ := Y
    have ⟨fd, hb, ok⟩ := facts (w := w) KX G c e
    exact ⟨K, _, fd, KX, hb, fun base _ _ => ok base⟩
end K91
end
namespace Gd
open PySem PySem.Spec PyProof.Rows L2 Sm
theorem take_eq {h : Store} {n : Nat} {v far : Int} (p : potAt h n v) (f0 : 0 < far) (f1 : far < 2 ^ 64) : F_law_take [.loc n, .int far] h = .ok (.int (v % far)) (pst h n (v / far)) := by
  refine Out.wp_eq' (fn_wp rfl ?_)
  show (b_law_take [some (.loc n), some (.int far), none] h).wp _
  have d0 : far ≠ 0 := by omega
  have d1 : divB far = true := divB_s d0 (by omega)
  simp [b_law_take, q3_idxC p.1, d0, d1, fmod_p (Int.le_of_lt f0), fdiv_p (Int.le_of_lt f0), setP p, fnP]
theorem take_1 {h : Store} {n : Nat} {v far : Int} (hn : n < h.length) (hv : 0 ≤ v) (f0 : 0 < far) (f1 : far < 2 ^ 64) : F_law_take [.loc n, .int far] (pst h n v) = .ok (.int (v % far)) (pst h n (v / far)) := by
  rw [take_eq (potAt.old hn hv) f0 f1, pst_pst]
theorem take_2 {h l : Store} {n : Nat} {v far : Int} (hn : n < h.length) (hv : 0 ≤ v) (f0 : 0 < far) (f1 : far < 2 ^ 64) : F_law_take [.loc n, .int far] (pst h n v ++ l) = .ok (.int (v % far)) (pst h n (v / far) ++ l) := by
  rw [take_eq ((potAt.old hn hv).app l) f0 f1, pst_app2 hn]
theorem cell_eq {h : Store} {ns : List Int} {k : Int} (h0 : 0 ≤ k) : ∃ v : Int, F_law_cell_at [.scr ns, .int k] h = .ok (.int v) h := by
  by_cases hk : k < ns.length
  · have hk' : k.toNat < ns.length := by omega
    refine ⟨ns[k.toNat], Out.wp_eq' (fn_wp rfl ?_)⟩
    show (b_law_cell_at [some (.scr ns), some (.int k)] h).wp _
    simp [b_law_cell_at, hk, hk', atI_p h0, fnP]
  · refine ⟨0, Out.wp_eq' (fn_wp rfl ?_)⟩
    show (b_law_cell_at [some (.scr ns), some (.int k)] h).wp _
    simp [b_law_cell_at, hk, fnP]
theorem pot_wp {h : Store} {c : Int} : (F_law_pot [.int c] h).wp (fun t h' => t = .loc h.length ∧ ∃ v, 0 ≤ v ∧ h' = h ++ [.lst [.int v]]) (fun _ _ => False) := by
  refine fnK_wp rfl ?_
  show (b_law_pot [some (.int c), none, none, none] h).wp _
  by_cases hc : 1000000000000000000 ≤ c
  · simp [b_law_pot, fPow, hc, fnK]
  · simp (disch := first | omega | simp) [b_law_pot, fPow, hc, fnK, sFor, asR1_ok, so_seq]
    refine forLoop_wp _ (fun _ env h' => h' = h ∧ ∃ v : Int, 0 ≤ v ∧ env = [some (.int c), some (.int v), none, none]) ?_ ?_ ⟨rfl, 0, by decide, rfl⟩
    · rintro i x env h' hx ⟨rfl, v, hv, rfl⟩
      obtain ⟨rfl, hi⟩ := range_at hx
      refine ⟨by simp, _, b_one, ?_⟩
      simp (disch := first | omega | simp) [mulB_r, fmod_p]
      omega
    · rintro env h' ⟨rfl, v, hv, rfl⟩
      simp
      exact hv
theorem pot_ok {h : Store} {c : Int} {Q : T → Store → Prop} {X : Ex → Store → Prop} (q : ∀ v, 0 ≤ v → Q (.loc h.length) (h ++ [.lst [.int v]])) : (F_law_pot [.int c] h).wp Q X :=
  Out.wp_mono pot_wp (fun _ _ ⟨e, v, hv, e2⟩ => by rw [e, e2]; exact q v hv) fun _ _ z => z.elim
end Gd
namespace Gd
open PySem PySem.Spec PyProof.Rows L2 Sm
def isRow (many size : Int) (r : T) : Prop :=
  (∃ c t, 0 ≤ c ∧ c < many ∧ 0 ≤ t ∧ t ≤ size ∧ r = .tup [.str "add", .int c, .int t]) ∨ ∃ c t u, 0 ≤ c ∧ c < many ∧ 0 ≤ t ∧ t ≤ size ∧ 0 ≤ u ∧ u ≤ size ∧ r = .tup [.str "take", .int c, .int t, .int u]
theorem isRow.pu {many size : Int} {r : T} (h : isRow many size r) : r.pu = true := by
  obtain ⟨c, t, _, _, _, _, rfl⟩ | ⟨c, t, u, _, _, _, _, _, _, rfl⟩ := h <;> simp
end Gd
namespace Gd
open PySem PySem.Spec PyProof.Rows L2 Sm
def sameOk : Nat → T → Prop
  | 0, _ => False
  | _ + 1, .non => True
  | _ + 1, .bl _ => True
  | _ + 1, .int _ => True
  | _ + 1, .str _ => True
  | n + 1, .tup xs => xs.length ≤ 10000 ∧ ∀ x ∈ xs, sameOk n x
  | n + 1, .lst xs => xs.length ≤ 10000 ∧ ∀ x ∈ xs, sameOk n x
  | _ + 1, _ => False
theorem whole_eq {h : Store} {i : Int} : F_law_whole [.int i] h = .ok (.bl true) h := by
  refine Out.wp_eq' (fn_wp rfl ?_)
  show (b_law_whole [some (.int i)] h).wp _
  simp [b_law_whole, fnP]
theorem same_eq : ∀ {n : Nat} {t : T} {h : Store}, sameOk n t → F_law_same n [t, t] h = .ok (.bl true) h := by
  intro n
  induction n with
  | zero => exact fun z => z.elim
  | succ n ih =>
    intro t h ok
    refine Out.wp_eq' (fn_wp rfl ?_)
    show (b_law_same (F_law_same n) [some t, some t, none, none] h).wp _
    cases t with
    | non => simp [b_law_same, fnP]
    | bl b => simp [b_law_same, fnP, truF]
    | int i => simp [b_law_same, fnP, truF, whole_eq]
    | str z => simp [b_law_same, fnP, truF]
    | tup xs =>
      obtain ⟨hl, hx⟩ := ok
      have e := compLoop_pure (gs := []) (tg := .tup [2, 3]) (tt := mYes) (me := mCall (F_law_same n) (mCons (mVar 2) (mCons (mVar 3) mNil))) (env := [some (.tup xs), some (.tup xs), none, none]) (h := h) (xs.map fun a => pairT a a) (fun _ => true) (fun _ => .bl true) (by simp) (by simp; omega) fun p hp => by
        obtain ⟨x, hx2, rfl⟩ := List.mem_map.mp hp
        exact ⟨_, b_tup, rfl, fun _ => by simp [setT, ih (hx x hx2)]⟩
      simp [b_law_same, fnP, truF, mComp, mZip, seqK, gdOf, e]
      rw [all_map]
      simp
    | lst xs =>
      obtain ⟨hl, hx⟩ := ok
      have e := compLoop_pure (gs := []) (tg := .tup [2, 3]) (tt := mYes) (me := mCall (F_law_same n) (mCons (mVar 2) (mCons (mVar 3) mNil))) (env := [some (.lst xs), some (.lst xs), none, none]) (h := h) (xs.map fun a => pairT a a) (fun _ => true) (fun _ => .bl true) (by simp) (by simp; omega) fun p hp => by
        obtain ⟨x, hx2, rfl⟩ := List.mem_map.mp hp
        exact ⟨_, b_tup, rfl, fun _ => by simp [setT, ih (hx x hx2)]⟩
      simp [b_law_same, fnP, truF, mComp, mZip, seqK, gdOf, e]
      rw [all_map]
      simp
    | loc m => exact ok.elim
    | scr ns => exact ok.elim
    | emp => exact ok.elim
    | adr a d f ts => exact ok.elim
    | fnc fx => exact ok.elim
    | dct _ _ => exact ok.elim
end Gd
namespace Gd
open PySem PySem.Spec PyProof.Rows L2 Sm
section
variable {h h1 : Store} {env : Env'} {a d : Addr} {e : Ex} {m : M T} {b : Bool}
theorem isX_ok {env : Env'} {i : Nat} (hm : env[i]? = some (some (exT a d e))) : mIsX (exT a d e) b (mVar i) env h = .ok (.bl b) h := by
  unfold mIsX
  rw [q1_var, hm]
  simp
theorem find_bl {bs : List Bool} : (bs.map T.bl).findIdx? (fun z => eqT z (.bl true)) = bs.findIdx? id := by
  rw [List.findIdx?_map]
  congr 1
  funext x
  cases x <;> rfl
end
end Gd
namespace Gd
open PySem PySem.Spec PyProof.Rows L2 Sm
def strip (p n : Nat) : Nat × Nat := if h : 1 < p ∧ 0 < n ∧ n % p = 0 then ((strip p (n / p)).1 + 1, (strip p (n / p)).2) else (0, n)
termination_by n
decreasing_by all_goals exact Nat.div_lt_self h.2.1 h.1
def stripAll : List Nat → Nat → List Nat × Nat
  | [], n => ([], n)
  | p :: ps, n => ((strip p n).1 :: (stripAll ps (strip p n).2).1, (stripAll ps (strip p n).2).2)
def PR : List Nat := [2, 3, 5, 7, 11, 13, 17, 19, 23, 29]
def tN (n : Nat) : T := .int (n : Int)
theorem strip_yes {p n : Nat} (h1 : 1 < p) (h2 : 0 < n) (h3 : n % p = 0) : strip p n = ((strip p (n / p)).1 + 1, (strip p (n / p)).2) := by rw [strip, dif_pos ⟨h1, h2, h3⟩]
theorem strip_no {p n : Nat} (h3 : n % p ≠ 0) : strip p n = (0, n) := by rw [strip, dif_neg fun z => h3 z.2.2]
theorem strip_pos {p : Nat} (h1 : 1 < p) : ∀ (n : Nat), 0 < n → 0 < (strip p n).2 := by
  intro n
  induction n using Nat.strongRecOn with
  | ind n ih =>
    intro h
    by_cases h3 : n % p = 0
    · rw [strip_yes h1 h h3]
      exact ih _ (Nat.div_lt_self h h1) (Nat.div_pos (Nat.le_of_dvd h (Nat.dvd_of_mod_eq_zero h3)) (by omega))
    · rw [strip_no h3]
      exact h
theorem strip_mul {p : Nat} (h1 : 1 < p) : ∀ (n : Nat), 0 < n → n = p ^ (strip p n).1 * (strip p n).2 := by
  intro n
  induction n using Nat.strongRecOn with
  | ind n ih =>
    intro h
    by_cases h3 : n % p = 0
    · have hd := Nat.dvd_of_mod_eq_zero h3
      have e := ih _ (Nat.div_lt_self h h1) (Nat.div_pos (Nat.le_of_dvd h hd) (by omega))
      rw [strip_yes h1 h h3]
      show n = p ^ ((strip p (n / p)).1 + 1) * (strip p (n / p)).2
      rw [Nat.pow_succ, Nat.mul_comm (p ^ _) p, Nat.mul_assoc, ← e]
      exact (Nat.mul_div_cancel' hd).symm
    · rw [strip_no h3]
      simp
noncomputable def stripBody : MS := (sSeq (sSet 2 (mC (.int 0)))
  (sSeq (sWhile (mTst (mBin fEq (mBin fMod (mVar 0) (mVar 3)) (mC (.int 0)))) []
  (sSeq (sSet 0 (mBin fFdiv (mVar 0) (mVar 3)))
  (sSet 2 (mBin fAdd (mVar 2) (mC (.int 1))))))
  (sExp (mMethL fAppend (mVar 1) (mCons (mVar 2) mNil)))))
theorem strip_step {n p m : Nat} {h : Store} {acc : List T} {o : Option T} {P : Pst} (n0 : 0 < n) (p1 : 1 < p) (p2 : p < 2 ^ 64) (hm : h.length = m) (ha : acc.length < 1000)
    (q : P.nx [some (tN (strip p n).2), some (.loc m), some (tN (strip p n).1), some (tN p)] (h ++ [.lst (acc ++ [tN (strip p n).1])])) : (stripBody [some (tN n), some (.loc m), o, some (tN p)] (h ++ [.lst acc])).wp P := by
  simp only [stripBody, q2_seq, q2_set, q1_C, bindE_ok, seq_nx, List.set_cons_succ, List.set_cons_zero, so_seq, sWhile, drop_nil, tN]
  refine whileL_wp (fun k env h' => ∃ (k1 e : Nat), k1 = k ∧ 0 < k1 ∧ h' = h ++ [.lst acc] ∧ env = [some (.int (k1 : Int)), some (.loc m), some (.int (e : Int)), some (.int (p : Int))] ∧ e + (strip p k1).1 = (strip p n).1 ∧ (strip p k1).2 = (strip p n).2) ?_ n ⟨n, 0, rfl, n0, rfl, rfl, Nat.zero_add _, rfl⟩
  rintro k env h' ⟨k1, e, rfl, k0, rfl, rfl, e1, e2⟩
  have pn : ¬ p = 0 := by omega
  have dv : divB (p : Int) = true := divB_s (by omega) (by omega)
  obtain ⟨r, hr⟩ : ∃ r, r = k1 % p := ⟨_, rfl⟩
  obtain ⟨d, hd⟩ : ∃ d, d = k1 / p := ⟨_, rfl⟩
  have em : ((k1 : Int).fmod (p : Int)) = (r : Int) := by rw [fmod_p (by omega), hr]; rfl
  have ed : ((k1 : Int).fdiv (p : Int)) = (d : Int) := by rw [fdiv_p (by omega), hd]; rfl
  by_cases hz : r = 0
  · simp [em, ed, hz, pn, dv]
    have hz' : k1 % p = 0 := by rw [← hr]; exact hz
    rw [strip_yes p1 k0 hz', ← hd] at e1 e2
    exact ⟨d, by rw [hd]; exact Nat.div_lt_self k0 p1, by rw [hd]; exact Nat.div_pos (Nat.le_of_dvd k0 (Nat.dvd_of_mod_eq_zero hz')) (by omega), e + 1, ⟨rfl, rfl⟩, by simp at e1; omega, e2⟩
  · have hz' : k1 % p ≠ 0 := by rw [← hr]; exact hz
    rw [strip_no hz'] at e1 e2
    simp [em, hz, pn, at_end hm]
    simp at e1 e2
    rw [e_append hm (by omega) rfl, e1, e2]
    exact q
theorem stripAll_len : ∀ (ps : List Nat) (n : Nat), (stripAll ps n).1.length = ps.length
  | [], _ => rfl
  | p :: ps, n => by simp [stripAll, stripAll_len ps]
theorem strip_loop {n m : Nat} {h : Store} {P : Pst} {ps : List Nat} (n0 : 0 < n) (hp : ∀ p ∈ ps, 1 < p ∧ p < 2 ^ 64) (hl : ps.length < 1000) (hm : h.length = m)
    (q : 0 < (stripAll ps n).2 → P.nx [some (tN (stripAll ps n).2), some (.loc m), none, none] (h ++ [.lst ((stripAll ps n).1.map tN)])) :
    (forLoop [] (.one 3) [2, 3] stripBody (ps.map tN) [some (tN n), some (.loc m), none, none] (h ++ [.lst []])).wp P := by
  refine forLoop_wp _ (fun i env h' => ∃ (k : Nat) (es : List Nat), 0 < k ∧ i ≤ ps.length ∧ es.length = i ∧ env = [some (tN k), some (.loc m), none, none] ∧ h' = h ++ [.lst (es.map tN)] ∧ es ++ (stripAll (ps.drop i) k).1 = (stripAll ps n).1 ∧ (stripAll (ps.drop i) k).2 = (stripAll ps n).2) ?_ ?_ ⟨n, [], n0, Nat.zero_le _, rfl, rfl, rfl, rfl, rfl⟩
  · rintro i x env h' hx ⟨k, es, k0, hi, hes, rfl, rfl, e1, e2⟩
    rw [List.getElem?_map, Option.map_eq_some_iff] at hx
    obtain ⟨p, hpi, rfl⟩ := hx
    have il : i < ps.length := (List.getElem?_eq_some_iff.mp hpi).1
    obtain ⟨p1, p2⟩ := hp p (List.mem_of_getElem? hpi)
    refine ⟨by simp, _, b_one, ?_⟩
    have dr : ps.drop i = p :: ps.drop (i + 1) := by rw [List.drop_eq_getElem_cons il]; congr 1; exact (List.getElem?_eq_some_iff.mp hpi).2
    rw [dr] at e1 e2
    simp only [stripAll] at e1 e2
    show (stripBody [some (tN k), some (.loc m), none, some (tN p)] _).wp _
    refine strip_step k0 p1 p2 hm (by rw [List.length_map]; omega) ?_
    exact ⟨(strip p k).2, es ++ [(strip p k).1], strip_pos p1 k k0, il, by simp [hes], rfl, by simp, by rw [← e1]; simp, e2⟩
  · rintro env h' ⟨k, es, k0, hi, hes, rfl, rfl, e1, e2⟩
    rw [List.length_map, List.drop_length] at e1 e2
    simp only [stripAll, List.append_nil] at e1 e2
    refine ⟨by simp, ?_⟩
    rw [e1, e2]
    exact q (by rw [← e2]; exact k0)
theorem PR_ok : ∀ p ∈ PR, 1 < p ∧ p < 2 ^ 64 := by decide
def fullT (n : Nat) : T := if (stripAll PR n).2 = 1 then .tup ((stripAll PR n).1.map tN) else .non
@[simp] theorem pus_tN {es : List Nat} : pus (es.map tN) = true := pus_iff.mpr fun x hx => by
  obtain ⟨n, _, rfl⟩ := List.mem_map.mp hx
  rfl
theorem found_eq {h : Store} {n : Nat} (n0 : 0 < n) : F_found_powers [tN n] h = .ok (fullT n) h := by
  refine Out.wp_eq' (fn_wp rfl ?_)
  show (b_found_powers [some (tN n), none, none, none] h).wp _
  have tp : t_PRIMES = .tup (PR.map tN) := rfl
  simp only [b_found_powers, q2_seq, q2_set, q1_cell, q1_lst, q1_nil, bind_ok, List.length_nil, Nat.zero_le, if_true, pus_nil, bindE_ok, seq_nx, List.set_cons_succ, List.set_cons_zero, sFor, q1_seqS, q1_C, tp, asS_tup, drop_cons, drop_nil, so_seq]
  refine strip_loop (ps := PR) n0 PR_ok (by decide) rfl fun r0 => ?_
  by_cases r1 : (stripAll PR n).2 = 1
  · simp [r1, tN, e_tup, fnP, fullT]
  · have r2 : ¬ ((stripAll PR n).2 : Int) = 1 := by omega
    simp [r1, r2, tN, e_tup, fnP, fullT]
theorem primes_eq {h : Store} : F_law_primes [] h = .ok (.tup (PR.map tN)) h := by
  refine Out.wp_eq' (fn_wp rfl ?_)
  show (b_law_primes [] h).wp _
  simp [b_law_primes, fnP, PR, tN]
theorem exps_eq {h : Store} {n : Nat} (n0 : 0 < n) : F_law_exps [tN n] h = .ok (fullT n) h := by
  refine Out.wp_eq' (fn_wp rfl ?_)
  show (b_law_exps [some (tN n), none, none, none] h).wp _
  simp only [b_law_exps, q2_seq, q2_set, q1_cell, q1_lst, q1_nil, q1_call, primes_eq, bind_ok, List.length_nil, Nat.zero_le, if_true, pus_nil, bindE_ok, seq_nx, List.set_cons_succ, List.set_cons_zero, sFor, q1_seqS, q1_C, asS_tup, drop_cons, drop_nil, so_seq]
  refine strip_loop (ps := PR) n0 PR_ok (by decide) rfl fun r0 => ?_
  by_cases r1 : (stripAll PR n).2 = 1
  · simp [r1, tN, e_tup, fnP, fullT]
  · have r2 : (1 : Int) < ((stripAll PR n).2 : Int) := by omega
    simp [r1, r2, tN, e_tup, fnP, fullT]
theorem mem_pos : ∀ {ps : List Nat} {n : Nat}, (∀ p ∈ ps, 1 < p) → ps.Pairwise Nat.Coprime → 0 < n → ∀ (i p : Nat), ps[i]? = some p → p ∣ n → ∀ e : Nat, (stripAll ps n).1[i]? = some e → 0 < e := by
  intro ps
  induction ps with
  | nil => intro n _ _ _ i p h; simp at h
  | cons q ps ih =>
    intro n hp hc n0 i p h hd e he
    have q1 := hp q (List.mem_cons_self ..)
    cases i with
    | zero =>
      simp only [List.getElem?_cons_zero, Option.some.injEq] at h
      subst h
      simp only [stripAll, List.getElem?_cons_zero, Option.some.injEq] at he
      rw [strip_yes q1 n0 (Nat.mod_eq_zero_of_dvd hd)] at he
      simp only at he
      omega
    | succ i =>
      simp only [List.getElem?_cons_succ] at h
      simp only [stripAll, List.getElem?_cons_succ] at he
      have pm : p ∈ ps := List.mem_of_getElem? h
      refine ih (fun x hx => hp x (List.mem_cons_of_mem _ hx)) (List.pairwise_cons.mp hc).2 (strip_pos q1 n n0) i p h ?_ e he
      have cop : Nat.Coprime p (q ^ (strip q n).1) := Nat.Coprime.pow_right _ ((List.pairwise_cons.mp hc).1 p pm).symm
      rw [strip_mul q1 n n0] at hd
      exact cop.dvd_of_dvd_mul_left hd
theorem pos_mem : ∀ {ps : List Nat} {n : Nat}, (∀ p ∈ ps, 1 < p) → 0 < n → ∀ (i p : Nat), ps[i]? = some p → ∀ e : Nat, (stripAll ps n).1[i]? = some e → 0 < e → p ∣ n := by
  intro ps
  induction ps with
  | nil => intro n _ _ i p h; simp at h
  | cons q ps ih =>
    intro n hp n0 i p h e he e0
    have q1 := hp q (List.mem_cons_self ..)
    cases i with
    | zero =>
      simp only [List.getElem?_cons_zero, Option.some.injEq] at h
      subst h
      simp only [stripAll, List.getElem?_cons_zero, Option.some.injEq] at he
      by_cases h3 : n % q = 0
      · exact Nat.dvd_of_mod_eq_zero h3
      · rw [strip_no h3] at he
        simp only at he
        omega
    | succ i =>
      simp only [List.getElem?_cons_succ] at h
      simp only [stripAll, List.getElem?_cons_succ] at he
      have := ih (fun x hx => hp x (List.mem_cons_of_mem _ hx)) (strip_pos q1 n n0) i p h e he e0
      rw [strip_mul q1 n n0]
      exact Nat.dvd_trans this (Nat.dvd_mul_left _ _)
theorem cop_one : ∀ {ps : List Nat} {n g : Nat}, (∀ p ∈ ps, 1 < p) → 0 < n → (stripAll ps n).2 = 1 → g ∣ n → (∀ p ∈ ps, Nat.Coprime g p) → g = 1 := by
  intro ps
  induction ps with
  | nil =>
    intro n g _ n0 r hd _
    simp only [stripAll] at r
    subst r
    exact Nat.dvd_one.mp hd
  | cons q ps ih =>
    intro n g hp n0 r hd hc
    have q1 := hp q (List.mem_cons_self ..)
    simp only [stripAll] at r
    refine ih (fun x hx => hp x (List.mem_cons_of_mem _ hx)) (strip_pos q1 n n0) r ?_ fun p hpp => hc p (List.mem_cons_of_mem _ hpp)
    have cop : Nat.Coprime g (q ^ (strip q n).1) := Nat.Coprime.pow_right _ (hc q (List.mem_cons_self ..))
    rw [strip_mul q1 n n0] at hd
    exact cop.dvd_of_dvd_mul_left hd
theorem PR_pair : PR.Pairwise Nat.Coprime := by decide
theorem PR_prime {p g : Nat} (hp : p ∈ PR) (h : ¬ p ∣ g) : Nat.Coprime g p := by
  have d1 : Nat.gcd g p ∣ p := Nat.gcd_dvd_right ..
  have div : ∀ p ∈ PR, ∀ d, d ≤ p → d ∣ p → d = 1 ∨ d = p := by decide
  have p0 := PR_ok p hp
  rcases div p hp _ (Nat.le_of_dvd (by omega) d1) d1 with e | e
  · exact e
  · exact absurd (by rw [← e]; exact Nat.gcd_dvd_left ..) h
end Gd
namespace Gd
open PySem PySem.Spec PyProof.Rows L2 Sm
def isW : T → Bool
  | .int _ => true
  | _ => false
def upto (t : T) (a b : Int) : Bool := match t with
  | .int i => decide (a ≤ i) && decide (i ≤ b)
  | _ => false
theorem whole_law {h : Store} {t : T} (k : t.plain = true) : F_law_whole [t] h = .ok (.bl (isW t)) h := by
  refine Out.wp_eq' (fn_wp rfl ?_)
  show (b_law_whole [some t] h).wp _
  cases t <;> first
    | (simp at k; done)
    | simp [b_law_whole, fnP, isW]
theorem whole_is {h : Store} {t : T} (k : t.plain = true) : F_is_whole [t] h = .ok (.bl (isW t)) h := by
  refine Out.wp_eq' (fn_wp rfl ?_)
  show (b_is_whole [some t] h).wp _
  cases t <;> first
    | (simp at k; done)
    | simp [b_is_whole, fnP, isW]
theorem upto_is {h : Store} {t : T} {a b : Int} (k : t.plain = true) : F_is_upto [t, .int a, .int b] h = .ok (.bl (upto t a b)) h := by
  refine Out.wp_eq' (fn_wp rfl ?_)
  show (b_is_upto [some t, some (.int a), some (.int b)] h).wp _
  cases t with
  | int i => by_cases c : a ≤ i <;> simp [b_is_upto, whole_is k, isW, upto, c, fnP]
  | loc m => simp at k
  | adr m d f ts => simp at k
  | fnc fx => simp at k
  | dct _ _ => simp at k
  | scr m => simp at k
  | _ => simp [b_is_upto, whole_is k, fnP, isW, upto]
def full (n : Nat) : Bool := (stripAll PR n).2 == 1
def apart : List Nat → List Nat → Bool
  | x :: xs, y :: ys => (x == 0 || y == 0) && apart xs ys
  | _, _ => true
theorem apart_iff : ∀ {xs ys : List Nat}, apart xs ys = true ↔ ∀ (i x y : Nat), xs[i]? = some x → ys[i]? = some y → x = 0 ∨ y = 0
  | [], ys => by simp [apart]
  | x :: xs, [] => by simp [apart]
  | x :: xs, y :: ys => by
    rw [apart, Bool.and_eq_true, apart_iff]
    constructor
    · rintro ⟨a, b⟩ i u v hu hv
      cases i with
      | zero => cases hu; cases hv; simpa using a
      | succ i => exact b i u v hu hv
    · exact fun z => ⟨by simpa using z 0 x y rfl rfl, fun i u v hu hv => z (i + 1) u v hu hv⟩
theorem apart_gcd {a b : Nat} (a0 : 0 < a) (b0 : 0 < b) (fa : full a = true) : apart (stripAll PR a).1 (stripAll PR b).1 = decide (Nat.gcd a b = 1) := by
  have p1 : ∀ p ∈ PR, 1 < p := fun p hp => (PR_ok p hp).1
  by_cases g : Nat.gcd a b = 1
  · rw [decide_eq_true g, apart_iff]
    intro i x y hx hy
    by_cases x0 : x = 0
    · exact .inl x0
    · by_cases y0 : y = 0
      · exact .inr y0
      · have il : i < PR.length := by
          have := (List.getElem?_eq_some_iff.mp hx).1
          rwa [stripAll_len] at this
        have hp : PR[i]? = some PR[i] := List.getElem?_eq_getElem il
        have d1 := pos_mem p1 a0 i _ hp x hx (by omega)
        have d2 := pos_mem p1 b0 i _ hp y hy (by omega)
        have d3 := Nat.dvd_gcd d1 d2
        rw [g] at d3
        have := Nat.dvd_one.mp d3
        have := p1 _ (List.mem_of_getElem? hp)
        omega
  · rw [decide_eq_false g]
    refine Bool.eq_false_iff.mpr fun z => g ?_
    rw [apart_iff] at z
    refine cop_one p1 a0 (by simpa [full] using fa) (Nat.gcd_dvd_left a b) fun p hp => ?_
    refine PR_prime hp fun hd => ?_
    obtain ⟨i, hi, e⟩ := List.getElem_of_mem hp
    have hpi : PR[i]? = some p := by rw [List.getElem?_eq_getElem hi, e]
    have la : i < (stripAll PR a).1.length := by rw [stripAll_len]; exact hi
    have lb : i < (stripAll PR b).1.length := by rw [stripAll_len]; exact hi
    have u := mem_pos p1 PR_pair a0 i p hpi (Nat.dvd_trans hd (Nat.gcd_dvd_left ..)) _ (List.getElem?_eq_getElem la)
    have v := mem_pos p1 PR_pair b0 i p hpi (Nat.dvd_trans hd (Nat.gcd_dvd_right ..)) _ (List.getElem?_eq_getElem lb)
    rcases z i _ _ (List.getElem?_eq_getElem la) (List.getElem?_eq_getElem lb) with q | q <;> omega
def fracB (t : T) : Bool := match t with
  | .tup [.int x, .int y] => upto (.int x) 1 1000000000000 && upto (.int y) 1 1000000000000 && full x.toNat && full y.toNat && decide (Nat.gcd x.toNat y.toNat = 1)
  | _ => false
def progB (t : T) : Bool := match t with
  | .tup xs => decide (1 ≤ xs.length) && decide (xs.length ≤ 16) && xs.all fracB
  | _ => false
theorem zip_pairs2 : ∀ {es fs : List Nat}, List.zipWith (fun a b => pairT (tN a) (tN b)) es fs = (es.zip fs).map fun p => T.tup [tN p.1, tN p.2]
  | [], _ => by simp
  | _ :: _, [] => by simp
  | x :: r, y :: s => by
    rw [List.zipWith_cons_cons, List.zip_cons_cons, List.map_cons, zip_pairs2]
    rfl
theorem apart_all : ∀ {xs ys : List Nat}, ((xs.zip ys).all fun p => p.1 == 0 || p.2 == 0) = apart xs ys
  | [], ys => by simp [apart]
  | x :: xs, [] => by simp [apart]
  | x :: xs, y :: ys => by simp [apart, apart_all]
theorem frac_no {xs : List T} (h : xs.length ≠ 2) : fracB (.tup xs) = false := by
  rcases xs with _ | ⟨a, _ | ⟨b, _ | ⟨c, r⟩⟩⟩
  · rfl
  · cases a <;> rfl
  · exact absurd rfl h
  · cases a <;> cases b <;> rfl
theorem is_frac {h : Store} {t : T} (k : t.plain = true) : F_is_fraction [t] h = .ok (.bl (fracB t)) h := by
  refine Out.wp_eq' (fn_wp rfl ?_)
  show (b_is_fraction [some t, none, none, none, none] h).wp _
  cases t with
  | tup xs =>
    by_cases h2 : xs.length = 2
    · rcases xs with _ | ⟨a, _ | ⟨b, _ | ⟨c, r⟩⟩⟩
      · cases h2
      · cases h2
      · simp at k
        obtain ⟨ka, kb⟩ := k
        cases ua : upto a 1 1000000000000 with
        | false =>
          have ff : fracB (.tup [a, b]) = false := by cases a <;> cases b <;> simp [fracB, ua]
          simp [b_is_fraction, t_MOST, upto_is ka, ua, ff, fnP]
        | true =>
          cases ub : upto b 1 1000000000000 with
          | false =>
            have ff : fracB (.tup [a, b]) = false := by cases a <;> cases b <;> simp [fracB, ub]
            simp [b_is_fraction, t_MOST, upto_is ka, upto_is kb, ua, ub, ff, fnP]
          | true =>
            cases a with
            | int x =>
              cases b with
              | int y =>
                have hx : 1 ≤ x ∧ x ≤ 1000000000000 := by simpa [upto] using ua
                have hy : 1 ≤ y ∧ y ≤ 1000000000000 := by simpa [upto] using ub
                have ex : T.int x = tN x.toNat := by show _ = T.int _; congr 1; omega
                have ey : T.int y = tN y.toNat := by show _ = T.int _; congr 1; omega
                have fx : F_found_powers [.int x] h = .ok (fullT x.toNat) h := by rw [ex]; exact found_eq (by omega)
                have fy : F_found_powers [.int y] h = .ok (fullT y.toNat) h := by rw [ey]; exact found_eq (by omega)
                by_cases qx : (stripAll PR x.toNat).2 = 1
                · by_cases qy : (stripAll PR y.toNat).2 = 1
                  · have wx : fullT x.toNat = .tup ((stripAll PR x.toNat).1.map tN) := by simp [fullT, qx]
                    have wy : fullT y.toNat = .tup ((stripAll PR y.toNat).1.map tN) := by simp [fullT, qy]
                    have kc := compLoop_map (gs := []) (tg := .tup [3, 4]) (me := mOrV (mBin fEq (mVar 3) (mC (.int 0))) (mBin fEq (mVar 4) (mC (.int 0)))) (env := [some (.tup [.int x, .int y]), some (.tup ((stripAll PR x.toNat).1.map tN)), some (.tup ((stripAll PR y.toNat).1.map tN)), none, none]) (h := h)
                      (((stripAll PR x.toNat).1.zip (stripAll PR y.toNat).1).map fun p => T.tup [tN p.1, tN p.2]) (fun t => match t with | .tup [.int u, .int v] => .bl (decide (u = 0) || decide (v = 0)) | _ => .non) (by simp) (by simp [stripAll_len]; decide) fun z hz => by
                        obtain ⟨p, hp, rfl⟩ := List.mem_map.mp hz
                        refine ⟨_, b_tup, ?_⟩
                        by_cases p0 : p.1 = 0
                        · simp [setT, tN, p0]
                        · simp [setT, tN, p0]
                    have em : (((stripAll PR x.toNat).1.zip (stripAll PR y.toNat).1).map fun p => T.tup [tN p.1, tN p.2]).map (fun t => match t with | .tup [.int u, .int v] => T.bl (decide (u = 0) || decide (v = 0)) | _ => .non) = ((stripAll PR x.toNat).1.zip (stripAll PR y.toNat).1).map fun p => T.bl (p.1 == 0 || p.2 == 0) := by
                      rw [List.map_map]
                      refine List.map_congr_left fun p _ => ?_
                      show T.bl (decide ((p.1 : Int) = 0) || decide ((p.2 : Int) = 0)) = _
                      congr 1
                      have z : ∀ n : Nat, decide ((n : Int) = 0) = (n == 0) := fun n => by by_cases q : n = 0 <;> simp [q]
                      rw [z, z]
                    rw [em] at kc
                    have ap := apart_gcd (a := x.toNat) (b := y.toNat) (by omega) (by omega) (by simp [full, qx])
                    have ff : fracB (.tup [.int x, .int y]) = apart (stripAll PR x.toNat).1 (stripAll PR y.toNat).1 := by
                      simp only [fracB, ua, ub, full, qx, qy, ap]
                      rfl
                    simp [b_is_fraction, t_MOST, upto_is ka, upto_is kb, ua, ub, fx, fy, wx, wy, mComp, mZip, seqK, gdOf, zip_pairs2, fnP, kc, all_map, apart_all, ff]
                  · have wx : fullT x.toNat = .tup ((stripAll PR x.toNat).1.map tN) := by simp [fullT, qx]
                    have wy : fullT y.toNat = .non := by simp [fullT, qy]
                    have ff : fracB (.tup [.int x, .int y]) = false := by simp [fracB, full, qy]
                    simp [b_is_fraction, t_MOST, upto_is ka, upto_is kb, ua, ub, fx, fy, wx, wy, fnP, ff]
                · have wx : fullT x.toNat = .non := by simp [fullT, qx]
                  have ff : fracB (.tup [.int x, .int y]) = false := by simp [fracB, full, qx]
                  simp [b_is_fraction, t_MOST, upto_is ka, upto_is kb, ua, ub, fx, fy, wx, fnP, ff]
              | _ => simp [upto] at ub
            | _ => simp [upto] at ua
      · simp at h2
    · have h3 : ¬ (xs.length : Int) = 2 := by omega
      simp [b_is_fraction, h3, frac_no h2, fnP]
  | loc m => simp at k
  | adr m d f ts => simp at k
  | fnc fx => simp at k
  | dct _ _ => simp at k
  | scr m => simp at k
  | _ => simp [b_is_fraction, fracB, fnP]
theorem is_prog {h : Store} {t : T} (k : t.plain = true) : F_is_program [t] h = .ok (.bl (progB t)) h := by
  refine Out.wp_eq' (fn_wp rfl ?_)
  show (b_is_program [some t, none] h).wp _
  cases t with
  | tup xs =>
    rw [plain_tup, plains_iff] at k
    by_cases c1 : (1 : Int) ≤ xs.length
    · by_cases c2 : (xs.length : Int) ≤ 16
      · have kc := compLoop_map (gs := []) (tg := .one 1) (me := mCall F_is_fraction (mCons (mVar 1) mNil)) (env := [some (.tup xs), none]) (h := h) xs (fun x => .bl (fracB x)) (by simp) (by omega) fun x hx => ⟨_, b_one, by simp [is_frac (k x hx)]⟩
        have d1 : 1 ≤ xs.length := by omega
        have d2 : xs.length ≤ 16 := by omega
        simp [b_is_program, t_MOST_FRACTIONS, c1, c2, mComp, kc, all_map, fnP, progB, d1, d2]
      · have d2 : ¬ xs.length ≤ 16 := by omega
        simp [b_is_program, t_MOST_FRACTIONS, c1, c2, fnP, progB, d2]
    · have d1 : ¬ 1 ≤ xs.length := by omega
      simp [b_is_program, t_MOST_FRACTIONS, c1, fnP, progB, d1]
  | loc m => simp at k
  | adr m d f ts => simp at k
  | fnc fx => simp at k
  | dct _ _ => simp at k
  | scr m => simp at k
  | _ => simp [b_is_program, progB, fnP]
end Gd
namespace Gd
open PySem PySem.Spec PyProof.Rows L2 Sm
def prodOf : List Nat → List Nat → Nat
  | p :: ps, e :: es => p ^ e * prodOf ps es
  | _, _ => 1
theorem strip_pow {p m : Nat} (h1 : 1 < p) (m0 : 0 < m) (hm : ¬ p ∣ m) : ∀ e : Nat, strip p (p ^ e * m) = (e, m) := by
  intro e
  induction e with
  | zero =>
    rw [Nat.pow_zero, Nat.one_mul]
    exact strip_no fun z => hm (Nat.dvd_of_mod_eq_zero z)
  | succ e ih =>
    have hd : p ^ (e + 1) * m = p * (p ^ e * m) := by rw [Nat.pow_succ, Nat.mul_comm (p ^ e) p, Nat.mul_assoc]
    have hp : 0 < p ^ e * m := Nat.mul_pos (Nat.pow_pos (by omega)) m0
    rw [hd, strip_yes h1 (Nat.mul_pos (by omega) hp) (Nat.mul_mod_right ..), Nat.mul_div_cancel_left _ (by omega), ih]
theorem prodOf_pos : ∀ {ps es : List Nat}, (∀ p ∈ ps, 1 < p) → 0 < prodOf ps es
  | [], _, _ => Nat.one_pos
  | p :: ps, [], _ => Nat.one_pos
  | p :: ps, e :: es, h => Nat.mul_pos (Nat.pow_pos (by have := h p (List.mem_cons_self ..); omega)) (prodOf_pos fun x hx => h x (List.mem_cons_of_mem _ hx))
theorem prodOf_cop : ∀ {ps es : List Nat} {q : Nat}, (∀ p ∈ ps, Nat.Coprime q p) → Nat.Coprime q (prodOf ps es)
  | [], _, q, _ => Nat.coprime_one_right q
  | p :: ps, [], q, _ => Nat.coprime_one_right q
  | p :: ps, e :: es, q, h => Nat.Coprime.mul_right (Nat.Coprime.pow_right _ (h p (List.mem_cons_self ..))) (prodOf_cop fun x hx => h x (List.mem_cons_of_mem _ hx))
theorem strip_prod : ∀ {ps es : List Nat}, (∀ p ∈ ps, 1 < p) → ps.Pairwise Nat.Coprime → es.length = ps.length → stripAll ps (prodOf ps es) = (es, 1)
  | [], [], _, _, _ => rfl
  | p :: ps, e :: es, h, hc, hl => by
    have p1 := h p (List.mem_cons_self ..)
    have hp := fun x hx => h x (List.mem_cons_of_mem _ hx)
    have cop : Nat.Coprime p (prodOf ps es) := prodOf_cop (List.pairwise_cons.mp hc).1
    have nd : ¬ p ∣ prodOf ps es := fun z => by
      have := Nat.Coprime.eq_one_of_dvd cop z
      omega
    have s : strip p (prodOf (p :: ps) (e :: es)) = (e, prodOf ps es) := strip_pow p1 (prodOf_pos hp) nd e
    simp only [stripAll, s, strip_prod hp (List.pairwise_cons.mp hc).2 (by simpa using hl)]
theorem prodOf_le : ∀ {ps es : List Nat} {b : Nat}, (∀ p ∈ ps, p ≤ b) → 0 < b → prodOf ps es ≤ b ^ es.sum
  | [], _, b, _, hb => Nat.pow_pos hb
  | p :: ps, [], b, _, hb => Nat.pow_pos hb
  | p :: ps, e :: es, b, h, hb => by
    rw [List.sum_cons, Nat.pow_add]
    exact Nat.mul_le_mul (Nat.pow_le_pow_left (h p (List.mem_cons_self ..)) e) (prodOf_le (fun x hx => h x (List.mem_cons_of_mem _ hx)) hb)
theorem asN_ok {e : Nat} (ee : e < 1000) {h' : Store} : asR1 [tN e] h' = .ok ⟨Sm.rangeT 0 (e : Int).toNat, []⟩ h' := asR1_ok (by omega) (by omega)
theorem range1_of {r : M (List T)} {env : Env'} {h : Store} {e : Nat} (er : r env h = .ok [tN e] h) (ee : e < 1000) : mRange1 r env h = .ok ⟨Sm.rangeT 0 (e : Int).toNat, []⟩ h := by
  rw [q1_range1, er, bind_ok]
  exact asN_ok ee
theorem sFor_of {src : M Src} {tg : Tgt} {kl : List Nat} {b : MS} {env : Env'} {h h1 : Store} {s : Src} (e : src env h = .ok s h1) : sFor src tg kl b env h = forLoop s.gs tg kl b s.items (dropE kl env) h1 := by
  unfold sFor
  rw [e, bindE_ok]
theorem mulN {x : Int} {p : Nat} (h : p < 2 ^ 64) : mulB x (p : Int) = true := mulB_r (by omega)
theorem prod_loop {ps es : List Nat} {h : Store} {P : Pst} (hp : ∀ p ∈ ps, p < 2 ^ 64) (hl : es.length = ps.length) (he : ∀ e ∈ es, e < 1000)
    (q : P.nx [none, some (tN (prodOf ps es)), none, none, none] h) :
    (forLoop [] (.tup [3, 2]) [0, 2, 3, 4] (sFor (mRange1 (mCons (mVar 2) mNil)) (.one 4) [0, 2, 4] (sSet 1 (mBin fMul (mVar 1) (mVar 3)))) ((ps.zip es).map fun p => T.tup [tN p.1, tN p.2]) [none, some (.int 1), none, none, none] h).wp P := by
  refine forLoop_wp _ (fun i env h' => i ≤ ps.length ∧ h' = h ∧ ∃ k : Nat, env = [none, some (tN k), none, none, none] ∧ k * prodOf (ps.drop i) (es.drop i) = prodOf ps es) ?_ ?_ ⟨Nat.zero_le _, rfl, 1, rfl, by simp⟩
  · rintro i x env h' hx ⟨hi, rfl, k, rfl, ek⟩
    rw [List.getElem?_map, Option.map_eq_some_iff] at hx
    obtain ⟨⟨p, e⟩, hz, rfl⟩ := hx
    rw [List.getElem?_zip_eq_some] at hz
    obtain ⟨h1, h2⟩ := hz
    have il : i < ps.length := (List.getElem?_eq_some_iff.mp h1).1
    have il2 : i < es.length := (List.getElem?_eq_some_iff.mp h2).1
    have pe := hp p (List.mem_of_getElem? h1)
    have ee := he e (List.mem_of_getElem? h2)
    refine ⟨by simp, _, b_tup, ?_⟩
    have dr : ps.drop i = p :: ps.drop (i + 1) := by rw [List.drop_eq_getElem_cons il]; congr 1; exact (List.getElem?_eq_some_iff.mp h1).2
    have ds : es.drop i = e :: es.drop (i + 1) := by rw [List.drop_eq_getElem_cons il2]; congr 1; exact (List.getElem?_eq_some_iff.mp h2).2
    rw [dr, ds] at ek
    simp only [prodOf] at ek
    have e0 : setT [3, 2] [tN p, tN e] [none, some (tN k), none, none, none] = [none, some (tN k), some (tN e), some (tN p), none] := rfl
    dsimp only
    rw [e0]
    rw [sFor_of (range1_of (r := mCons (mVar 2) mNil) (e := e) rfl ee)]
    simp only [drop_cons, drop_nil, List.set_cons_succ, List.set_cons_zero]
    refine forLoop_wp _ (fun j env h2 => h2 = h' ∧ env = [none, some (tN (k * p ^ j)), none, some (tN p), none]) ?_ ?_ ⟨rfl, by simp⟩
    · rintro j y env h2 hy ⟨rfl, rfl⟩
      obtain ⟨rfl, hj⟩ := range_at hy
      refine ⟨by simp, _, b_one, ?_⟩
      have mb : mulB ((k * p ^ j : Nat) : Int) (p : Int) = true := mulN pe
      obtain ⟨w, hw⟩ : ∃ w, w = k * p ^ j := ⟨_, rfl⟩
      rw [← hw] at mb ⊢
      simp [tN, mb]
      rw [hw]
      simp [Int.pow_succ, Int.mul_assoc]
    · rintro env h2 ⟨rfl, rfl⟩
      refine ⟨by simp, ?_⟩
      rw [Sm.rangeT_length]
      refine ⟨il, rfl, k * p ^ e, by simp [tN], ?_⟩
      rw [Nat.mul_assoc]
      exact ek
  · rintro env h' ⟨hi, rfl, k, rfl, ek⟩
    refine ⟨by simp, ?_⟩
    rw [List.length_map, List.length_zip, hl, Nat.min_self, List.drop_length] at ek
    rw [show prodOf [] (es.drop ps.length) = 1 from rfl, Nat.mul_one] at ek
    rw [ek]
    exact q
theorem product_eq {h : Store} {es : List Nat} (hl : es.length = 10) (he : ∀ e ∈ es, e < 1000) : F_law_product [.tup (es.map tN)] h = .ok (tN (prodOf PR es)) h := by
  refine Out.wp_eq' (fn_wp rfl ?_)
  show (b_law_product [some (.tup (es.map tN)), none, none, none, none] h).wp _
  simp [b_law_product, sFor, so_seq, mZip, primes_eq, seqK, gdOf, zip_pairs2]
  refine prod_loop (ps := PR) (fun p hp => (PR_ok p hp).2) (by rw [hl]; rfl) he ?_
  simp [fnP, tN]
end Gd
namespace Gd
open PySem PySem.Spec PyProof.Rows L2 Sm
def posS (xs : List Int) : Nat := (xs.map Int.toNat).sum
def negS (xs : List Int) : Nat := (xs.map fun x => (-x).toNat).sum
theorem sum_set (f : Int → Nat) : ∀ {xs : List Int} {i : Nat} {x v : Int}, xs[i]? = some x → ((xs.set i v).map f).sum + f x = (xs.map f).sum + f v
  | [], _, _, _, h => by simp at h
  | y :: r, 0, x, v, h => by
    simp only [List.getElem?_cons_zero, Option.some.injEq] at h
    subst h
    simp only [List.set_cons_zero, List.map_cons, List.sum_cons]
    omega
  | y :: r, i + 1, x, v, h => by
    simp only [List.getElem?_cons_succ] at h
    have ih := sum_set f (v := v) h
    simp only [List.set_cons_succ, List.map_cons, List.sum_cons]
    omega
theorem pos_up {xs : List Int} {i : Nat} {x : Int} (h : xs[i]? = some x) : posS (xs.set i (x + 1)) ≤ posS xs + 1 ∧ negS (xs.set i (x + 1)) ≤ negS xs := by
  have a := sum_set Int.toNat (v := x + 1) h
  have b := sum_set (fun x => (-x).toNat) (v := x + 1) h
  unfold posS negS
  constructor <;> omega
theorem neg_up {xs : List Int} {i : Nat} {x : Int} (h : xs[i]? = some x) : negS (xs.set i (x - 1)) ≤ negS xs + 1 ∧ posS (xs.set i (x - 1)) ≤ posS xs := by
  have a := sum_set Int.toNat (v := x - 1) h
  have b := sum_set (fun x => (-x).toNat) (v := x - 1) h
  unfold posS negS
  constructor <;> omega
theorem place_at {ps : List Nat} {w : Int} (hw : 0 ≤ w) (h0 : ps ≠ []) (hp : ∀ p ∈ ps, p < 10) : ∃ p : Nat, p < 10 ∧ atI (ps.map tN) (w % ((ps.map tN).length : Nat)) = some (tN p) := by
  have l0 : 0 < ps.length := List.length_pos_iff.mpr h0
  have hl : (ps.map tN).length = ps.length := List.length_map ..
  have a := Int.emod_nonneg w (show (((ps.map tN).length : Nat) : Int) ≠ 0 by omega)
  have b := Int.emod_lt_of_pos w (show (0 : Int) < (((ps.map tN).length : Nat) : Int) by omega)
  obtain ⟨x, ex, mx⟩ := atI_mem a b
  obtain ⟨p, mp, rfl⟩ := List.mem_map.mp mx
  exact ⟨p, hp p mp, ex⟩
theorem frac_loop {h : Store} {n : Nat} {ps : List Nat} {v : Int} {k : Nat} {d : Int} (f : F2) (P : Pst) (hn : n < h.length) (h0 : ps ≠ []) (h9 : ps.length < 1000) (hp : ∀ p ∈ ps, p < 10) (hv : 0 ≤ v) (hk : k < 1000) (xs0 : List Int) (hl0 : xs0.length = 10)
    (hf : ∀ x : Int, ∀ h, f (.int x) (.int 1) h = some (.int (x + d))) (J : List Int → Nat → Prop) (j0 : J xs0 0) (js : ∀ xs i pl x, J xs i → xs[pl]? = some x → J (xs.set pl (x + d)) (i + 1))
    (q : ∀ w xs, 0 ≤ w → xs.length = 10 → J xs k → P.nx [some (.loc n), some (.tup (ps.map tN)), some (.loc h.length), none, none, none, none, none] (pst h n w ++ [.lst (xs.map T.int)])) :
    (forLoop [] (.one 4) [3, 4, 5, 6] (sSeq (sSet 3 (mBin fIdx (mVar 1) (mCall F_law_take (mCons (mVar 0) (mCons (mCallF fLen (mCons (mVar 1) mNil)) mNil))))) (sItem (mBin f (mBin fIdx (mVar 2) (mVar 3)) (mC (.int 1))) (mVar 2) (mVar 3))) (Sm.rangeT 0 k)
      [some (.loc n), some (.tup (ps.map tN)), some (.loc h.length), none, none, none, none, none] (pst h n v ++ [.lst (xs0.map T.int)])).wp P := by
  refine forLoop_wp _ (fun i env h' => ∃ w xs, 0 ≤ w ∧ h' = pst h n w ++ [.lst (xs.map T.int)] ∧ xs.length = 10 ∧ J xs i ∧ env = [some (.loc n), some (.tup (ps.map tN)), some (.loc h.length), none, none, none, none, none]) ?_ ?_ ⟨v, xs0, hv, rfl, hl0, j0, rfl⟩
  · rintro i x env h' hx ⟨w, xs, hw, rfl, hl, hj, rfl⟩
    obtain ⟨rfl, hi⟩ := range_at hx
    obtain ⟨p, p9, ep⟩ := place_at hw h0 hp
    have l0 : 0 < ps.length := List.length_pos_iff.mpr h0
    have lm : (ps.map tN).length = ps.length := List.length_map ..
    have w1 : 0 ≤ w / ((ps.map tN).length : Nat) := Int.ediv_nonneg hw (by omega)
    have hpx : p < xs.length := by omega
    have ex : xs[p]? = some xs[p] := List.getElem?_eq_getElem hpx
    have ei : atI (xs.map T.int) (p : Int) = some (.int xs[p]) := by rw [atI_p (by omega) (by rw [List.length_map]; omega), List.getElem?_map]; simp [hpx]
    refine ⟨by simp, _, b_one, ?_⟩
    have tk := take_2 (h := h) (l := [.lst (xs.map T.int)]) (n := n) (v := w) (far := ((ps.map tN).length : Nat)) hn hw (by omega) (by omega)
    simp only [q2_seq, q2_set, q1_bin, q1_var, q1_call, q1_cons, q1_nil, q1_callF, List.getElem?_cons_zero, List.getElem?_cons_succ, List.set_cons_succ, List.set_cons_zero, bind_ok, q3_len, ofO_some, tk, q3_idx, ep, bindE_ok, seq_nx, q2_item, q1_C]
    rw [show fIdx (.loc h.length) (tN p) (pst h n (w / ((ps.map tN).length : Nat)) ++ [.lst (xs.map T.int)]) = some (.int xs[p]) from (e_idx pst_len).trans ei]
    simp only [ofO_some, bind_ok, hf, bindE_ok]
    show (setC (pst h n _ ++ [.lst (xs.map T.int)]) h.length (p : Int) (.int (xs[p] + d)) _).wp _
    rw [e_set pst_len (by omega) (by rw [List.length_map]; omega) rfl]
    refine ⟨_, xs.set p (xs[p] + d), w1, ?_, by rw [List.length_set]; exact hl, js xs i p _ hj ex, by simp⟩
    rw [Int.toNat_natCast, List.map_set]
  · rintro env h' ⟨w, xs, hw, rfl, hl, hj, rfl⟩
    rw [Sm.rangeT_length] at hj
    exact ⟨by simp, q w xs hw hl hj⟩
end Gd
namespace Gd
open PySem PySem.Spec PyProof.Rows L2 Sm
theorem pst_self {h : Store} {n : Nat} {v : Int} (p : potAt h n v) : pst h n v = h := by
  unfold pst
  obtain ⟨hn, e⟩ := List.getElem?_eq_some_iff.mp p.1
  rw [← e]
  exact List.set_getElem_self hn
theorem range_of {r : M (List T)} {env : Env'} {h h1 : Store} {e : Nat} (er : r env h = .ok [tN e] h1) (ee : e < 1000) : mRange1 r env h = .ok ⟨Sm.rangeT 0 e, []⟩ h1 := by
  rw [q1_range1, er, bind_ok]
  have := asN_ok ee (h' := h1)
  rw [Int.toNat_natCast] at this
  exact this
theorem asS_loc {h : Store} {n : Nat} {xs : List T} (e : h[n]? = some (.lst xs)) : asS (.loc n) h = .ok ⟨xs, [(n, xs)]⟩ h := by
  simp [asS, seqK, gdOf, e]
theorem single_le_sum : ∀ {es : List Nat} {e : Nat}, e ∈ es → e ≤ es.sum
  | x :: r, e, h => by
    rw [List.sum_cons]
    rcases List.mem_cons.mp h with q | q
    · omega
    · have := single_le_sum q
      omega
def tops (xs : List Int) : List Nat := xs.map Int.toNat
def bots (xs : List Int) : List Nat := xs.map fun x => (-x).toNat
theorem tops_apart : ∀ xs : List Int, apart (tops xs) (bots xs) = true
  | [] => rfl
  | x :: r => by
    show ((x.toNat == 0 || (-x).toNat == 0) && apart (tops r) (bots r)) = true
    rw [tops_apart r, Bool.and_true, Bool.or_eq_true, beq_iff_eq, beq_iff_eq]
    omega
theorem PR29 : ∀ p ∈ PR, p ≤ 29 := by decide
theorem prod_bound {es : List Nat} (hs : es.sum ≤ 3) : 1 ≤ prodOf PR es ∧ prodOf PR es ≤ 24389 := by
  refine ⟨prodOf_pos fun p hp => (PR_ok p hp).1, ?_⟩
  have a := prodOf_le (es := es) PR29 (by omega)
  have b : 29 ^ es.sum ≤ 29 ^ 3 := Nat.pow_le_pow_right (by omega) hs
  omega
theorem frac_good {xs : List Int} (hl : xs.length = 10) (a : posS xs ≤ 3) (b : negS xs ≤ 3) : fracB (.tup [tN (prodOf PR (tops xs)), tN (prodOf PR (bots xs))]) = true := by
  have p1 : ∀ p ∈ PR, 1 < p := fun p hp => (PR_ok p hp).1
  have la : (tops xs).length = PR.length := by rw [tops, List.length_map, hl]; rfl
  have lb : (bots xs).length = PR.length := by rw [bots, List.length_map, hl]; rfl
  have sa := strip_prod p1 PR_pair la
  have sb := strip_prod p1 PR_pair lb
  have ba := prod_bound (es := tops xs) a
  have bb := prod_bound (es := bots xs) b
  have fa : full (prodOf PR (tops xs)) = true := by simp [full, sa]
  have fb : full (prodOf PR (bots xs)) = true := by simp [full, sb]
  have g := apart_gcd (a := prodOf PR (tops xs)) (b := prodOf PR (bots xs)) (by omega) (by omega) fa
  rw [sa, sb, tops_apart] at g
  have g' := of_decide_eq_true g.symm
  have ua : upto (tN (prodOf PR (tops xs))) 1 1000000000000 = true := by
    show (decide _ && decide _) = true
    rw [decide_eq_true (by omega), decide_eq_true (by omega)]
    rfl
  have ub : upto (tN (prodOf PR (bots xs))) 1 1000000000000 = true := by
    show (decide _ && decide _) = true
    rw [decide_eq_true (by omega), decide_eq_true (by omega)]
    rfl
  show (upto (tN _) 1 _ && upto (tN _) 1 _ && full (Int.toNat _) && full (Int.toNat _) && decide (Nat.gcd (Int.toNat _) (Int.toNat _) = 1)) = true
  rw [ua, ub, Int.toNat_natCast, Int.toNat_natCast, fa, fb]
  exact decide_eq_true g'
theorem fraction_wp {h : Store} {n : Nat} {v : Int} {ps : List Nat} {Q : T → Store → Prop} {X : Ex → Store → Prop} (p : potAt h n v) (h0 : ps ≠ []) (h9 : ps.length < 1000) (hp : ∀ p ∈ ps, p < 10)
    (q : ∀ a b w, 0 ≤ w → fracB (.tup [tN a, tN b]) = true → Q (.tup [tN a, tN b]) (pst h n w)) : (F_law_fraction [.loc n, .tup (ps.map tN)] h).wp Q X := by
  refine fn_wp rfl ?_
  show (b_law_fraction [some (.loc n), some (.tup (ps.map tN)), none, none, none, none, none, none] h).wp _
  have hn := p.lt
  have v1 : 0 ≤ v / 4 := by have := p.2; omega
  have r0 : fRep (.lst [.int 0]) (.int 10) h = some ((List.replicate 10 (0 : Int)).map T.int) := rfl
  have k0 : T.int (v % 4) = tN (v % 4).toNat := by show _ = T.int _; congr 1; have := p.2; omega
  have kb : (v % 4).toNat < 1000 := by omega
  have tk0 : F_law_take [.loc n, .int 4] (h ++ [.lst ((List.replicate 10 (0 : Int)).map T.int)]) = .ok (.int (v % 4)) (pst h n (v / 4) ++ [.lst ((List.replicate 10 (0 : Int)).map T.int)]) := by
    have := take_2 (h := h) (l := [.lst ((List.replicate 10 (0 : Int)).map T.int)]) (n := n) (v := v) (far := 4) hn p.2 (by omega) (by omega)
    rwa [pst_self p] at this
  have s0 : (sSet 2 (mCell (mNew2 fRep (mFrz (mLst (mCons (mC (.int 0)) mNil))) (mC (.int 10))))) [some (.loc n), some (.tup (ps.map tN)), none, none, none, none, none, none] h
      = .nx [some (.loc n), some (.tup (ps.map tN)), some (.loc h.length), none, none, none, none, none] (h ++ [.lst ((List.replicate 10 (0 : Int)).map T.int)]) := by
    simp only [q2_set, q1_cell, q1_new2, q1_frz, q1_lst, q1_cons, q1_C, q1_nil, bind_ok, List.length_cons, List.length_nil, ofO_some]
    rw [if_pos (by decide)]
    simp only [bind_ok, r0, ofO_some, pus_ints, if_true, bindE_ok, List.set_cons_succ, List.set_cons_zero]
  unfold b_law_fraction
  rw [q2_seq, s0, seq_nx, q2_seq, so_seq]
  rw [sFor_of (range_of (e := (v % 4).toNat) (h1 := pst h n (v / 4) ++ [.lst ((List.replicate 10 (0 : Int)).map T.int)]) (by
    simp only [q1_cons, q1_call, q1_var, q1_C, q1_nil, List.getElem?_cons_zero, bind_ok, tk0, k0]) kb)]
  simp only [drop_cons, drop_nil, List.set_cons_succ, List.set_cons_zero]
  refine frac_loop fAdd _ hn h0 h9 hp v1 kb (List.replicate 10 0) rfl (d := 1) (fun x h => rfl) (fun xs i => posS xs ≤ i ∧ negS xs = 0) ⟨Nat.le_of_eq rfl, rfl⟩ (fun xs i pl x ⟨ja, jb⟩ ex => ?_) fun w xs hw hl ⟨ja, jb⟩ => ?_
  · have := pos_up ex
    exact ⟨by omega, by omega⟩
  have w1 : 0 ≤ w / 4 := by omega
  have k1 : T.int (w % 4) = tN (w % 4).toNat := by show _ = T.int _; congr 1; omega
  have kb1 : (w % 4).toNat < 1000 := by omega
  have tk1 := take_2 (h := h) (l := [.lst (xs.map T.int)]) (n := n) (v := w) (far := 4) hn hw (by omega) (by omega)
  show ((sSeq _ _) _ _).wp _
  rw [q2_seq, so_seq, sFor_of (range_of (e := (w % 4).toNat) (h1 := pst h n (w / 4) ++ [.lst (xs.map T.int)]) (by
    simp only [q1_cons, q1_call, q1_var, q1_C, q1_nil, List.getElem?_cons_zero, bind_ok, tk1, k1]) kb1)]
  simp only [drop_cons, drop_nil, List.set_cons_succ, List.set_cons_zero]
  refine frac_loop fSub _ hn h0 h9 hp w1 kb1 xs hl (d := -1) (fun x h => rfl) (fun ys i => posS ys ≤ 3 ∧ negS ys ≤ i) ⟨by omega, by omega⟩ (fun ys i pl x ⟨jc, jd⟩ ex => ?_) fun u ys hu hy ⟨jc, jd⟩ => ?_
  · have := neg_up ex
    rw [show x + -1 = x - 1 by omega]
    exact ⟨by omega, by omega⟩
  have en : (pst h n u ++ [Cell.lst (ys.map T.int)])[h.length]? = some (.lst (ys.map T.int)) := at_end pst_len
  have go : gsOk (pst h n u ++ [Cell.lst (ys.map T.int)]) [(h.length, ys.map T.int)] := by
    intro g hg
    rw [List.mem_singleton.mp hg]
    exact en
  have as_ : asS (.loc h.length) (pst h n u ++ [Cell.lst (ys.map T.int)]) = .ok ⟨ys.map T.int, [(h.length, ys.map T.int)]⟩ (pst h n u ++ [Cell.lst (ys.map T.int)]) := asS_loc en
  have c1 := compLoop_map (gs := [(h.length, ys.map T.int)]) (tg := .one 7) (me := mCallF fMax (mCons (mC (.int 0)) (mCons (mVar 7) mNil))) (env := [some (.loc n), some (.tup (ps.map tN)), some (.loc h.length), none, none, none, none, none]) (h := pst h n u ++ [.lst (ys.map T.int)]) (ys.map T.int) (fun t => match t with | .int i => tN i.toNat | _ => .non) go (by rw [List.length_map]; omega) fun x hx => by
    obtain ⟨i, _, rfl⟩ := List.mem_map.mp hx
    exact ⟨_, b_one, by simp [tN]; split <;> omega⟩
  have m1 : (ys.map T.int).map (fun t => match t with | .int i => tN i.toNat | _ => .non) = (tops ys).map tN := by
    rw [tops, List.map_map, List.map_map]
    rfl
  rw [m1] at c1
  have c2 := compLoop_map (gs := [(h.length, ys.map T.int)]) (tg := .one 7) (me := mCallF fMax (mCons (mC (.int 0)) (mCons (mBin fSub (mC (.int 0)) (mVar 7)) mNil))) (env := [some (.loc n), some (.tup (ps.map tN)), some (.loc h.length), none, none, some (.tup ((tops ys).map tN)), none, none]) (h := pst h n u ++ [.lst (ys.map T.int)]) (ys.map T.int) (fun t => match t with | .int i => tN (-i).toNat | _ => .non) go (by rw [List.length_map]; omega) fun x hx => by
    obtain ⟨i, _, rfl⟩ := List.mem_map.mp hx
    exact ⟨_, b_one, by simp [tN]; split <;> omega⟩
  have m2 : (ys.map T.int).map (fun t => match t with | .int i => tN (-i).toNat | _ => .non) = (bots ys).map tN := by
    rw [bots, List.map_map, List.map_map]
    rfl
  rw [m2] at c2
  have small : ∀ es : List Nat, es.sum ≤ 3 → ∀ e ∈ es, e < 1000 := fun es hs e he => by
    have := single_le_sum he
    omega
  have p1 := product_eq (h := pst h n u ++ [.lst (ys.map T.int)]) (es := tops ys) (by rw [tops, List.length_map, hy]) (small _ jc)
  have p2 := product_eq (h := pst h n u ++ [.lst (ys.map T.int)]) (es := bots ys) (by rw [bots, List.length_map, hy]) (small _ (by show negS ys ≤ 3; omega))
  show ((sSeq _ _) _ _).wp _
  simp only [q2_seq, q2_set, q1_callF, q1_cons, q1_nil, q1_frz, mComp, q1_seqS, q1_var, List.getElem?_cons_succ, List.getElem?_cons_zero, bind_ok, as_, drop_cons, drop_nil, List.set_cons_succ, List.set_cons_zero, c1, tup_lst, ofO_some, bindE_ok, seq_nx, c2, q2_ret, q1_tup, q1_call, p1, p2, List.length_cons, List.length_nil]
  rw [if_pos (by decide), bindE_ok, so_rt]
  exact ⟨si_pst_app, .inl ⟨rfl, by rw [take_pst_app]; exact q _ _ u hu (frac_good hy jc (by omega))⟩⟩
end Gd
namespace Gd
open PySem PySem.Spec PyProof.Rows L2 Sm
theorem e_insert {h : Store} {m : Nat} {i : Int} {y : T} {xs : List T} (e : h.length = m) (hl : xs.length < 100000) (hy : y.pu = true) (h0 : 0 ≤ i) (h1 : i < 100000) :
    outM (fInsert (.loc m) [.int i, y] (h ++ [.lst xs])) = .ok .non (h ++ [.lst (xs.take i.toNat ++ [y] ++ xs.drop i.toNat)]) := by
  have c : cellL (h ++ [.lst xs]) m = some xs := by unfold cellL; rw [at_end e]
  have : fInsert (.loc m) [.int i, y] (h ++ [.lst xs]) = some (.non, (h ++ [Cell.lst xs]).set m (.lst (xs.take i.toNat ++ [y] ++ xs.drop i.toNat))) := by
    simp only [fInsert, c]
    rw [if_pos ⟨hl, hy, h0, h1⟩]
  rw [this, set_end e]
  rfl
theorem order_wp {h : Store} {n : Nat} {v : Int} {Q : T → Store → Prop} {X : Ex → Store → Prop} (p : potAt h n v)
    (q : ∀ (ps : List Nat) w, 0 ≤ w → ps.length = 10 → (∀ p ∈ ps, p < 10) → Q (.tup (ps.map tN)) (pst h n w)) : (F_law_order [.loc n, .int 10] h).wp Q X := by
  refine fn_wp rfl ?_
  show (b_law_order [some (.loc n), some (.int 10), none, none] h).wp _
  have hn := p.lt
  simp (disch := first | omega | simp) [b_law_order, sFor, asR1_ok, so_seq]
  refine forLoop_wp _ (fun i env h' => ∃ w ps, 0 ≤ w ∧ h' = pst h n w ++ [.lst (ps.map tN)] ∧ ps.length = i ∧ (∀ p ∈ ps, p < 10) ∧ env = [some (.loc n), none, some (.loc h.length), none]) ?_ ?_ ⟨v, [], p.2, by rw [pst_self p]; rfl, rfl, by simp, rfl⟩
  · rintro i x env h' hx ⟨w, ps, hw, rfl, hl, hp, rfl⟩
    obtain ⟨rfl, hi⟩ := range_at hx
    refine ⟨by simp, _, b_one, ?_⟩
    have z : (0 : Int) + (i : Int) = (i : Int) := by omega
    rw [z]
    have tk := take_2 (h := h) (l := [.lst (ps.map tN)]) (n := n) (v := w) (far := (i : Int) + 1) hn hw (by omega) (by omega)
    have w1 : 0 ≤ w / ((i : Int) + 1) := Int.ediv_nonneg hw (by omega)
    have a := Int.emod_nonneg w (show (i : Int) + 1 ≠ 0 by omega)
    have b := Int.emod_lt_of_pos w (show (0 : Int) < (i : Int) + 1 by omega)
    have lm : (ps.map tN).length = ps.length := List.length_map ..
    simp [at_end (h := pst h n w) (m := h.length) pst_len, tk]
    rw [e_insert pst_len (by omega) rfl a (by omega)]
    simp
    refine ⟨_, w1, ps.take (w % ((i : Int) + 1)).toNat ++ [i] ++ ps.drop (w % ((i : Int) + 1)).toNat, ⟨rfl, by simp [tN]⟩, ?_, ?_⟩
    · simp
      omega
    · intro r hr
      simp only [List.mem_append, List.mem_singleton] at hr
      rcases hr with (hr | rfl) | hr
      · exact hp r (List.mem_of_mem_take hr)
      · omega
      · exact hp r (List.mem_of_mem_drop hr)
  · rintro env h' ⟨w, ps, hw, rfl, hl, hp, rfl⟩
    rw [Sm.rangeT_length] at hl
    simp [e_tup, fnP]
    exact q ps w hw hl hp
theorem places_wp {h : Store} {n : Nat} {v : Int} {Q : T → Store → Prop} {X : Ex → Store → Prop} (p : potAt h n v)
    (q : ∀ (ps : List Nat) w, 0 ≤ w → ps ≠ [] → ps.length ≤ 10 → (∀ p ∈ ps, p < 10) → Q (.tup (ps.map tN)) (pst h n w)) : (F_law_places [.loc n] h).wp Q X := by
  refine fn_wp rfl ?_
  show (b_law_places [some (.loc n), none] h).wp _
  have hn := p.lt
  have v1 : 0 ≤ v / 5 := by have := p.2; omega
  have a : 0 ≤ v % 5 ∧ v % 5 < 5 := by have := p.2; omega
  have v2 : 0 ≤ v / 5 / 2 := by omega
  by_cases hz : v / 5 % 2 = 0
  · have r0 : asR2 [.int 0, .int (1 + v % 5)] (pst h n (v / 5 / 2)) = .ok ⟨Sm.rangeT 0 (1 + v % 5 - 0).toNat, []⟩ (pst h n (v / 5 / 2)) := asR2_ok (by omega) (by omega) (by omega) (by omega)
    have e : Sm.rangeT 0 (1 + v % 5 - 0).toNat = (List.range (1 + v % 5).toNat).map tN := by
      unfold Sm.rangeT
      rw [Int.sub_zero]
      refine List.map_congr_left fun i _ => ?_
      show T.int _ = T.int _
      congr 1
      omega
    rw [e] at r0
    simp (disch := first | omega | assumption | simp) [b_law_places, take_eq p, take_1, hz, r0, fnP]
    refine q _ _ v2 ?_ (by rw [List.length_range]; omega) fun p hp => by have := List.mem_range.mp hp; omega
    intro z
    have := congrArg List.length z
    rw [List.length_range] at this
    simp at this
    omega
  · simp (disch := first | omega | assumption | simp) [b_law_places, take_eq p, take_1, hz]
    simp only [so_bindE, wp_bind]
    refine order_wp (potAt.old hn v2) fun ps w hw hl hp => ?_
    simp (disch := first | omega | assumption | simp) [cut_to, fnP]
    have e : (ps.map tN).take (1 + v % 5).toNat = (ps.take (1 + v % 5).toNat).map tN := by rw [List.map_take]
    have pl : pus ((ps.map tN).take (1 + v % 5).toNat) = true := by rw [e]; exact pus_tN
    rw [pl]
    simp only [true_and, true_or, Bool.true_eq_false, false_and, or_false]
    rw [e]
    refine q (ps.take (1 + v % 5).toNat) w hw ?_ (by rw [List.length_take]; omega) fun p hm => hp p (List.mem_of_mem_take hm)
    intro z
    have := congrArg List.length z
    rw [List.length_take, List.length_nil] at this
    omega
end Gd
namespace Gd
open PySem PySem.Spec PyProof.Rows L2 Sm
def isFr (f : T) : Prop := ∃ a b : Nat, f = .tup [tN a, tN b] ∧ fracB f = true
theorem isFr.plain {f : T} (k : isFr f) : f.plain = true := by
  obtain ⟨a, b, rfl, _⟩ := k
  simp [tN]
theorem program_wpN {h : Store} {n : Nat} {v far : Int} {ps : List Nat} {Q : T → Store → Prop} {X : Ex → Store → Prop} (p : potAt h n v) (h0 : ps ≠ []) (h9 : ps.length < 1000) (hp : ∀ p ∈ ps, p < 10) (f0 : 0 < far) (f1 : far < 1000)
    (q : ∀ fs w, 0 ≤ w → 1 ≤ fs.length → (fs.length : Int) ≤ far → (∀ f ∈ fs, isFr f) → Q (.tup fs) (pst h n w)) : (F_law_program [.loc n, .tup (ps.map tN), .int far] h).wp Q X := by
  refine fn_wp rfl ?_
  show (b_law_program [some (.loc n), some (.tup (ps.map tN)), some (.int far), none] h).wp _
  have hn := p.lt
  have v1 : 0 ≤ v / far := Int.ediv_nonneg p.2 (by omega)
  have a : 0 ≤ v % far ∧ v % far < far := ⟨Int.emod_nonneg _ (by omega), Int.emod_lt_of_pos _ f0⟩
  simp (disch := first | omega | assumption | simp) [b_law_program, take_eq p, mComp, asR1_ok]
  simp only [so_bindE, wp_bind]
  refine compLoop_wp _ (fun i acc h' => ∃ w, 0 ≤ w ∧ h' = pst h n w ∧ acc.length = i ∧ ∀ f ∈ acc, isFr f) ?_ ?_ (by rw [Sm.rangeT_length]; omega) ⟨_, v1, rfl, rfl, by simp⟩
  · rintro i x acc h' hx ha ⟨w, hw, rfl, hl, hf⟩
    obtain ⟨rfl, hi⟩ := range_at hx
    refine ⟨by simp, _, b_one, ?_⟩
    simp
    refine fraction_wp (potAt.old hn hw) h0 h9 hp fun a b w2 hw2 fr => ?_
    refine ⟨w2, hw2, by simp, by simp [hl], fun f hm => ?_⟩
    rcases hm with m | m
    · exact hf f m
    · rw [m]
      exact ⟨a, b, rfl, fr⟩
  · rintro acc h' ⟨w, hw, rfl, hl, hf⟩
    rw [Sm.rangeT_length] at hl
    have pa : pus acc = true := pus_iff.mpr fun f hm => plain_pu (hf f hm).plain
    simp [fnP, pa]
    exact q acc w hw (by omega) (by omega) hf
end Gd
namespace Gd
open PySem PySem.Spec PyProof.Rows L2 Sm
abbrev iT (xs : List Int) : T := .tup (xs.map T.int)
def nI (es : List Nat) : List Int := es.map Int.ofNat
theorem tN_nI (es : List Nat) : es.map tN = (nI es).map T.int := by
  simp [nI, tN]
def zpT (xs ys : List Int) : List T := (xs.zip ys).map fun p => .tup [.int p.1, .int p.2]
theorem zw_zp : ∀ {xs ys : List Int}, List.zipWith pairT (xs.map T.int) (ys.map T.int) = zpT xs ys
  | [], _ => by simp [zpT]
  | _ :: _, [] => by simp [zpT]
  | x :: xs, y :: ys => by
    have := zw_zp (xs := xs) (ys := ys)
    simp only [List.map_cons, List.zipWith_cons_cons, this, zpT, List.zip_cons_cons]
    rfl
theorem src_zip {r : M (List T)} {env : Env'} {h h1 : Store} {xs ys : List Int} (er : r env h = .ok [iT xs, iT ys] h1) : mZip r env h = .ok ⟨zpT xs ys, []⟩ h1 := by
  unfold mZip
  rw [er]
  simp only [bind_ok, seqK, gdOf, lstOf, Option.map_some, List.append_nil, zw_zp]
theorem comp_zip {r : M (List T)} {env : Env'} {h h1 : Store} {xs ys : List Int} {tg : Tgt} {own : List Nat} {me : M T} (f : Int → Int → T) (es : mZip r env h = .ok ⟨zpT xs ys, []⟩ h1) (hl : xs.length ≤ 1000)
    (el : ∀ x y, ∃ env1, bindT tg (.tup [.int x, .int y]) (dropE own env) = some env1 ∧ me env1 h1 = .ok (f x y) h1) :
    mComp (mZip r) own tg mYes me env h = .ok ((xs.zip ys).map fun p => f p.1 p.2) h1 := by
  unfold mComp
  rw [es]
  show compLoop [] tg mYes me (dropE own env) (zpT xs ys) [] h1 = _
  have kc := compLoop_map (gs := []) (tg := tg) (me := me) (env := dropE own env) (h := h1) (zpT xs ys) (fun t => match t with | .tup [.int u, .int v] => f u v | _ => .non) (by simp) (by simp [zpT]; omega) fun z hz => by
    obtain ⟨p, hp, rfl⟩ := List.mem_map.mp hz
    obtain ⟨e, a, b⟩ := el p.1 p.2
    exact ⟨e, a, b⟩
  rw [kc]
  unfold zpT
  rw [List.map_map]
  rfl
def subL (xs ys : List Int) : List Int := (xs.zip ys).map fun p => p.1 - p.2
def fits (xs ws : List Int) : Bool := (xs.zip ws).all fun p => decide (p.2 ≤ p.1)
theorem zip_ints {f : Int → Int → Int} {xs ys : List Int} : ((xs.zip ys).map fun p => T.int (f p.1 p.2)) = ((xs.zip ys).map fun p => f p.1 p.2).map T.int := by
  rw [List.map_map]
  rfl
theorem subL_len {xs ys : List Int} : (subL xs ys).length = min xs.length ys.length := by simp [subL]
abbrev Fr := Nat × Nat
def frT (p : Fr) : T := .tup [tN p.1, tN p.2]
abbrev prT (fr : List Fr) : T := .tup (fr.map frT)
structure okFr (p : Fr) : Prop where
  a0 : 0 < p.1
  b0 : 0 < p.2
  fa : full p.1 = true
  fb : full p.2 = true
  am : p.1 ≤ 1000000000000
  bm : p.2 ≤ 1000000000000
  co : Nat.gcd p.1 p.2 = 1
def okP (fr : List Fr) : Prop := ∀ p ∈ fr, okFr p
theorem okFr_of {f : T} (k : isFr f) : ∃ p, f = frT p ∧ okFr p := by
  obtain ⟨a, b, rfl, e⟩ := k
  refine ⟨(a, b), rfl, ?_⟩
  simp only [tN, fracB, upto, Bool.and_eq_true, decide_eq_true_eq, Int.toNat_natCast] at e
  obtain ⟨⟨⟨⟨⟨a1, a2⟩, b1, b2⟩, fa⟩, fb⟩, co⟩ := e
  exact ⟨by show 0 < a; omega, by show 0 < b; omega, fa, fb, by show a ≤ _; omega, by show b ≤ _; omega, co⟩
theorem okFr_is {p : Fr} (k : okFr p) : fracB (frT p) = true := by
  obtain ⟨a0, b0, fa, fb, am, bm, co⟩ := k
  obtain ⟨a, b⟩ := p
  simp only [frT, tN, fracB, upto, Bool.and_eq_true, decide_eq_true_eq, Int.toNat_natCast]
  simp only at a0 b0 am bm fa fb co
  exact ⟨⟨⟨⟨⟨by omega, by omega⟩, by omega, by omega⟩, fa⟩, fb⟩, co⟩
theorem okP_of : ∀ {fs : List T}, (∀ f ∈ fs, isFr f) → ∃ fr : List Fr, fs = fr.map frT ∧ okP fr
  | [], _ => ⟨[], rfl, fun _ h => absurd h (by simp)⟩
  | f :: r, h => by
    obtain ⟨p, e1, k⟩ := okFr_of (h f (by simp))
    obtain ⟨fr, e2, k2⟩ := okP_of fun g m => h g (List.mem_cons_of_mem _ m)
    refine ⟨p :: fr, by rw [e1, e2]; rfl, fun q m => ?_⟩
    rcases List.mem_cons.mp m with e | m
    · rw [e]; exact k
    · exact k2 q m
def ex (n : Nat) : List Int := nI (stripAll PR n).1
theorem ex_len {n : Nat} : (ex n).length = 10 := by simp [ex, nI, stripAll_len, PR]
theorem full_ex {n : Nat} (f : full n = true) : fullT n = iT (ex n) := by
  have : (stripAll PR n).2 = 1 := by simpa [full] using f
  rw [fullT, if_pos this, tN_nI]
  rfl
def addF (p : Fr) : List Int := subL (ex p.1) (ex p.2)
theorem addF_len {p : Fr} : (addF p).length = 10 := by simp [addF, subL_len, ex_len]
abbrev topsT (fr : List Fr) : T := .lst (fr.map fun p => iT (ex p.1))
abbrev wantT (fr : List Fr) : T := .lst (fr.map fun p => iT (ex p.2))
abbrev addsT (fr : List Fr) : T := .lst (fr.map fun p => iT (addF p))
section
variable {h : Store} {fr : List Fr}
theorem pus_map {α : Type} {f : α → T} {l : List α} (k : ∀ x, (f x).pu = true) : pus (l.map f) = true := pus_iff.mpr fun t m => by
  obtain ⟨x, _, rfl⟩ := List.mem_map.mp m
  exact k x
theorem pu_iT {xs : List Int} : (iT xs).pu = true := by simp
theorem tops_eq (k : okP fr) (hl : fr.length ≤ 1000) : F_tops_of [prT fr] h = .ok (topsT fr) h := by
  refine Out.wp_eq (fn_wp rfl ?_)
  show (b_tops_of [some (prT fr), none, none] h).wp _
  have kc := compLoop_map (gs := []) (tg := .tup [1, 2]) (me := mCall F_found_powers (mCons (mVar 1) mNil)) (env := [some (prT fr), none, none]) (h := h) (fr.map frT) (fun t => match t with | .tup [.int u, .int v] => fullT u.toNat | _ => .non) (by simp) (by simp; omega) fun z hz => by
    obtain ⟨p, hp, rfl⟩ := List.mem_map.mp hz
    refine ⟨_, b_tup, ?_⟩
    have e := found_eq (h := h) (k p hp).a0
    simp only [tN] at e
    simp [setT, tN, e, frT]
  have em : ((fr.map frT).map fun t => match t with | .tup [.int u, .int v] => fullT u.toNat | _ => .non) = fr.map fun p => iT (ex p.1) := by
    rw [List.map_map]
    refine List.map_congr_left fun (p : Fr) hp => ?_
    show fullT (p.1 : Int).toNat = _
    rw [Int.toNat_natCast, full_ex (k p hp).fa]
  rw [em] at kc
  simp [b_tops_of, mComp, kc, fnP, pus_map (fun p : Fr => pu_iT (xs := ex p.1))]
theorem bottoms_eq (k : okP fr) (hl : fr.length ≤ 1000) : F_bottoms_of [prT fr] h = .ok (wantT fr) h := by
  refine Out.wp_eq (fn_wp rfl ?_)
  show (b_bottoms_of [some (prT fr), none, none] h).wp _
  have kc := compLoop_map (gs := []) (tg := .tup [1, 2]) (me := mCall F_found_powers (mCons (mVar 2) mNil)) (env := [some (prT fr), none, none]) (h := h) (fr.map frT) (fun t => match t with | .tup [.int u, .int v] => fullT v.toNat | _ => .non) (by simp) (by simp; omega) fun z hz => by
    obtain ⟨p, hp, rfl⟩ := List.mem_map.mp hz
    refine ⟨_, b_tup, ?_⟩
    have e := found_eq (h := h) (k p hp).b0
    simp only [tN] at e
    simp [setT, tN, e, frT]
  have em : ((fr.map frT).map fun t => match t with | .tup [.int u, .int v] => fullT v.toNat | _ => .non) = fr.map fun p => iT (ex p.2) := by
    rw [List.map_map]
    refine List.map_congr_left fun (p : Fr) hp => ?_
    show fullT (p.2 : Int).toNat = _
    rw [Int.toNat_natCast, full_ex (k p hp).fb]
  rw [em] at kc
  simp [b_bottoms_of, mComp, kc, fnP, pus_map (fun p : Fr => pu_iT (xs := ex p.2))]
end
end Gd
namespace Gd
open PySem PySem.Spec PyProof.Rows L2 Sm
section
variable {h : Store} {fr : List Fr}
theorem src_zipA {r : M (List T)} {env : Env'} {h h1 : Store} {xs ys : List T} (er : r env h = .ok [.lst xs, .lst ys] h1) : mZip r env h = .ok ⟨List.zipWith pairT xs ys, []⟩ h1 := by
  unfold mZip
  rw [er]
  simp only [bind_ok, seqK, gdOf, lstOf, Option.map_some, List.append_nil]
theorem zw_map {α : Type} {f g : α → T} : ∀ l : List α, List.zipWith pairT (l.map f) (l.map g) = l.map fun x => pairT (f x) (g x)
  | [] => rfl
  | x :: r => by simp only [List.map_cons, List.zipWith_cons_cons, zw_map r]
theorem getm {α : Type} {f : α → T} {l : List α} {i : Nat} {t : T} (e : (l.map f)[i]? = some t) : ∃ x, l[i]? = some x ∧ t = f x ∧ i < l.length := by
  rw [List.getElem?_map, Option.map_eq_some_iff] at e
  obtain ⟨x, a, b⟩ := e
  exact ⟨x, a, b.symm, (List.getElem?_eq_some_iff.mp a).1⟩
theorem take_snoc {α : Type} {l : List α} {i : Nat} {x : α} (e : l[i]? = some x) : l.take (i + 1) = l.take i ++ [x] := by
  rw [List.take_add_one, e]
  rfl
theorem sub_comp {env : Env'} {i j a b : Nat} {xs ys : List Int} (ea : env[a]? = some (some (iT xs))) (eb : env[b]? = some (some (iT ys))) (hl : xs.length ≤ 1000) (h1 : i < env.length) (h2 : j < env.length) (ne : i ≠ j) :
    mComp (mZip (mCons (mVar a) (mCons (mVar b) mNil))) [i, j] (.tup [i, j]) mYes (mBin fSub (mVar i) (mVar j)) env h = .ok ((subL xs ys).map T.int) h := by
  have es : mZip (mCons (mVar a) (mCons (mVar b) mNil)) env h = .ok ⟨zpT xs ys, []⟩ h := src_zip (by simp [ea, eb])
  rw [comp_zip (fun x y => .int (x - y)) es hl fun x y => ⟨_, b_tup, ?_⟩]
  · rw [zip_ints]
    rfl
  · have l1 : i < (dropE [i, j] env).length := by simpa [dropE] using h1
    have l2 : j < (dropE [i, j] env).length := by simpa [dropE] using h2
    simp only [setT, q1_bin, q1_var]
    rw [List.getElem?_set_ne (Ne.symm ne), List.getElem?_set_self l1]
    simp only [bind_ok]
    rw [List.getElem?_set_self (by simpa using l2)]
    rfl
theorem changes_eq (k : okP fr) (hl : fr.length ≤ 1000) : F_changes_of [prT fr] h = .ok (addsT fr) h := by
  refine Out.wp_eq (fn_wp rfl ?_)
  show (b_changes_of [some (prT fr), none, none, none, none, none] h).wp _
  simp only [b_changes_of, q2_seq, q2_set, q1_cell, q1_lst, q1_nil, bind_ok, List.length_nil, Nat.zero_le, if_true, pus_nil, bindE_ok, seq_nx, so_seq, List.set]
  rw [sFor_of (src_zipA (h1 := h ++ [.lst []]) (xs := fr.map fun p => iT (ex p.1)) (ys := fr.map fun p => iT (ex p.2)) (by simp [tops_eq k hl, bottoms_eq k hl]))]
  refine forLoop_wp _ (fun i env h' => h' = h ++ [.lst ((fr.take i).map fun p => iT (addF p))] ∧ env = [none, some (.loc h.length), none, none, none, none]) ?_ ?_ ⟨rfl, rfl⟩
  · rintro i x env h' hx ⟨rfl, rfl⟩
    rw [zw_map] at hx
    obtain ⟨p, hp, rfl, hi⟩ := getm hx
    refine ⟨by simp, _, b_tup, ?_⟩
    have sc : ∀ h0 : Store, mComp (mZip (mCons (mVar 3) (mCons (mVar 2) mNil))) [4, 5] (.tup [4, 5]) mYes (mBin fSub (mVar 4) (mVar 5)) [none, some (.loc h.length), some (iT (ex p.2)), some (iT (ex p.1)), none, none] h0 = .ok ((addF p).map T.int) h0 := fun h0 =>
      sub_comp (by rfl) (by rfl) (by rw [ex_len]; omega) (by simp) (by simp) (by simp)
    simp [setT, pairT, sc]
    rw [e_append rfl (by simp; omega) (by simp)]
    have tk : (fr.map fun p => iT (addF p)).take (i + 1) = (fr.map fun p => iT (addF p)).take i ++ [iT (addF p)] := take_snoc (by simp [hp])
    simp [tk]
  · rintro env h' ⟨rfl, rfl⟩
    rw [zw_map, List.length_map, List.take_length]
    simp [fnP, frz, pus_map (fun p : Fr => pu_iT (xs := addF p)), si_app]
end
end Gd
namespace Gd
open PySem PySem.Spec PyProof.Rows L2 Sm
section
variable {h h1 : Store} {fr : List Fr} {c n i j : Nat} {m mo mv : M T} {r : M (List T)} {env : Env'} {F : Fn} {nm f : Str} {fs : List (Str × T)}
@[simp] theorem q1_fld : mFld c f m env h = (m env h).bind fun a h1 => Out.ofO ((insOf c h1 a).bind fun p => p.2.lookup f) h1 := rfl
theorem insOf_at (e : h[n]? = some (.ins c fs)) : insOf c h (.loc n) = some (n, fs) := by
  simp [insOf, e]
def sW : Str := "wants"
def sA : Str := "adds"
def waysC (fr : List Fr) : Cell := .ins 0 [(sW, wantT fr), (sA, addsT fr)]
theorem put_adds {a b : T} : putT sA b [(sW, a)] = [(sW, a), (sA, b)] := by
  unfold putT
  rw [if_neg (by decide)]
  rfl
theorem init_eq (k : okP fr) (hl : fr.length ≤ 1000) : F_Ways_init [.loc h.length, prT fr] (h ++ [.ins 0 []]) = .ok .non (h ++ [waysC fr]) := by
  refine Out.wp_eq' (fnK_wp rfl ?_)
  show (b_Ways_init [some (.loc h.length), some (prT fr)] (h ++ [.ins 0 []])).wp _
  have e1 : ∀ fs : List (Str × T), insOf 0 (h ++ [.ins 0 fs]) (.loc h.length) = some (h.length, fs) := fun fs => insOf_at (by simp)
  have b1 : ∀ h0 : Store, F_bottoms_of [prT fr] h0 = .ok (wantT fr) h0 := fun h0 => bottoms_eq k hl
  have b2 : ∀ h0 : Store, F_changes_of [prT fr] h0 = .ok (addsT fr) h0 := fun h0 => changes_eq k hl
  have s1 : (h ++ [Cell.ins 0 []]).set h.length (.ins 0 (putT sW (wantT fr) [])) = h ++ [.ins 0 [(sW, wantT fr)]] := set_end rfl
  have s2 : (h ++ [Cell.ins 0 [(sW, wantT fr)]]).set h.length (.ins 0 (putT sA (addsT fr) [(sW, wantT fr)])) = h ++ [waysC fr] := by rw [put_adds]; exact set_end rfl
  have p1 : Sm.sFld 0 sW (mCall F_bottoms_of (mCons (mVar 1) mNil)) (mVar 0) [some (.loc h.length), some (prT fr)] (h ++ [.ins 0 []]) = .nx [some (.loc h.length), some (prT fr)] (h ++ [.ins 0 [(sW, wantT fr)]]) := by
    unfold Sm.sFld
    simp only [q1_call, q1_cons, q1_var, q1_nil, bind_ok, List.getElem?_cons_succ, List.getElem?_cons_zero, b1, bindE_ok, e1]
    rw [if_pos (by decide), s1]
  have p2 : Sm.sFld 0 sA (mCall F_changes_of (mCons (mVar 1) mNil)) (mVar 0) [some (.loc h.length), some (prT fr)] (h ++ [.ins 0 [(sW, wantT fr)]]) = .nx [some (.loc h.length), some (prT fr)] (h ++ [waysC fr]) := by
    unfold Sm.sFld
    simp only [q1_call, q1_cons, q1_var, q1_nil, bind_ok, List.getElem?_cons_succ, List.getElem?_cons_zero, b2, bindE_ok, e1]
    rw [if_pos (by simp), s2]
  unfold b_Ways_init
  rw [q2_seq]
  show ((Sm.sFld 0 sW _ _ _ _).seq (Sm.sFld 0 sA _ _)).wp _
  rw [p1, seq_nx, p2]
  exact ⟨rfl, rfl⟩
theorem ways_new (er : r env h = .ok [prT fr] h1) (k : okP fr) (hl : fr.length ≤ 1000) : mNew 0 F_Ways_init r env h = .ok (.loc h1.length) (h1 ++ [waysC fr]) := by
  unfold mNew
  rw [er]
  simp only [bind_ok]
  rw [init_eq k hl]
  rfl
theorem ways_wants (e : h[n]? = some (waysC fr)) : (insOf 0 h (.loc n)).bind (fun p => p.2.lookup sW) = some (wantT fr) := by
  rw [insOf_at e]
  rfl
theorem ways_adds (e : h[n]? = some (waysC fr)) : (insOf 0 h (.loc n)).bind (fun p => p.2.lookup sA) = some (addsT fr) := by
  rw [insOf_at e]
  rw [Option.bind_some, List.lookup_cons, show (sA == sW) = false by decide]
  simp
def firstL : List (List Int) → List Int → Option Nat
  | [], _ => none
  | w :: r, xs => if fits xs w then some 0 else (firstL r xs).map (· + 1)
def optT : Option Nat → T
  | some n => tN n
  | none => .non
def goneL (xs as : List Int) (k : Int) : List Int := (xs.zip as).map fun p => p.1 + k * p.2
def wantsL (fr : List Fr) : List (List Int) := fr.map fun p => ex p.2
theorem firstL_none : ∀ {ws : List (List Int)} {xs : List Int}, firstL ws xs = none ↔ ∀ w ∈ ws, fits xs w = false
  | [], xs => by simp [firstL]
  | w :: r, xs => by
    unfold firstL
    cases e : fits xs w with
    | true => simp [e]
    | false => simp [e, firstL_none (ws := r)]
theorem firstL_some : ∀ {ws : List (List Int)} {xs : List Int} {n : Nat}, firstL ws xs = some n ↔ (∃ w, ws[n]? = some w ∧ fits xs w = true) ∧ ∀ i w, i < n → ws[i]? = some w → fits xs w = false
  | [], xs, n => by simp [firstL]
  | w :: r, xs, n => by
    unfold firstL
    cases e : fits xs w with
    | true =>
      rw [if_pos rfl]
      constructor
      · intro h
        cases h
        exact ⟨⟨w, rfl, e⟩, fun i w h => absurd h (by omega)⟩
      · rintro ⟨_, h⟩
        cases n with
        | zero => rfl
        | succ n =>
          have := h 0 w (by omega) rfl
          rw [e] at this
          cases this
    | false =>
      rw [if_neg Bool.false_ne_true, Option.map_eq_some_iff]
      constructor
      · rintro ⟨m, h, rfl⟩
        obtain ⟨⟨u, a, b⟩, c⟩ := firstL_some.mp h
        refine ⟨⟨u, a, b⟩, fun i z hi hz => ?_⟩
        cases i with
        | zero => cases hz; exact e
        | succ i => exact c i z (by omega) hz
      · rintro ⟨⟨u, a, b⟩, c⟩
        cases n with
        | zero =>
          cases a
          rw [e] at b
          cases b
        | succ n => exact ⟨n, firstL_some.mpr ⟨⟨u, a, b⟩, fun i z hi hz => c (i + 1) z (by omega) hz⟩, rfl⟩
theorem comp_all {r : M (List T)} {env : Env'} {h h1 : Store} {xs ys : List Int} {tg : Tgt} {own : List Nat} {me : M T} (f : Int → Int → Bool) (es : mZip r env h = .ok ⟨zpT xs ys, []⟩ h1) (hl : xs.length ≤ 1000)
    (el : ∀ x y, ∃ env1, bindT tg (.tup [.int x, .int y]) (dropE own env) = some env1 ∧ me env1 h1 = .ok (.bl (f x y)) h1) :
    mCallF fAll (mCons (mFrz (mComp (mZip r) own tg mYes me)) mNil) env h = .ok (.bl ((xs.zip ys).all fun p => f p.1 p.2)) h1 := by
  simp only [q1_callF, q1_cons, q1_frz, q1_nil]
  rw [comp_zip (fun x y => .bl (f x y)) es hl el]
  simp only [bind_ok]
  rw [all_map (fun p : Int × Int => f p.1 p.2)]
  rfl
theorem enum_at {xs : List T} {i : Nat} {x : T} (e : (enumT 0 xs)[i]? = some x) : ∃ t, xs[i]? = some t ∧ x = .tup [tN i, t] := by
  rw [enumT_get, Option.map_eq_some_iff] at e
  obtain ⟨t, a, b⟩ := e
  refine ⟨t, a, ?_⟩
  rw [← b, Nat.zero_add]
  rfl
theorem src_enum {r : M (List T)} {env : Env'} {h h1 : Store} {xs : List T} (er : r env h = .ok [.lst xs] h1) : mEnum r env h = .ok ⟨enumT 0 xs, []⟩ h1 := by
  unfold mEnum
  rw [er]
  rfl
theorem first_eq (e : h[n]? = some (waysC fr)) {xs : List Int} (hx : xs.length = 10) : F_Ways_first [.loc n, iT xs] h = .ok (optT (firstL (wantsL fr) xs)) h := by
  refine Out.wp_eq (fn_wp rfl ?_)
  show (b_Ways_first [some (.loc n), some (iT xs), none, none, none, none] h).wp _
  simp only [b_Ways_first, q2_seq, so_seq]
  rw [sFor_of (src_enum (h1 := h) (xs := fr.map fun p => iT (ex p.2)) (by simp only [q1_cons, q1_fld, q1_var, q1_nil, bind_ok, List.getElem?_cons_zero]; rw [show (("wants" : Str)) = sW from rfl, ways_wants e]; rfl))]
  refine forLoop_wp _ (fun i env h' => h' = h ∧ env = [none, some (iT xs), none, none, none, none] ∧ ∀ j w, j < i → (wantsL fr)[j]? = some w → fits xs w = false) ?_ ?_ ⟨rfl, rfl, fun j w hj => absurd hj (by omega)⟩
  · rintro i x env h' hx' ⟨rfl, rfl, ih⟩
    obtain ⟨t, ht, rfl⟩ := enum_at hx'
    obtain ⟨p, hp, rfl, hi⟩ := getm ht
    refine ⟨by simp, _, b_tup, ?_⟩
    have sc : mCallF fAll (mCons (mFrz (mComp (mZip (mCons (mVar 1) (mCons (mVar 3) mNil))) [4, 5] (.tup [4, 5]) mYes (mBin fGe (mVar 4) (mVar 5)))) mNil) [none, some (iT xs), some (tN i), some (iT (ex p.2)), none, none] h' = .ok (.bl (fits xs (ex p.2))) h' :=
      comp_all (fun x y => decide (y ≤ x)) (src_zip (by simp)) (by omega) fun x y => ⟨_, b_tup, by simp [setT]⟩
    have hw : (wantsL fr)[i]? = some (ex p.2) := by simp [wantsL, hp]
    simp only [setT, List.set, q2_if, q1_tru, sc, bind_ok, truF_bl, ofO_some, bindE_ok]
    cases ef : fits xs (ex p.2) with
    | true =>
      have : firstL (wantsL fr) xs = some i := firstL_some.mpr ⟨⟨_, hw, ef⟩, ih⟩
      simp [this, fnP, optT, tN]
    | false =>
      simp
      intro j w hj hw'
      by_cases q : j = i
      · subst q
        rw [hw] at hw'
        cases hw'
        exact ef
      · exact ih j w (by omega) hw'
  · rintro env h' ⟨rfl, rfl, ih⟩
    have : firstL (wantsL fr) xs = none := firstL_none.mpr fun w hm => by
      obtain ⟨j, hj⟩ := List.mem_iff_getElem?.mp hm
      refine ih j w ?_ hj
      have := (List.getElem?_eq_some_iff.mp hj).1
      rw [enumT_length]
      simpa [wantsL] using this
    simp [this, fnP, optT]
end
end Gd
namespace Gd
open PySem PySem.Spec PyProof.Rows L2 Sm
section
variable {h : Store}
theorem isi_locL {n : Nat} {xs : List T} (e : h[n]? = some (.lst xs)) (ty : String) : fIsi ty (.loc n) h = some (.bl (isiB "list" ty)) := by
  simp [fIsi, tyOf, e]
end
theorem stripAll_mul : ∀ {ps : List Nat} {n : Nat}, (∀ p ∈ ps, 1 < p) → 0 < n → n = prodOf ps (stripAll ps n).1 * (stripAll ps n).2
  | [], n, _, _ => by simp [stripAll, prodOf]
  | p :: ps, n, hp, h0 => by
    have p1 := hp p (by simp)
    have m0 := strip_pos p1 n h0
    have e1 := strip_mul p1 n h0
    have e2 := stripAll_mul (ps := ps) (n := (strip p n).2) (fun q hq => hp q (List.mem_cons_of_mem _ hq)) m0
    show n = p ^ (strip p n).1 * prodOf ps _ * _
    rw [Nat.mul_assoc]
    show n = p ^ (strip p n).1 * (prodOf ps (stripAll ps (strip p n).2).1 * (stripAll ps (strip p n).2).2)
    rw [← e2]
    exact e1
end Gd
namespace Gd
open PySem PySem.Spec PyProof.Rows L2 Sm
section
variable {h h1 : Store} {fr : List Fr} {c n i j : Nat} {m mo mv : M T} {r : M (List T)} {env : Env'} {F : Fn} {nm f : Str} {fs : List (Str × T)}
theorem gone_eq (e : h[n]? = some (waysC fr)) {xs : List Int} {k : Nat} {q : Int} {p : Fr} (hx : xs.length = 10) (hp : fr[k]? = some p) (hq : q.natAbs < 2 ^ 64) : F_Ways_gone [.loc n, iT xs, tN k, .int q] h = .ok (iT (goneL xs (addF p) q)) h := by
  refine Out.wp_eq (fn_wp rfl ?_)
  show (b_Ways_gone [some (.loc n), some (iT xs), some (tN k), some (.int q), none, none] h).wp _
  have hk : k < fr.length := (List.getElem?_eq_some_iff.mp hp).1
  have sc : mComp (mZip (mCons (mVar 1) (mCons (mBin fIdx (mFld 0 "adds" (mVar 0)) (mVar 2)) mNil))) [4, 5] (.tup [4, 5]) mYes (mBin fAdd (mVar 4) (mBin fMul (mVar 3) (mVar 5))) [some (.loc n), some (iT xs), some (tN k), some (.int q), none, none] h = .ok ((goneL xs (addF p) q).map T.int) h := by
    rw [comp_zip (h1 := h) (xs := xs) (ys := addF p) (fun x y => .int (x + q * y)) (src_zip ?_) (by omega) fun x y => ⟨_, b_tup, by simp [setT, mulB_l hq]⟩, zip_ints (f := fun x y => x + q * y)]
    · rfl
    · simp only [q1_cons, q1_var, q1_bin, q1_fld, q1_nil, bind_ok, List.getElem?_cons_succ, List.getElem?_cons_zero]
      rw [show (("adds" : Str)) = sA from rfl, ways_adds e]
      simp only [ofO_some, bind_ok, tN, q3_idxL]
      rw [atI_p (by omega) (by simpa using hk)]
      simp [hp]
  simp [b_Ways_gone, sc, fnP]
end
end Gd
namespace Gd
open PySem PySem.Spec PyProof.Rows L2 Sm
section
variable {h : Store} {fr : List Fr}
abbrev tabT (fr : List Fr) : T := .lst (fr.map fun p => .tup [iT (ex p.2), iT (addF p)])
theorem exps_ok {n : Nat} (n0 : 0 < n) (f : full n = true) {h : Store} : F_law_exps [tN n] h = .ok (iT (ex n)) h := by rw [exps_eq n0, full_ex f]
theorem table_eq (k : okP fr) (hl : fr.length ≤ 1000) : F_law_table [prT fr] h = .ok (tabT fr) h := by
  refine Out.wp_eq (fn_wp rfl ?_)
  show (b_law_table [some (prT fr), none, none, none, none, none, none] h).wp _
  simp only [b_law_table, q2_seq, q2_set, q1_cell, q1_lst, q1_nil, bind_ok, List.length_nil, Nat.zero_le, if_true, pus_nil, bindE_ok, seq_nx, so_seq, List.set]
  rw [sFor_of (show mSeq (mVar 0) _ _ = .ok ⟨fr.map frT, []⟩ (h ++ [.lst []]) by simp)]
  refine forLoop_wp _ (fun i env h' => h' = h ++ [.lst ((fr.take i).map fun p => T.tup [iT (ex p.2), iT (addF p)])] ∧ env = [none, some (.loc h.length), none, none, none, none, none]) ?_ ?_ ⟨rfl, rfl⟩
  · rintro i x env h' hx ⟨rfl, rfl⟩
    obtain ⟨p, hp, rfl, hi⟩ := getm hx
    refine ⟨by simp, _, b_tup, ?_⟩
    have kp := k p (List.mem_of_getElem? hp)
    have e1 : ∀ h0 : Store, F_law_exps [tN p.1] h0 = .ok (iT (ex p.1)) h0 := fun h0 => exps_ok kp.a0 kp.fa
    have e2 : ∀ h0 : Store, F_law_exps [tN p.2] h0 = .ok (iT (ex p.2)) h0 := fun h0 => exps_ok kp.b0 kp.fb
    have sc : ∀ h0 : Store, mComp (mZip (mCons (mCall F_law_exps (mCons (mVar 3) mNil)) (mCons (mVar 4) mNil))) [5, 6] (.tup [5, 6]) mYes (mBin fSub (mVar 5) (mVar 6)) [none, some (.loc h.length), some (tN p.2), some (tN p.1), some (iT (ex p.2)), none, none] h0 = .ok ((addF p).map T.int) h0 := fun h0 => by
      rw [comp_zip (h1 := h0) (xs := ex p.1) (ys := ex p.2) (fun x y => .int (x - y)) (src_zip (by simp [e1])) (by rw [ex_len]; omega) fun x y => ⟨_, b_tup, by simp [setT]⟩, zip_ints]
      rfl
    simp -implicitDefEqProofs [setT, sc, e2]
    rw [e_append rfl (by simp; omega) (by simp)]
    have tk : (fr.map fun p => T.tup [iT (ex p.2), iT (addF p)]).take (i + 1) = (fr.map fun p => T.tup [iT (ex p.2), iT (addF p)]).take i ++ [T.tup [iT (ex p.2), iT (addF p)]] := take_snoc (by simp [hp])
    simp [tk]
  · rintro env h' ⟨rfl, rfl⟩
    simp only [List.length_map, List.take_length]
    have : pus (fr.map fun p => T.tup [iT (ex p.2), iT (addF p)]) = true := pus_map fun p => by simp [pu_iT]
    simp [fnP, frz, this, si_app]
theorem min_lst {xs : List Int} (h0 : xs ≠ []) : fMin [.lst (xs.map T.int)] h = some (.int (minL xs)) := by
  unfold fMin
  simp only [lstOf, Option.bind_some, Sm.ints_map]
  rw [if_pos h0]
theorem min_ge {xs : List Int} (h0 : xs ≠ []) : decide (0 ≤ minL xs) = xs.all fun x => decide (0 ≤ x) := by
  obtain ⟨a, b⟩ := minL_is h0
  rw [Bool.eq_iff_iff, decide_eq_true_eq, List.all_eq_true]
  constructor
  · intro c x hx
    have := b x hx
    simp only [decide_eq_true_eq]
    omega
  · intro c
    simpa using c _ a
theorem fits_sub {xs ws : List Int} : ((subL xs ws).all fun x => decide (0 ≤ x)) = fits xs ws := by
  unfold subL fits
  rw [List.all_map]
  congr 1
  funext p
  simp only [Function.comp_apply, decide_eq_decide]
  omega
theorem first_of_eq {xs : List Int} (hx : xs.length = 10) : F_law_first_of [tabT fr, iT xs] h = .ok (optT (firstL (wantsL fr) xs)) h := by
  refine Out.wp_eq (fn_wp rfl ?_)
  show (b_law_first_of [some (tabT fr), some (iT xs), none, none, none, none, none] h).wp _
  simp only [b_law_first_of, q2_seq, so_seq]
  rw [sFor_of (src_enum (h1 := h) (xs := fr.map fun p => T.tup [iT (ex p.2), iT (addF p)]) (by simp))]
  refine forLoop_wp _ (fun i env h' => h' = h ∧ env = [none, some (iT xs), none, none, none, none, none] ∧ ∀ j w, j < i → (wantsL fr)[j]? = some w → fits xs w = false) ?_ ?_ ⟨rfl, rfl, fun j w hj => absurd hj (by omega)⟩
  · rintro i x env h' hx' ⟨rfl, rfl, ih⟩
    obtain ⟨t, ht, rfl⟩ := enum_at hx'
    obtain ⟨p, hp, rfl, hi⟩ := getm ht
    refine ⟨by simp, [none, some (iT xs), some (iT (addF p)), some (tN i), some (iT (ex p.2)), none, none], by rfl, ?_⟩
    have sc : mComp (mZip (mCons (mVar 1) (mCons (mVar 4) mNil))) [5, 6] (.tup [5, 6]) mYes (mBin fSub (mVar 5) (mVar 6)) [none, some (iT xs), some (iT (addF p)), some (tN i), some (iT (ex p.2)), none, none] h' = .ok ((subL xs (ex p.2)).map T.int) h' :=
      sub_comp (by rfl) (by rfl) (by omega) (by simp) (by simp) (by simp)
    have hw : (wantsL fr)[i]? = some (ex p.2) := by simp [wantsL, hp]
    have n0 : subL xs (ex p.2) ≠ [] := fun z => by
      have := subL_len (xs := xs) (ys := ex p.2)
      rw [z, hx, ex_len] at this
      simp at this
    have mn := min_lst (h := h') n0
    have mg := (min_ge n0).trans fits_sub
    have cond : mTst (mBin fGe (mCallF fMin (mCons (mFrz (mComp (mZip (mCons (mVar 1) (mCons (mVar 4) mNil))) [5, 6] (.tup [5, 6]) mYes (mBin fSub (mVar 5) (mVar 6)))) mNil)) (mC (.int 0))) [none, some (iT xs), some (iT (addF p)), some (tN i), some (iT (ex p.2)), none, none] h' = .ok (fits xs (ex p.2)) h' := by
      simp only [q1_tst, q1_bin, q1_callF, q1_cons, q1_frz, sc, q1_nil, q1_C, bind_ok, mn, ofO_some]
      rw [← mg]
      simp
    simp only [q2_if, cond, bindE_ok]
    cases ef : fits xs (ex p.2) with
    | true =>
      have : firstL (wantsL fr) xs = some i := firstL_some.mpr ⟨⟨_, hw, ef⟩, ih⟩
      simp [this, fnP, optT, tN]
    | false =>
      simp
      intro j w hj hw'
      by_cases q : j = i
      · subst q
        rw [hw] at hw'
        cases hw'
        exact ef
      · exact ih j w (by omega) hw'
  · rintro env h' ⟨rfl, rfl, ih⟩
    have : firstL (wantsL fr) xs = none := firstL_none.mpr fun w hm => by
      obtain ⟨j, hj⟩ := List.mem_iff_getElem?.mp hm
      refine ih j w ?_ hj
      have := (List.getElem?_eq_some_iff.mp hj).1
      rw [enumT_length]
      simpa [wantsL] using this
    simp [this, fnP, optT]
theorem put_eq {xs : List Int} {k : Nat} {q : Int} {p : Fr} (hx : xs.length = 10) (hp : fr[k]? = some p) (hq : q.natAbs < 2 ^ 64) : F_law_put_v2 [tabT fr, iT xs, tN k, .int q] h = .ok (iT (goneL xs (addF p) q)) h := by
  refine Out.wp_eq (fn_wp rfl ?_)
  show (b_law_put_v2 [some (tabT fr), some (iT xs), some (tN k), some (.int q), none, none] h).wp _
  have hk : k < fr.length := (List.getElem?_eq_some_iff.mp hp).1
  have at_ : atI (fr.map fun p => T.tup [iT (ex p.2), iT (addF p)]) (k : Int) = some (T.tup [iT (ex p.2), iT (addF p)]) := by
    rw [atI_p (by omega) (by simpa using hk)]
    simp [hp]
  have sc : mComp (mZip (mCons (mVar 1) (mCons (mBin fIdx (mBin fIdx (mVar 0) (mVar 2)) (mC (.int 1))) mNil))) [4, 5] (.tup [4, 5]) mYes (mBin fAdd (mVar 4) (mBin fMul (mVar 3) (mVar 5))) [some (tabT fr), some (iT xs), some (tN k), some (.int q), none, none] h = .ok ((goneL xs (addF p) q).map T.int) h := by
    rw [comp_zip (h1 := h) (xs := xs) (ys := addF p) (fun x y => .int (x + q * y)) (src_zip ?_) (by omega) fun x y => ⟨_, b_tup, by simp [setT, mulB_l hq]⟩, zip_ints (f := fun x y => x + q * y)]
    · rfl
    · simp only [q1_cons, q1_var, q1_bin, q1_C, q1_nil, bind_ok, List.getElem?_cons_succ, List.getElem?_cons_zero, tN, q3_idxL, at_, ofO_some]
      simp
  simp [b_law_put_v2, sc, fnP]
end
end Gd
namespace Gd
open PySem PySem.Spec PyProof.Rows L2 Sm
section
variable {h : Store} {fr : List Fr} {env : Env'} {a d : Addr} {e : Ex} {n : Nat}
theorem ways_methL {mo : M T} {r : M (List T)} {xs : List T} {nm : Str} {F : Fn} (em : mo env h = .ok (.loc n) h) (k : h[n]? = some (waysC fr)) (hn : (List.lookup nm [(sW, wantT fr), (sA, addsT fr)]).isNone = true) (er : r env h = .ok xs h) : mMeth 0 nm F mo r env h = F (.loc n :: xs) h := by
  unfold mMeth
  rw [em]
  simp only [bind_ok, insOf_at k]
  rw [if_pos hn, er]
  rfl
def stepP (fr : List Fr) (xs : List Int) : List Int := match firstL (wantsL fr) xs with
  | none => xs
  | some k => goneL xs (addF (fr.getD k (1, 1))) 1
def runP (fr : List Fr) (xs : List Int) : Nat → List Int
  | 0 => xs
  | n + 1 => stepP fr (runP fr xs n)
theorem goneL_len {xs as : List Int} {k : Int} (hx : xs.length = 10) (ha : as.length = 10) : (goneL xs as k).length = 10 := by simp [goneL, hx, ha]
theorem stepP_len {xs : List Int} (hx : xs.length = 10) : (stepP fr xs).length = 10 := by
  unfold stepP
  split
  · exact hx
  · exact goneL_len hx addF_len
theorem runP_len {xs : List Int} (hx : xs.length = 10) : ∀ n, (runP fr xs n).length = 10
  | 0 => hx
  | n + 1 => stepP_len (runP_len hx n)
theorem firstL_lt {xs : List Int} {k : Nat} (q : firstL (wantsL fr) xs = some k) : ∃ p, fr[k]? = some p ∧ fits xs (ex p.2) = true := by
  obtain ⟨⟨w, e1, e2⟩, _⟩ := firstL_some.mp q
  rw [wantsL, List.getElem?_map, Option.map_eq_some_iff] at e1
  obtain ⟨p, hp, rfl⟩ := e1
  exact ⟨p, hp, e2⟩
theorem getD_of {k : Nat} {p d : Fr} (q : fr[k]? = some p) : fr.getD k d = p := by simp [List.getD_eq_getElem?_getD, q]
abbrev restP (fr : List Fr) (xs : List Int) (j : Nat) : Bool := (firstL (wantsL fr) (runP fr xs j)).isNone
def ord1 (c : Nat) : List Bool := [decide (c = 11), decide (c = 21), decide (c = 20), decide (c = 14), decide (c = 15), decide (c = 18), decide (c = 16), decide (c = 22), decide (c = 13), decide (c = 19), decide (c = 17), decide (c = 12)]
def words1 : List T := [.str "rest", .str "deed", .str "name", .str "number", .str "order", .str "powers", .str "program", .str "row", .str "text", .str "trail", .str "shared", .str "many"]
theorem count_lst {bs : List Bool} {b : Bool} : fCount (.lst (bs.map T.bl)) [.bl b] h = some (.int ((bs.count b : Nat) : Int), h) := by
  have z : ∀ bs : List Bool, blsOf (bs.map T.bl) = some bs := fun bs => by
    induction bs with
    | nil => rfl
    | cons x r ih => rw [List.map_cons, blsOf, ih]; rfl
  simp only [fCount, lstOf, z]
  rfl
theorem index_lst {bs : List Bool} {j : Nat} (hj : bs.findIdx? id = some j) : fIndex (.lst (bs.map T.bl)) [.bl true] h = some (.int (j : Int), h) := by
  have flat : (bs.map T.bl).all flatT = true := List.all_eq_true.mpr fun x hx => by
    obtain ⟨b, _, rfl⟩ := List.mem_map.mp hx
    rfl
  simp only [fIndex, lstOf]
  rw [if_pos ⟨rfl, flat⟩, find_bl, hj, Option.map_some]
theorem kind1_eq {j : Nat} {t : T} (hc : (ord1 e.c).count true = 1) (hj : (ord1 e.c).findIdx? id = some j) (ht : words1[j]? = some t) (tp : t.pu = true) : F_law_kind_of a d e [exT a d e] h = .ok t h := by
  refine Out.wp_eq (fn_wp rfl ?_)
  show (b_law_kind_of a d e [some (exT a d e), none, none] h).wp _
  have i1 : ∀ (b : Bool) (x y : Option T) (h : Store), mIsX (exT a d e) b (mVar 0) [some (exT a d e), x, y] h = .ok (.bl b) h := fun b x y h => isX_ok rfl
  have cn := count_lst (h := h) (bs := ord1 e.c) (b := true)
  have ix := index_lst (h := h) hj
  have jl : j < 12 := by
    have := (List.getElem?_eq_some_iff.mp ht).1
    simpa [words1] using this
  have iw : atI words1 (j : Int) = some t := by
    rw [atI_p (by omega) (by simp [words1]; omega)]
    simpa using ht
  rw [hc] at cn
  simp only [ord1, List.map_cons, List.map_nil] at cn ix
  simp only [words1] at iw
  simp -implicitDefEqProofs (disch := simp) [b_law_kind_of, i1, cn, ix, iw, add_lst, fnP, tp, outM]
def mvL : List Nat → List Nat → List Nat → List Nat
  | x :: xs, y :: ys, z :: zs => (x + y - z) :: mvL xs ys zs
  | _, _, _ => []
theorem mv_all : ∀ {ps es as bs : List Nat}, es.length = ps.length → as.length = ps.length → bs.length = ps.length → fits (nI es) (nI bs) = true →
    goneL (nI es) (subL (nI as) (nI bs)) 1 = nI (mvL es as bs) ∧ prodOf ps es * prodOf ps as = prodOf ps (mvL es as bs) * prodOf ps bs ∧ (mvL es as bs).length = ps.length ∧ ∀ M N : Nat, (∀ x ∈ es, x ≤ M) → (∀ x ∈ as, x ≤ N) → ∀ x ∈ mvL es as bs, x ≤ M + N
  | [], [], [], [], _, _, _, _ => ⟨rfl, rfl, rfl, fun M N _ _ x hx => absurd hx (by simp [mvL])⟩
  | p :: ps, x :: es, y :: as, z :: bs, a, b, c, f => by
    simp only [nI, List.map_cons, fits, List.zip_cons_cons, List.all_cons, Bool.and_eq_true, decide_eq_true_eq] at f
    obtain ⟨i1, i2, i3, i4⟩ := mv_all (ps := ps) (es := es) (as := as) (bs := bs) (by simpa using a) (by simpa using b) (by simpa using c) f.2
    have le : z ≤ x := Int.ofNat_le.mp f.1
    refine ⟨?_, ?_, by simp [mvL, i3], fun M N hM hN w hw => ?_⟩
    · simp only [nI, goneL, subL, List.map_cons, List.zip_cons_cons, mvL] at i1 ⊢
      rw [i1]
      congr 1
      simp only [Int.ofNat_eq_natCast]
      omega
    · show p ^ x * prodOf ps es * (p ^ y * prodOf ps as) = p ^ (x + y - z) * prodOf ps (mvL es as bs) * (p ^ z * prodOf ps bs)
      rw [Nat.mul_mul_mul_comm, Nat.mul_mul_mul_comm (p ^ (x + y - z)), i2, ← Nat.pow_add, ← Nat.pow_add, show x + y - z + z = x + y by omega]
    · rcases List.mem_cons.mp hw with q | q
      · have := hM x (List.mem_cons_self ..)
        have := hN y (List.mem_cons_self ..)
        omega
      · exact i4 M N (fun u m => hM u (List.mem_cons_of_mem _ m)) (fun u m => hN u (List.mem_cons_of_mem _ m)) w q
theorem two_le_prod : ∀ {ps es : List Nat}, (∀ p ∈ ps, 1 < p) → es.length = ps.length → ∀ x ∈ es, 2 ^ x ≤ prodOf ps es
  | [], [], _, _, x, hx => absurd hx (by simp)
  | p :: ps, y :: es, hp, hl, x, hx => by
    have p1 := hp p (List.mem_cons_self ..)
    have pos := prodOf_pos (ps := ps) (es := es) fun q m => hp q (List.mem_cons_of_mem _ m)
    have p0 : 0 < p ^ y := Nat.pow_pos (by omega)
    show 2 ^ x ≤ p ^ y * prodOf ps es
    rcases List.mem_cons.mp hx with q | q
    · rw [q]
      have : 2 ^ y ≤ p ^ y := Nat.pow_le_pow_left p1 y
      exact Nat.le_trans this (Nat.le_mul_of_pos_right _ pos)
    · have := two_le_prod (ps := ps) (es := es) (fun q m => hp q (List.mem_cons_of_mem _ m)) (by simpa using hl) x q
      exact Nat.le_trans this (Nat.le_mul_of_pos_left _ p0)
theorem full_prod {n : Nat} (n0 : 0 < n) (f : full n = true) : prodOf PR (stripAll PR n).1 = n := by
  have e := stripAll_mul (ps := PR) (fun p hp => (PR_ok p hp).1) n0
  have q : (stripAll PR n).2 = 1 := by simpa [full] using f
  rw [q, Nat.mul_one] at e
  exact e.symm
theorem exps_small {n : Nat} (n0 : 0 < n) (f : full n = true) (hn : n ≤ 1000000000000) : ∀ x ∈ (stripAll PR n).1, x ≤ 40 := fun x hx => by
  have a := two_le_prod (fun p hp => (PR_ok p hp).1) (stripAll_len PR n) x hx
  rw [full_prod n0 f] at a
  apply Nat.le_of_not_lt
  intro c
  have : 2 ^ 41 ≤ 2 ^ x := Nat.pow_le_pow_right (by omega) c
  omega
theorem prod_step {es : List Nat} {p : Fr} {M : Nat} (k : okFr p) (hl : es.length = 10) (f : fits (nI es) (ex p.2) = true) (hM : ∀ x ∈ es, x ≤ M) :
    ∃ fs : List Nat, goneL (nI es) (addF p) 1 = nI fs ∧ fs.length = 10 ∧ (∀ x ∈ fs, x ≤ M + 40) ∧ prodOf PR es * p.1 = prodOf PR fs * p.2 := by
  obtain ⟨a, b, c, d⟩ := mv_all (ps := PR) (es := es) (as := (stripAll PR p.1).1) (bs := (stripAll PR p.2).1) hl (stripAll_len ..) (stripAll_len ..) f
  rw [full_prod k.a0 k.fa, full_prod k.b0 k.fb] at b
  exact ⟨_, a, c, d M 40 hM (exps_small k.a0 k.fa k.am), b⟩
theorem ex_of {n : Nat} (es : List Nat) (hl : es.length = PR.length) (e : prodOf PR es = n) : ex n = nI es ∧ full n = true := by
  have z := strip_prod (ps := PR) (es := es) (fun p hp => (PR_ok p hp).1) PR_pair hl
  rw [e] at z
  simp [full, ex, z]
end
end Gd
namespace Gd
open PySem PySem.Spec PyProof.Rows L2 Sm
section
variable {h : Store} {fr : List Fr}
theorem comp_flt {α : Type} {g : α → T} {l : List α} {src : M Src} {tg : Tgt} {own : List Nat} {tt : M Bool} {me : M T} {env : Env'} {h1 : Store} (p : α → Bool) (f : α → T) (es : src env h = .ok ⟨l.map g, []⟩ h1) (hl : l.length ≤ 1000)
    (el : ∀ x ∈ l, ∃ env1, bindT tg (g x) (dropE own env) = some env1 ∧ tt env1 h1 = .ok (p x) h1 ∧ (p x = true → me env1 h1 = .ok (f x) h1)) : mComp src own tg tt me env h = .ok ((l.filter p).map f) h1 := by
  unfold mComp
  rw [es, bind_ok]
  have w : (compLoop [] tg tt me (dropE own env) (l.map g) [] h1).wp (fun b h' => b = (l.filter p).map f ∧ h' = h1) (fun _ _ => False) := by
    refine compLoop_wp _ (fun i acc h' => h' = h1 ∧ acc = ((l.take i).filter p).map f) ?_ ?_ (by rw [List.length_map]; omega) ⟨rfl, rfl⟩
    · rintro i x acc h' hx ha ⟨rfl, rfl⟩
      obtain ⟨y, hy, rfl, _⟩ := getm hx
      obtain ⟨env1, a, b, c⟩ := el y (List.mem_of_getElem? hy)
      refine ⟨by simp, env1, a, ?_⟩
      rw [b, wp_ok, take_snoc hy, List.filter_append, List.map_append]
      cases q : p y with
      | true =>
        rw [if_pos rfl, c q, wp_ok]
        exact ⟨rfl, by simp [q]⟩
      | false =>
        rw [if_neg (by simp)]
        exact ⟨rfl, by simp [q]⟩
    · rintro acc h' ⟨rfl, rfl⟩
      refine ⟨by simp, ?_, rfl⟩
      rw [List.length_map, l.take_length]
  exact Out.wp_eq' w
theorem comp_map {α : Type} {g : α → T} {l : List α} {src : M Src} {tg : Tgt} {own : List Nat} {me : M T} {env : Env'} {h1 : Store} (f : α → T) (es : src env h = .ok ⟨l.map g, []⟩ h1) (hl : l.length ≤ 1000)
    (el : ∀ x ∈ l, ∃ env1, bindT tg (g x) (dropE own env) = some env1 ∧ me env1 h1 = .ok (f x) h1) : mComp src own tg mYes me env h = .ok (l.map f) h1 := by
  have := comp_flt (tt := mYes) (fun _ => true) f es hl fun x hx => by
    obtain ⟨e, a, b⟩ := el x hx
    exact ⟨e, a, rfl, fun _ => b⟩
  rw [this, List.filter_eq_self.mpr fun x hx => rfl]
theorem out_ex {o : Out T} {e : Ex} {h : Store} (q : o.wp (fun _ _ => False) (fun e2 h2 => e2 = e ∧ h2 = h)) : o = .ex e h := by
  revert q
  cases o with
  | ok a h2 => exact fun q => q.elim
  | ex e2 h2 =>
    rintro ⟨rfl, rfl⟩
    rfl
  | bad => exact fun q => q.elim
section
variable {a b : List Fr}
end
end
end Gd
namespace Gd
open PySem PySem.Spec PyProof.Rows L2 Sm
section
variable {h : Store} {n m : Nat} {a b : List Nat} {fr : List Fr} {p : Fr}
theorem plain_prog : ∀ fr : List Fr, plains (fr.map frT) = true
  | [] => rfl
  | p :: r => plain_prog r
end
end Gd
namespace Gd
open PySem PySem.Spec PyProof.Rows L2 Sm
section
variable {h : Store} {w : List Nat} {n : Nat}
theorem lenS (hw : w.length ≤ 100000) : fLen [.str (SX.S w)] h = some (.int (w.length : Int)) := by
  show (if (SX.S w).length ≤ 100000 then some (T.int ((SX.S w).length : Nat)) else none) = _
  rw [SX.S_len, if_pos hw]
end
end Gd
namespace Gd
open PySem PySem.Spec PyProof.Rows L2 Sm
section
variable {h : Store} {es : List Nat}
end
end Gd
namespace Gd
open PySem PySem.Spec PyProof.Rows L2 Sm
section
variable {h : Store} {es : List Nat} {t : T}
def nnB : T → Bool
  | .int i => decide (0 ≤ i)
  | _ => false
def rightB : T → Bool
  | .tup xs => decide (xs.length = 10) && xs.all nnB
  | _ => false
theorem is_powers_eq (k : t.plain = true) : F_is_powers [t] h = .ok (.bl (rightB t)) h := by
  refine Out.wp_eq (fn_wp rfl ?_)
  show (b_is_powers [some t, none] h).wp _
  have lp : ∀ h0, fLen [t_PRIMES] h0 = some (.int 10) := fun h0 => rfl
  cases t with
  | tup xs =>
    rw [plain_tup, plains_iff] at k
    by_cases c : xs.length = 10
    · have el : ∀ x ∈ xs, ∃ env1, bindT (.one 1) (id x) (dropE [1] [some (.tup xs), none]) = some env1 ∧ mAndV (mCall F_is_whole (mCons (mVar 1) mNil)) (mBin fGe (mVar 1) (mC (.int 0))) env1 h = .ok (.bl (nnB x)) h := fun x hx => by
        refine ⟨_, b_one, ?_⟩
        have w := whole_is (h := h) (k x hx)
        cases x with
        | int i => simp -implicitDefEqProofs [w, isW, nnB]
        | _ => simp -implicitDefEqProofs [w, isW, nnB]
      have cm := comp_map (h := h) (h1 := h) (g := id) (l := xs) (src := mSeq (mVar 0)) (tg := .one 1) (own := [1]) (env := [some (.tup xs), none]) (fun x => .bl (nnB x)) (by simp) (by omega) el
      have c2 : ((xs.length : Int) = 10) = True := by simp only [eq_iff_iff, iff_true]; omega
      simp -implicitDefEqProofs [b_is_powers, lp, c2, cm, all_map, fnP, rightB, c]
    · have c2 : ¬ (xs.length : Int) = 10 := by omega
      simp -implicitDefEqProofs [b_is_powers, lp, c2, fnP, rightB, c]
  | loc n => simp at k
  | scr ns => first | (simp at k; done) | (exact absurd k (by decide)) | cases k
  | adr a d f ts => simp at k
  | fnc fx => simp at k
  | dct _ _ => simp at k
  | _ => simp -implicitDefEqProofs [b_is_powers, fnP, rightB]
end
end Gd
namespace Gd
open PySem PySem.Spec PyProof.Rows L2 Sm
def low (c : Nat) : Bool := decide (97 ≤ c) && decide (c ≤ 122)
def nameW (w : List Nat) : Bool := decide (1 ≤ w.length) && decide (w.length ≤ 8) && w.all low
def nmOk : T → Bool
  | .str z => nameW (TL.tl z)
  | _ => false
def Sized (t : T) : Prop := ∀ z, t = .str z → z.length ≤ 100000
theorem s_abc : Str.ofString "abcdefghijklmnopqrstuvwxyz" = SX.S [97, 98, 99, 100, 101, 102, 103, 104, 105, 106, 107, 108, 109, 110, 111, 112, 113, 114, 115, 116, 117, 118, 119, 120, 121, 122] := by decide +kernel
theorem s_a : Str.ofString "a" = SX.S [97] := by decide +kernel
theorem s_z : Str.ofString "z" = SX.S [122] := by decide +kernel
section
variable {h : Store} {w : List Nat} {t : T} {z : Str}
theorem low_iff {c : Nat} : low c = true ↔ 97 ≤ c ∧ c ≤ 122 := by
  unfold low
  rw [Bool.and_eq_true, decide_eq_true_eq, decide_eq_true_eq]
theorem is_name_str (hw : w.length ≤ 100000) : F_is_name [.str (SX.S w)] h = .ok (.bl (nameW w)) h := by
  refine Out.wp_eq (fn_wp rfl ?_)
  show (b_is_name [some (.str (SX.S w)), none] h).wp _
  have isi : fIsi "str" (.str (SX.S w)) h = some (.bl true) := rfl
  have ln := lenS (h := h) hw
  have l1 : fLe (.int 1) (.int (w.length : Int)) h = some (.bl (decide (1 ≤ w.length))) := by
    rw [q3_le]
    congr 2
    rw [decide_eq_decide]
    omega
  have l2 : fLe (.int (w.length : Int)) t_LONGEST_NAME h = some (.bl (decide (w.length ≤ 8))) := by
    show fLe (.int _) (.int 8) h = _
    rw [q3_le]
    congr 2
    rw [decide_eq_decide]
    omega
  unfold b_is_name nameW
  simp -implicitDefEqProofs only [q2_seq, q2_if, q1_orT, q1_notT, q1_tru, q1_un, q1_tst, q1_chain, q1_callF, q1_cons, q1_nil, q1_var, q1_C, List.getElem?_cons_zero, bind_ok, isi, ofO_some, truF_bl, Bool.not_true, Bool.false_eq_true, if_false, ln, l1, asB_bl]
  by_cases c1 : 1 ≤ w.length
  · rw [decide_eq_true c1]
    simp -implicitDefEqProofs only [if_true, bind_ok, l2, ofO_some, asB_bl, Bool.true_and]
    by_cases c2 : w.length ≤ 8
    · rw [decide_eq_true c2]
      have c : mComp (mSeq (mVar 0)) [1] (.one 1) mYes (mBin fIn (mVar 1) (mC t_NAME_LETTERS)) [some (.str (SX.S w)), none] h = .ok (w.map fun c => T.bl (low c)) h := by
        refine comp_map (g := fun c => T.str ⟨#[c]⟩) (l := w) (fun c => .bl (low c)) ?_ (by omega) fun c hc => ⟨_, b_one, ?_⟩
        · simp only [q1_seqS, q1_var, List.getElem?_cons_zero, bind_ok]
          rfl
        · have ni : fIn (.str ⟨#[c]⟩) t_NAME_LETTERS h = some (.bl (low c)) := by
            show some (T.bl (decide (c ∈ (Str.ofString "abcdefghijklmnopqrstuvwxyz").cps.toList))) = _
            rw [s_abc]
            congr 2
            show decide (c ∈ [97, 98, 99, 100, 101, 102, 103, 104, 105, 106, 107, 108, 109, 110, 111, 112, 113, 114, 115, 116, 117, 118, 119, 120, 121, 122]) = _
            rw [Bool.eq_iff_iff, decide_eq_true_eq, low_iff]
            simp only [List.mem_cons, List.not_mem_nil, or_false]
            omega
          simp -implicitDefEqProofs only [List.set, drop_cons, drop_nil, q1_bin, q1_var, q1_C, List.getElem?_cons_zero, List.getElem?_cons_succ, bind_ok, ni, ofO_some]
      have al := all_map (h := h) low w
      simp -implicitDefEqProofs only [Bool.not_true, Bool.false_eq_true, if_false, bindE_ok, q2_nil, seq_nx, q2_ret, q1_callF, q1_cons, q1_nil, q1_frz, c, bind_ok, al, ofO_some, so_rt]
      exact ⟨si_self, .inl ⟨rfl, by simp, by simp⟩⟩
    · rw [decide_eq_false c2]
      simp -implicitDefEqProofs only [Bool.not_false, if_true, bindE_ok, q2_ret, q1_C, seq_rt, so_rt]
      exact ⟨si_self, .inl ⟨rfl, rfl, by simp⟩⟩
  · rw [decide_eq_false c1]
    simp -implicitDefEqProofs only [Bool.false_eq_true, if_false, bind_ok, asB_bl, Bool.not_false, if_true, bindE_ok, q2_ret, q1_C, seq_rt, so_rt]
    exact ⟨si_self, .inl ⟨rfl, by simp, by simp⟩⟩
theorem nmOk_no (i : fIsi "str" t h = some (.bl false)) : nmOk t = false := by
  cases t with
  | str z => cases i
  | _ => rfl
theorem is_name_no (i : fIsi "str" t h = some (.bl false)) : F_is_name [t] h = .ok (.bl false) h := by
  refine Out.wp_eq (fn_wp rfl ?_)
  show (b_is_name [some t, none] h).wp _
  unfold b_is_name
  simp -implicitDefEqProofs only [q2_seq, q2_if, q1_orT, q1_notT, q1_tru, q1_un, q1_var, List.getElem?_cons_zero, bind_ok, i, ofO_some, truF_bl, Bool.not_false, if_true, bindE_ok, q2_ret, q1_C, seq_rt, so_rt]
  exact ⟨si_self, .inl ⟨rfl, rfl, by simp⟩⟩
theorem plain_str_isi (k : t.plain = true) : (∃ z, t = .str z) ∨ fIsi "str" t h = some (.bl false) := by
  cases t with
  | str z => exact .inl ⟨z, rfl⟩
  | loc n => simp at k
  | scr n => simp at k
  | adr _ _ _ _ => simp at k
  | fnc _ => simp at k
  | dct _ _ => simp at k
  | _ => exact .inr rfl
theorem is_name_eq (k : t.plain = true) (s : Sized t) : F_is_name [t] h = .ok (.bl (nmOk t)) h := by
  rcases plain_str_isi (h := h) k with ⟨z, rfl⟩ | i
  · have := is_name_str (h := h) (w := TL.tl z) (by
      have := s z rfl
      rw [← SX.S_len, SX.S_tl]
      exact this)
    rw [SX.S_tl] at this
    exact this
  · rw [is_name_no i, nmOk_no i]
end
end Gd
namespace Gd
open PySem PySem.Spec PyProof.Rows L2 Sm
def sOw : Str := "own"
def sKe : Str := "kept"
def sEa : Str := "earlier"
def benchC (P : T) (l : List (Str × T)) (m : Nat) : Cell := .ins 2 [(sOw, P), (sKe, dcT l), (sEa, .loc m)]
structure BnA (h : Store) (n m : Nat) (P : T) (l : List (Str × T)) (E : List T) : Prop where
  b : h[n]? = some (benchC P l m)
  e : h[m]? = some (.lst E)
def bst (h : Store) (n m : Nat) (P : T) (l : List (Str × T)) (E : List T) : Store := (h.set m (.lst E)).set n (benchC P l m)
section
variable {h h1 : Store} {n m i : Nat} {P t x y : T} {l l2 : List (Str × T)} {E E2 : List T} {env : Env'} {mo : M T} {r : M (List T)} {F : Fn} {z nm : Str}
theorem BnA.ne (k : BnA h n m P l E) : n ≠ m := fun c => by
  have := k.b
  rw [c, k.e] at this
  cases this
theorem BnA.ln (k : BnA h n m P l E) : n < h.length := (List.getElem?_eq_some_iff.mp k.b).1
theorem BnA.lm (k : BnA h n m P l E) : m < h.length := (List.getElem?_eq_some_iff.mp k.e).1
theorem bst_at (k : BnA h n m P l E) : BnA (bst h n m P l2 E2) n m P l2 E2 where
  b := by
    unfold bst
    rw [List.getElem?_set_self (by rw [List.length_set]; exact k.ln)]
  e := by
    unfold bst
    rw [List.getElem?_set_ne k.ne, List.getElem?_set_self k.lm]
theorem bst_len : (bst h n m P l E).length = h.length := by simp [bst]
theorem bst_get (a : i ≠ n) (b : i ≠ m) : (bst h n m P l E)[i]? = h[i]? := by
  unfold bst
  rw [List.getElem?_set_ne (Ne.symm a), List.getElem?_set_ne (Ne.symm b)]
theorem BnA.app (k : BnA h n m P l E) (s : Store) : BnA (h ++ s) n m P l E := ⟨by rw [List.getElem?_append_left k.ln]; exact k.b, by rw [List.getElem?_append_left k.lm]; exact k.e⟩
theorem put1 {a b : T} : putT sKe b [(sOw, a)] = [(sOw, a), (sKe, b)] := by
  unfold putT
  rw [if_neg (by decide)]
  rfl
theorem put2 {a b c : T} : putT sEa c [(sOw, a), (sKe, b)] = [(sOw, a), (sKe, b), (sEa, c)] := by
  unfold putT
  rw [if_neg (by decide)]
  unfold putT
  rw [if_neg (by decide)]
  rfl
theorem put3 {a b c d : T} : putT sKe d [(sOw, a), (sKe, b), (sEa, c)] = [(sOw, a), (sKe, d), (sEa, c)] := by
  unfold putT
  rw [if_neg (by decide)]
  unfold putT
  rw [if_pos rfl]
theorem look_o (k : BnA h n m P l E) : (insOf 2 h (.loc n)).bind (fun p => p.2.lookup sOw) = some P := by
  rw [insOf_at k.b]
  rw [Option.bind_some, List.lookup_cons, show (sOw == sOw) = true by decide]
theorem look_k (k : BnA h n m P l E) : (insOf 2 h (.loc n)).bind (fun p => p.2.lookup sKe) = some (dcT l) := by
  rw [insOf_at k.b]
  rw [Option.bind_some, List.lookup_cons, show (sKe == sOw) = false by decide]
  show List.lookup sKe [(sKe, dcT l), (sEa, T.loc m)] = _
  rw [List.lookup_cons, show (sKe == sKe) = true by decide]
theorem look_e (k : BnA h n m P l E) : (insOf 2 h (.loc n)).bind (fun p => p.2.lookup sEa) = some (.loc m) := by
  rw [insOf_at k.b]
  rw [Option.bind_some, List.lookup_cons, show (sEa == sOw) = false by decide]
  show List.lookup sEa [(sKe, dcT l), (sEa, T.loc m)] = _
  rw [List.lookup_cons, show (sEa == sKe) = false by decide]
  show List.lookup sEa [(sEa, T.loc m)] = _
  rw [List.lookup_cons, show (sEa == sEa) = true by decide]
theorem fld_o (k : BnA h n m P l E) (em : mo env h = .ok (.loc n) h) : mFld 2 "own" mo env h = .ok P h := by
  rw [q1_fld, em, bind_ok]
  show Out.ofO ((insOf 2 h (.loc n)).bind fun p => p.2.lookup sOw) h = _
  rw [look_o k]
  rfl
theorem fld_k (k : BnA h n m P l E) (em : mo env h = .ok (.loc n) h) : mFld 2 "kept" mo env h = .ok (dcT l) h := by
  rw [q1_fld, em, bind_ok]
  show Out.ofO ((insOf 2 h (.loc n)).bind fun p => p.2.lookup sKe) h = _
  rw [look_k k]
  rfl
theorem fld_e (k : BnA h n m P l E) (em : mo env h = .ok (.loc n) h) : mFld 2 "earlier" mo env h = .ok (.loc m) h := by
  rw [q1_fld, em, bind_ok]
  show Out.ofO ((insOf 2 h (.loc n)).bind fun p => p.2.lookup sEa) h = _
  rw [look_e k]
  rfl
theorem bench_meth (k : BnA h n m P l E) (em : mo env h = .ok (.loc n) h) (hn : (List.lookup nm [(sOw, P), (sKe, dcT l), (sEa, T.loc m)]).isNone = true) {as : List T} (er : r env h = .ok as h) : mMeth 2 nm F mo r env h = F (.loc n :: as) h := by
  unfold mMeth
  rw [em]
  simp only [bind_ok, insOf_at k.b]
  rw [if_pos hn, er, bind_ok]
theorem no_fld {a b c : T} (h1 : (nm == sOw) = false) (h2 : (nm == sKe) = false) (h3 : (nm == sEa) = false) : (List.lookup nm [(sOw, a), (sKe, b), (sEa, c)]).isNone = true := by
  rw [List.lookup_cons, h1]
  show (List.lookup nm [(sKe, b), (sEa, c)]).isNone = true
  rw [List.lookup_cons, h2]
  show (List.lookup nm [(sEa, c)]).isNone = true
  rw [List.lookup_cons, h3]
  rfl
theorem sFld_k (k : BnA h n m P l E) {mv : M T} (ev : mv env h = .ok (dcT l2) h) (em : mo env h = .ok (.loc n) h) : Sm.sFld 2 "kept" mv mo env h = .nx env (h.set n (benchC P l2 m)) := by
  unfold Sm.sFld
  rw [ev, bindE_ok, em, bindE_ok, insOf_at k.b]
  show (if _ then SO.nx env (h.set n (.ins 2 (putT sKe (dcT l2) [(sOw, P), (sKe, dcT l), (sEa, .loc m)]))) else _) = _
  rw [if_pos (by simp), put3]
  rfl
theorem turn_to_eq (k : BnA h n m P l E) (pl : puS l = true) (hE : E.length < 100000) : F_Bench_turn_to [.loc n, dcT l2] h = .ok .non (bst h n m P l2 (E ++ [dcT l])) := by
  refine Out.wp_eq' (fnK_wp rfl ?_)
  show (b_Bench_turn_to [some (.loc n), some (dcT l2)] h).wp _
  have f1 := fld_e k (env := [some (.loc n), some (dcT l2)]) (mo := mVar 0) rfl
  have f2 := fld_k k (env := [some (.loc n), some (dcT l2)]) (mo := mVar 0) rfl
  have lo : lstOf h (.loc m) = some E := by simp only [lstOf, k.e]
  have ap := q4_append (y := dcT l) k.e hE (by rw [pu_dcT]; exact pl)
  have k2 : BnA (h.set m (.lst (E ++ [dcT l]))) n m P l (E ++ [dcT l]) := ⟨by rw [List.getElem?_set_ne k.ne.symm]; exact k.b, List.getElem?_set_self k.lm⟩
  have sf := sFld_k k2 (l2 := l2) (env := [some (.loc n), some (dcT l2)]) (mv := mVar 1) (mo := mVar 0) rfl rfl
  unfold b_Bench_turn_to
  rw [q2_seq, q2_exp, q1_meth, f1, bind_ok, lo]
  simp only [q1_cons, f2, bind_ok, q1_nil, ap, bindE_ok, seq_nx]
  rw [sf]
  exact ⟨rfl, rfl⟩
theorem bench_init (k : t.plain = true) (p : progB t = true) : F_Bench_init_v2 [.loc h.length, t] (h ++ [.ins 2 []]) = .ok .non (h ++ [benchC t [] (h.length + 1), .lst []]) := by
  obtain ⟨bb, hb⟩ : ∃ bb, bb = b_Bench_init_v2 := ⟨_, rfl⟩
  have eb : F_Bench_init_v2 = fn 2 2 true bb := by rw [hb]; rfl
  rw [eb]
  refine Out.wp_eq' (fnK_wp rfl ?_)
  show (bb [some (.loc h.length), some t] (h ++ [.ins 2 []])).wp _
  have e1 : ∀ (fs : List (Str × T)) (s : Store), insOf 2 (h ++ Cell.ins 2 fs :: s) (.loc h.length) = some (h.length, fs) := fun fs s => insOf_at (by simp)
  have ip := is_prog (h := h ++ [.ins 2 []]) k
  rw [p] at ip
  have p1 : Sm.sFld 2 "own" (mVar 1) (mVar 0) [some (.loc h.length), some t] (h ++ [.ins 2 []]) = .nx [some (.loc h.length), some t] (h ++ [.ins 2 [(sOw, t)]]) := by
    unfold Sm.sFld
    simp only [q1_var, bind_ok, List.getElem?_cons_succ, List.getElem?_cons_zero, bindE_ok, e1]
    rw [if_pos (by decide)]
    congr 1
    exact set_end rfl
  have p2 : Sm.sFld 2 "kept" mEmpD (mVar 0) [some (.loc h.length), some t] (h ++ [.ins 2 [(sOw, t)]]) = .nx [some (.loc h.length), some t] (h ++ [.ins 2 [(sOw, t), (sKe, dcT [])]]) := by
    unfold Sm.sFld mEmpD
    simp only [q1_var, bind_ok, List.getElem?_cons_succ, List.getElem?_cons_zero, bindE_ok, e1]
    show (if _ then SO.nx _ ((h ++ [Cell.ins 2 [(sOw, t)]]).set h.length (.ins 2 (putT sKe (dcT []) [(sOw, t)]))) else _) = _
    rw [if_pos (by simp), put1]
    congr 1
    exact set_end rfl
  have p3 : Sm.sFld 2 "earlier" (mCell (mLst mNil)) (mVar 0) [some (.loc h.length), some t] (h ++ [.ins 2 [(sOw, t), (sKe, dcT [])]]) = .nx [some (.loc h.length), some t] (h ++ [benchC t [] (h.length + 1), .lst []]) := by
    unfold Sm.sFld
    simp only [q1_cell, q1_lst, q1_nil, bind_ok, List.length_nil, Nat.zero_le, if_true, pus_nil, bindE_ok, q1_var, List.getElem?_cons_zero, List.append_assoc, List.cons_append, List.nil_append, e1]
    show (if _ then SO.nx _ ((h ++ [Cell.ins 2 [(sOw, t), (sKe, dcT [])], .lst []]).set h.length (.ins 2 (putT sEa _ [(sOw, t), (sKe, dcT [])]))) else _) = _
    rw [if_pos (by simp), put2]
    congr 1
    rw [List.set_append_right _ _ (Nat.le_refl _), Nat.sub_self]
    simp [benchC]
  rw [hb]
  unfold b_Bench_init_v2
  rw [q2_seq, q2_if]
  simp only [q1_notT, q1_tru, q1_call, q1_cons, q1_nil, q1_var, List.getElem?_cons_succ, List.getElem?_cons_zero, bind_ok, ip, truF_bl, ofO_some, Bool.not_true, bindE_ok, Bool.false_eq_true, if_false, q2_nil, seq_nx]
  rw [q2_seq, p1, seq_nx, q2_seq, p2, seq_nx, p3]
  exact ⟨rfl, rfl⟩
theorem bench_new (er : r env h = .ok [t] h1) (k : t.plain = true) (p : progB t = true) : mNew 2 F_Bench_init_v2 r env h = .ok (.loc h1.length) (h1 ++ [benchC t [] (h1.length + 1), .lst []]) := by
  unfold mNew
  rw [er]
  simp only [bind_ok]
  rw [bench_init k p]
  rfl
end
end Gd
namespace Gd
open PySem PySem.Spec PyProof.Rows L2 Sm
section
variable {h : Store} {fr : List Fr} {xs : List Int} {n m : Nat}
def numP (fr : List Fr) (xs : List Int) (j : Nat) : Option Nat := firstL (wantsL fr) (runP fr xs j)
def usedP (fr : List Fr) (xs : List Int) (j : Nat) : List Nat := (List.range j).map fun i => (numP fr xs i).getD 0
theorem usedP_len {j : Nat} : (usedP fr xs j).length = j := by simp [usedP]
theorem usedP_up {j k : Nat} (q : numP fr xs j = some k) : usedP fr xs (j + 1) = usedP fr xs j ++ [k] := by
  unfold usedP
  rw [List.range_succ, List.map_append, List.map_cons, List.map_nil, q]
  rfl
theorem numP_rest {j : Nat} : restP fr xs j = (numP fr xs j).isNone := rfl
theorem run_up {j k : Nat} {p : Fr} (q : numP fr xs j = some k) (hp : fr[k]? = some p) : runP fr xs (j + 1) = goneL (runP fr xs j) (addF p) 1 := by
  show stepP fr (runP fr xs j) = _
  rw [stepP, show firstL (wantsL fr) (runP fr xs j) = some k from q]
  simp only [getD_of hp]
theorem isNot_opt {o : Option Nat} : fIsNot (optT o) .non h = some (.bl (!o.isNone)) := by cases o <;> rfl
theorem last_of {α : Type} {f : Nat → α} (m : Nat) : atI ((List.range (m + 1)).map f) (-1) = some (f m) := by
  have e : ixN (m + 1) (-1) = some m := by
    unfold ixN
    rw [if_neg (by omega), if_pos (by omega)]
    simp only [Option.some.injEq]
    omega
  unfold atI
  rw [List.length_map, List.length_range, e]
  simp
def rowsP (fr : List Fr) (xs : List Int) (m : Nat) : List T := (List.range (m + 1)).map fun j => iT (runP fr xs j)
theorem rowsP_len {m : Nat} : (rowsP fr xs m).length = m + 1 := by simp [rowsP]
theorem rowsP_up {m : Nat} : rowsP fr xs (m + 1) = rowsP fr xs m ++ [iT (runP fr xs (m + 1))] := by
  unfold rowsP
  rw [List.range_succ, List.map_append]
  rfl
theorem rowsP_pu {m : Nat} : pus (rowsP fr xs m) = true := pus_map fun j => pu_iT
theorem pus_N {es : List Nat} : pus (es.map tN) = true := pus_map fun j => rfl
theorem through_eq (hx : xs.length = 10) (hn : n < 10000) (m1 : m ≤ n) (m2 : ∀ j, j < m → restP fr xs j = false) (m3 : m = n ∨ restP fr xs m = true) :
    F_law_gone_through [tabT fr, iT xs, tN n] h = .ok (.lst [.lst (rowsP fr xs m), .lst ((usedP fr xs m).map tN)]) h := by
  refine Out.wp_eq (fn_wp rfl ?_)
  show (b_law_gone_through [some (tabT fr), some (iT xs), some (tN n), none, none, none] h).wp _
  have lw : ∀ R : List T, (h ++ [Cell.lst R]).length = h.length + 1 := fun R => by simp
  have f0 : ∀ h0, F_law_first_of [tabT fr, iT xs] h0 = .ok (optT (numP fr xs 0)) h0 := fun h0 => first_of_eq hx
  unfold b_law_gone_through
  simp only [q2_seq, q2_set, bindE_ok, seq_nx, q1_cell, q1_lst, q1_nil, q1_cons, q1_var, q1_call, bind_ok, List.length_nil, List.length_cons, Nat.zero_le, if_true, pus_nil, List.set, List.getElem?_cons_zero, List.getElem?_cons_succ]
  rw [if_pos (by decide), bind_ok, if_pos (show pus [iT xs] = true by simp [pus, pu_iT]), bindE_ok, seq_nx]
  simp only [q2_seq, q2_set, bindE_ok, seq_nx, q1_cell, q1_lst, q1_nil, q1_cons, q1_var, q1_call, bind_ok, List.length_nil, Nat.zero_le, if_true, pus_nil, List.set, List.getElem?_cons_zero, List.getElem?_cons_succ, f0]
  rw [so_seq]
  show (whileL _ _ _ _ _).wp _
  rw [lw]
  refine whileL_wp (fun x env h' => ∃ j, x = m - j ∧ j ≤ m ∧ h' = h ++ [.lst (rowsP fr xs j)] ++ [.lst ((usedP fr xs j).map tN)] ∧ env = [some (tabT fr), none, some (tN n), some (.loc h.length), some (.loc (h.length + 1)), some (optT (numP fr xs j))]) ?_ (m - 0) ⟨0, rfl, Nat.zero_le _, rfl, rfl⟩
  rintro x env h' ⟨j, rfl, hj, rfl, rfl⟩
  have ul := usedP_len (fr := fr) (xs := xs) (j := j)
  have rl := rowsP_len (fr := fr) (xs := xs) (m := j)
  have gR : ∀ R U : List T, (h ++ [.lst R] ++ [Cell.lst U])[h.length]? = some (.lst R) := fun R U => by simp
  have gU : ∀ R U : List T, (h ++ [.lst R] ++ [Cell.lst U])[h.length + 1]? = some (.lst U) := fun R U => at_end (lw R)
  have n1 : fLen [.loc (h.length + 1)] (h ++ [.lst (rowsP fr xs j)] ++ [.lst ((usedP fr xs j).map tN)]) = some (.int (j : Int)) := by rw [e_len (lw _), List.length_map, ul]
  have lt1 : ∀ h0, fLt (.int (j : Int)) (tN n) h0 = some (.bl (decide ((j : Int) < (n : Int)))) := fun h0 => by simp [tN]
  have cnd : mAndT (mTst (mBin fLt (mCallF fLen (mCons (mVar 4) mNil)) (mVar 2))) (mTst (mBin fIsNot (mVar 5) (mC .non))) [some (tabT fr), none, some (tN n), some (.loc h.length), some (.loc (h.length + 1)), some (optT (numP fr xs j))] (h ++ [.lst (rowsP fr xs j)] ++ [.lst ((usedP fr xs j).map tN)]) = .ok (decide (j < m)) (h ++ [.lst (rowsP fr xs j)] ++ [.lst ((usedP fr xs j).map tN)]) := by
    simp only [q1_andT, q1_tst, q1_bin, q1_callF, q1_cons, q1_var, q1_nil, q1_C, List.getElem?_cons_zero, List.getElem?_cons_succ, bind_ok, n1, ofO_some, lt1, asB_bl, isNot_opt]
    by_cases c : j < m
    · have := m2 j c
      rw [numP_rest] at this
      have c4 : (j : Int) < (n : Int) := by omega
      simp [c, c4, this]
    · have e : j = m := by omega
      subst e
      rcases m3 with z | z
      · subst z
        simp
      · rw [numP_rest] at z
        simp [z]
  rw [cnd, wp_ok]
  by_cases c : j < m
  · have q0 := m2 j c
    rw [numP_rest] at q0
    obtain ⟨i, q⟩ : ∃ i, numP fr xs j = some i := by
      cases z : numP fr xs j with
      | none => rw [z] at q0; cases q0
      | some i => exact ⟨i, rfl⟩
    obtain ⟨p, hp, _⟩ := firstL_lt q
    have up : (usedP fr xs j).map tN ++ [tN i] = (usedP fr xs (j + 1)).map tN := by rw [usedP_up q, List.map_append]; rfl
    have lU := gU (rowsP fr xs j) ((usedP fr xs j).map tN)
    have ap := e_append (h := h ++ [.lst (rowsP fr xs j)]) (m := h.length + 1) (xs := (usedP fr xs j).map tN) (y := tN i) (lw _) (by rw [List.length_map, ul]; omega) rfl
    rw [up] at ap
    have lo : lstOf (h ++ [.lst (rowsP fr xs j)] ++ [.lst ((usedP fr xs j).map tN)]) (.loc (h.length + 1)) = some ((usedP fr xs j).map tN) := by simp only [lstOf, lU]
    have r1 : ∀ j U, fIdx (.loc h.length) (.int (-1)) (h ++ [.lst (rowsP fr xs j)] ++ [.lst U]) = some (iT (runP fr xs j)) := fun j U => by
      rw [q3_idxC (gR _ _)]
      exact last_of j
    have pe : ∀ h0, F_law_put_v2 [tabT fr, iT (runP fr xs j), tN i, .int 1] h0 = .ok (iT (runP fr xs (j + 1))) h0 := fun h0 => by rw [put_eq (q := 1) (runP_len hx j) hp (by decide), run_up q hp]
    have ap2 : ∀ U : List T, outM (fAppend (.loc h.length) [iT (runP fr xs (j + 1))] (h ++ [.lst (rowsP fr xs j)] ++ [.lst U])) = .ok .non (h ++ [.lst (rowsP fr xs (j + 1))] ++ [.lst U]) := fun U => by
      rw [q4_append (gR _ _) (by omega) pu_iT, set_old (by simp), set_end rfl, rowsP_up]
    have lo2 : ∀ U : List T, lstOf (h ++ [.lst (rowsP fr xs j)] ++ [.lst U]) (.loc h.length) = some (rowsP fr xs j) := fun U => by simp only [lstOf, gR]
    have f1 : ∀ h0, F_law_first_of [tabT fr, iT (runP fr xs (j + 1))] h0 = .ok (optT (numP fr xs (j + 1))) h0 := fun h0 => first_of_eq (runP_len hx _)
    have ng : ∀ h0, fNeg (.int 1) h0 = some (.int (-1)) := fun h0 => rfl
    rw [if_pos (by simpa using c)]
    simp only [q, show optT (some i) = tN i from rfl]
    simp only [q2_seq, q2_exp, q2_set, q1_meth, q1_cons, q1_var, q1_nil, q1_call, q1_bin, q1_un, q1_C, List.getElem?_cons_zero, List.getElem?_cons_succ, bind_ok, lo, ofO_some, ap, bindE_ok, seq_nx, List.set, ng, r1, pe, lo2, ap2, f1]
    exact ⟨m - (j + 1), by omega, j + 1, rfl, by omega, rfl, rfl⟩
  · have e : j = m := by omega
    subst e
    rw [if_neg (by simp)]
    have z1 := gR (rowsP fr xs j) ((usedP fr xs j).map tN)
    have z2 := gU (rowsP fr xs j) ((usedP fr xs j).map tN)
    have si : sameIns h (h ++ [Cell.lst (rowsP fr xs j)] ++ [.lst ((usedP fr xs j).map tN)]) := by
      rw [List.append_assoc]
      exact si_appR
    have tk : (h ++ [Cell.lst (rowsP fr xs j)] ++ [Cell.lst ((usedP fr xs j).map tN)]).take h.length = h := by simp
    generalize h ++ [Cell.lst (rowsP fr xs j)] ++ [Cell.lst ((usedP fr xs j).map tN)] = H at z1 z2 si tk
    simp [fnP, frz, z1, z2, si, tk, rowsP_pu, pus_N]
    have nl : ¬ h.length + 1 < h.length := by omega
    simp [frzs, frz, z1, z2, nl]
end
end Gd
namespace Gd
open PySem PySem.Spec PyProof.Rows L2 Sm
abbrev Tri := Int × Int × Int
def z3 : List Int → List Int → List Int → List Tri
  | x :: xs, w :: ws, a :: as => (x, w, a) :: z3 xs ws as
  | _, _, _ => []
def triT (z : Tri) : T := .tup [.int z.1, .int z.2.1, .int z.2.2]
theorem zip3_z3 : ∀ {xs ws as : List Int}, zip3T (xs.map T.int) (ws.map T.int) (as.map T.int) = (z3 xs ws as).map triT
  | [], _, _ => by simp [z3, zip3T]
  | _ :: _, [], _ => by simp [z3, zip3T]
  | _ :: _, _ :: _, [] => by simp [z3, zip3T]
  | x :: xs, w :: ws, a :: as => by
    simp only [List.map_cons, z3, zip3T, zip3_z3 (xs := xs) (ws := ws) (as := as)]
    rfl
theorem src_zip3 {r : M (List T)} {env : Env'} {h h1 : Store} {xs ws as : List Int} (er : r env h = .ok [iT xs, iT ws, iT as] h1) : mZip3 r env h = .ok ⟨(z3 xs ws as).map triT, []⟩ h1 := by
  unfold mZip3
  rw [er]
  simp only [bind_ok, seqK, gdOf, List.append_nil, zip3_z3]
def fitA (t : Int) (z : Tri) : Prop := z.2.1 ≤ z.1 + t * z.2.2
theorem fits_z3 {t : Int} : ∀ {xs ws as : List Int}, xs.length = as.length → (fits (goneL xs as t) ws = true ↔ ∀ z ∈ z3 xs ws as, fitA t z)
  | [], ws, [], _ => by simp [goneL, fits, z3]
  | x :: xs, [], a :: as, _ => by simp [goneL, fits, z3]
  | x :: xs, w :: ws, a :: as, h => by
    have ih := fits_z3 (t := t) (xs := xs) (ws := ws) (as := as) (by simpa using h)
    simp only [goneL, fits, z3, List.zip_cons_cons, List.map_cons, List.all_cons, Bool.and_eq_true, decide_eq_true_eq, List.forall_mem_cons] at ih ⊢
    rw [ih]
    rfl
theorem z3_mem {z : Tri} : ∀ {xs ws as : List Int}, z ∈ z3 xs ws as → z.1 ∈ xs ∧ z.2.1 ∈ ws ∧ z.2.2 ∈ as
  | [], _, _, h => by simp [z3] at h
  | _ :: _, [], _, h => by simp [z3] at h
  | _ :: _, _ :: _, [], h => by simp [z3] at h
  | x :: xs, w :: ws, a :: as, h => by
    rcases List.mem_cons.mp h with rfl | m
    · simp
    · have := z3_mem m
      exact ⟨List.mem_cons_of_mem _ this.1, List.mem_cons_of_mem _ this.2.1, List.mem_cons_of_mem _ this.2.2⟩
theorem div_lt_fit {t x w a : Int} (ha : a < 0) : t < (x - w) / (0 - a) + 1 ↔ w ≤ x + t * a := by
  have e : t * (0 - a) = -(t * a) := by rw [Int.mul_sub, Int.mul_zero, Int.zero_sub]
  have := Int.le_ediv_iff_mul_le (a := t) (b := x - w) (c := 0 - a) (by omega)
  rw [e] at this
  omega
theorem div_ge_fit {t x w a : Int} (ha : 0 < a) : 0 - (x - w) / a ≤ t ↔ w ≤ x + t * a := by
  have e : (0 - t) * a = -(t * a) := by rw [Int.sub_mul, Int.zero_mul, Int.zero_sub]
  have := Int.le_ediv_iff_mul_le (a := 0 - t) (b := x - w) (c := a) ha
  rw [e] at this
  omega
def ltO (t : Int) (f : Option Int) : Prop := ∀ q, f = some q → t < q
def leO (t : Int) (f : Option Int) : Prop := ∀ q, f = some q → t ≤ q
@[simp] theorem ltO_none {t : Int} : ltO t none := fun _ h => by cases h
@[simp] theorem ltO_some {t q : Int} : ltO t (some q) ↔ t < q := ⟨fun h => h q rfl, fun h _ e => by cases e; exact h⟩
@[simp] theorem leO_none {t : Int} : leO t none := fun _ h => by cases h
@[simp] theorem leO_some {t q : Int} : leO t (some q) ↔ t ≤ q := ⟨fun h => h q rfl, fun h _ e => by cases e; exact h⟩
def minO (o : Int) : Option Int → Int
  | none => o
  | some q => if o < q then o else q
structure LastK (B : Int) (l : List Tri) (f : Option Int) : Prop where
  fit : ∀ t, ltO t f ↔ ∀ z ∈ l, z.2.2 < 0 → fitA t z
  low : ∀ q, f = some q → q ≤ B + 1
theorem LastK.nil {B : Int} : LastK B [] none := ⟨fun t => by simp, fun q h => by cases h⟩
theorem LastK.skip {B : Int} {l : List Tri} {f : Option Int} {z : Tri} (k : LastK B l f) (hz : ¬ z.2.2 < 0) : LastK B (l ++ [z]) f := ⟨fun t => by
  rw [k.fit]
  simp only [List.mem_append, List.mem_singleton]
  constructor
  · rintro h y (m | rfl) c
    · exact h y m c
    · exact absurd c hz
  · exact fun h y m c => h y (.inl m) c, k.low⟩
theorem LastK.step {B : Int} {l : List Tri} {f : Option Int} {z : Tri} (k : LastK B l f) (hz : z.2.2 < 0) (B0 : 0 ≤ B) (b : z.1 - z.2.1 ≤ B) : LastK B (l ++ [z]) (some (minO ((z.1 - z.2.1) / (0 - z.2.2) + 1) f)) := by
  have d := fun t => div_lt_fit (t := t) (x := z.1) (w := z.2.1) hz
  have lo : (z.1 - z.2.1) / (0 - z.2.2) ≤ B := by
    have z1 : B * 1 ≤ B * (0 - z.2.2) := Int.mul_le_mul_of_nonneg_left (by omega) (by omega)
    exact Int.ediv_le_of_le_mul (c := 0 - z.2.2) (by omega) (by omega)
  generalize (z.1 - z.2.1) / (0 - z.2.2) = o at d lo
  have key : ∀ t, (∀ y ∈ l ++ [z], y.2.2 < 0 → fitA t y) ↔ (ltO t f ∧ t < o + 1) := fun t => by
    rw [k.fit, d t]
    simp only [List.mem_append, List.mem_singleton]
    constructor
    · exact fun h => ⟨fun y m c => h y (.inl m) c, h z (.inr rfl) hz⟩
    · rintro ⟨h1, h2⟩ y (m | rfl) c
      · exact h1 y m c
      · exact h2
  cases f with
  | none =>
    refine ⟨fun t => ?_, fun q e => ?_⟩
    · rw [key]
      simp [minO]
    · simp only [minO, Option.some.injEq] at e
      omega
  | some q =>
    have := k.low q rfl
    refine ⟨fun t => ?_, fun r e => ?_⟩
    · rw [key]
      simp only [ltO_some, minO]
      split <;> omega
    · simp only [minO, Option.some.injEq] at e
      split at e <;> omega
structure ComeK (B : Int) (l : List Tri) (least : Int) (most : Option Int) : Prop where
  fit : ∀ t, 0 ≤ t → ((least ≤ t ∧ leO t most) ↔ ∀ z ∈ l, fitA t z)
  lo : 0 ≤ least
  hi : least ≤ B
theorem ComeK.nil {B : Int} (B0 : 0 ≤ B) : ComeK B [] 0 none := ⟨fun t ht => by simp [ht], by omega, B0⟩
theorem fit_snoc {l : List Tri} {z : Tri} {t : Int} : (∀ y ∈ l ++ [z], fitA t y) ↔ ((∀ y ∈ l, fitA t y) ∧ fitA t z) := by
  simp only [List.mem_append, List.mem_singleton]
  exact ⟨fun h => ⟨fun y m => h y (.inl m), h z (.inr rfl)⟩, fun h y m => m.elim (h.1 y) fun e => by rw [e]; exact h.2⟩
theorem ComeK.pos {B : Int} {l : List Tri} {least : Int} {most : Option Int} {z : Tri} (k : ComeK B l least most) (hz : 0 < z.2.2) (B0 : 0 ≤ B) (b : z.2.1 - z.1 ≤ B) :
    ComeK B (l ++ [z]) (if 0 - (z.1 - z.2.1) / z.2.2 > least then 0 - (z.1 - z.2.1) / z.2.2 else least) most := by
  have d := fun t => div_ge_fit (t := t) (x := z.1) (w := z.2.1) hz
  have lo : 0 - (z.1 - z.2.1) / z.2.2 ≤ B := by
    have := (Int.le_ediv_iff_mul_le (a := -B) (b := z.1 - z.2.1) (c := z.2.2) hz).mpr (by
      have : B * 1 ≤ B * z.2.2 := Int.mul_le_mul_of_nonneg_left (by omega) (by omega)
      rw [Int.neg_mul]
      omega)
    omega
  generalize 0 - (z.1 - z.2.1) / z.2.2 = o at d lo
  have := k.lo
  have := k.hi
  refine ⟨fun t ht => ?_, by split <;> omega, by split <;> omega⟩
  rw [fit_snoc, ← k.fit t ht, fitA, ← d t]
  generalize leO t most = A
  split
  · constructor
    · rintro ⟨p, q⟩
      exact ⟨⟨by omega, q⟩, p⟩
    · rintro ⟨⟨p, q⟩, r⟩
      exact ⟨r, q⟩
  · constructor
    · rintro ⟨p, q⟩
      exact ⟨⟨p, q⟩, by omega⟩
    · rintro ⟨⟨p, q⟩, r⟩
      exact ⟨p, q⟩
theorem ComeK.zero {B : Int} {l : List Tri} {least : Int} {most : Option Int} {z : Tri} (k : ComeK B l least most) (hz : z.2.2 = 0) (b : z.2.1 ≤ z.1) : ComeK B (l ++ [z]) least most := by
  refine ⟨fun t ht => ?_, k.lo, k.hi⟩
  rw [fit_snoc, ← k.fit t ht]
  have : fitA t z := by
    unfold fitA
    rw [hz, Int.mul_zero]
    omega
  exact ⟨fun q => ⟨q, this⟩, fun q => q.1⟩
theorem ComeK.neg {B : Int} {l : List Tri} {least : Int} {most : Option Int} {z : Tri} (k : ComeK B l least most) (hz : z.2.2 < 0) :
    ComeK B (l ++ [z]) least (some (minO ((z.1 - z.2.1) / (0 - z.2.2)) most)) := by
  have d := fun t => div_lt_fit (t := t) (x := z.1) (w := z.2.1) hz
  generalize (z.1 - z.2.1) / (0 - z.2.2) = o at d
  refine ⟨fun t ht => ?_, k.lo, k.hi⟩
  rw [fit_snoc, ← k.fit t ht, fitA, ← d t]
  cases most with
  | none =>
    simp only [leO_some, leO_none, and_true, minO]
    omega
  | some q =>
    simp only [leO_some, minO]
    split <;> omega
def ComeR (B : Int) (l : List Tri) : Option Int → Prop
  | none => ∀ t, 0 ≤ t → ¬ ∀ z ∈ l, fitA t z
  | some q => 0 ≤ q ∧ q ≤ B ∧ (∀ z ∈ l, fitA q z) ∧ ∀ t, 0 ≤ t → t < q → ¬ ∀ z ∈ l, fitA t z
theorem ComeK.no {B : Int} {l : List Tri} {least q : Int} (k : ComeK B l least (some q)) (c : q < least) : ComeR B l none := fun t ht h => by
  have := (k.fit t ht).mpr h
  simp only [leO_some] at this
  omega
theorem ComeK.yes {B : Int} {l : List Tri} {least : Int} {most : Option Int} (k : ComeK B l least most) (c : leO least most) : ComeR B l (some least) := ⟨k.lo, k.hi, (k.fit least k.lo).mp ⟨by omega, c⟩, fun t ht lt h => by
  have := (k.fit t ht).mpr h
  omega⟩
theorem ComeR.never {B : Int} {l : List Tri} {z : Tri} (m : z ∈ l) (hz : z.2.2 = 0) (b : z.1 < z.2.1) : ComeR B l none := fun t _ h => by
  have := h z m
  unfold fitA at this
  rw [hz, Int.mul_zero] at this
  omega
def oT : Option Int → T
  | none => .non
  | some q => .int q
theorem oT_pu {o : Option Int} : (oT o).pu = true := by cases o <;> rfl
section
variable {h : Store} {fr : List Fr} {n k : Nat} {p p2 : Fr} {xs : List Int}
theorem want_at {b : Store} (e : h[n]? = some (waysC fr)) (hp : fr[k]? = some p) {env : Env'} {i j : Nat} (e0 : env[i]? = some (some (.loc n))) (e1 : env[j]? = some (some (tN k))) : mBin fIdx (mFld 0 "wants" (mVar i)) (mVar j) env h = .ok (iT (ex p.2)) h := by
  have hk : k < fr.length := (List.getElem?_eq_some_iff.mp hp).1
  simp only [q1_bin, q1_fld, q1_var, e0, e1, bind_ok]
  rw [show (("wants" : Str)) = sW from rfl, ways_wants e]
  simp only [ofO_some, bind_ok, tN, q3_idxL]
  rw [atI_p (by omega) (by simpa using hk)]
  simp [hp]
theorem adds_at {b : Store} (e : h[n]? = some (waysC fr)) (hp : fr[k]? = some p) {env : Env'} {i j : Nat} (e0 : env[i]? = some (some (.loc n))) (e1 : env[j]? = some (some (tN k))) : mBin fIdx (mFld 0 "adds" (mVar i)) (mVar j) env h = .ok (iT (addF p)) h := by
  have hk : k < fr.length := (List.getElem?_eq_some_iff.mp hp).1
  simp only [q1_bin, q1_fld, q1_var, e0, e1, bind_ok]
  rw [show (("adds" : Str)) = sA from rfl, ways_adds e]
  simp only [ofO_some, bind_ok, tN, q3_idxL]
  rw [atI_p (by omega) (by simpa using hk)]
  simp [hp]
end
end Gd
namespace Gd
open PySem PySem.Spec PyProof.Rows L2 Sm
theorem Out.wp_get {α : Type} {o : Out α} {Q : α → Store → Prop} (q : o.wp Q (fun _ _ => False)) : ∃ a h', o = .ok a h' ∧ Q a h' := by
  cases o with
  | ok a h' => exact ⟨a, h', rfl, q⟩
  | ex e h' => exact q.elim
  | bad => exact q.elim
structure okB (B : Int) (z : Tri) : Prop where
  b0 : 0 ≤ B
  lo : z.1 - z.2.1 ≤ B
  hi : z.2.1 - z.1 ≤ B
  a0 : -1000 < z.2.2
  a1 : z.2.2 < 1000
theorem bind_tri {z : Tri} {env : Env'} {i j k : Nat} : bindT (.tup [i, j, k]) (triT z) env = some (((env.set i (some (.int z.1))).set j (some (.int z.2.1))).set k (some (.int z.2.2))) := rfl
theorem is_oT {h : Store} {f : Option Int} : fIs (oT f) .non h = some (.bl f.isNone) := by cases f <;> rfl
theorem isNot_oT {h : Store} {f : Option Int} : fIsNot (oT f) .non h = some (.bl !f.isNone) := by cases f <;> rfl
section
variable {h : Store} {fr : List Fr} {n k j : Nat} {p p2 : Fr} {xs : List Int} {B : Int}
theorem last_fit_wp (e : h[n]? = some (waysC fr)) (hp : fr[k]? = some p) (b : ∀ z ∈ z3 xs (ex p.2) (addF p), okB B z) :
    ∃ f, F_Ways_last_fit [.loc n, iT xs, tN k] h = .ok (oT f) h ∧ LastK B (z3 xs (ex p.2) (addF p)) f := by
  have w : (F_Ways_last_fit [.loc n, iT xs, tN k] h).wp (fun t h' => ∃ f, t = oT f ∧ h' = h ∧ LastK B (z3 xs (ex p.2) (addF p)) f) (fun _ _ => False) := by
    refine fn_wp rfl ?_
    show (b_Ways_last_fit [some (.loc n), some (iT xs), some (tN k), none, none, none, none, none] h).wp _
    have src : ∀ f : Option T, mZip3 (mCons (mVar 1) (mCons (mBin fIdx (mFld 0 "wants" (mVar 0)) (mVar 2)) (mCons (mBin fIdx (mFld 0 "adds" (mVar 0)) (mVar 2)) mNil))) [some (.loc n), some (iT xs), some (tN k), f, none, none, none, none] h = .ok ⟨(z3 xs (ex p.2) (addF p)).map triT, []⟩ h := fun f => src_zip3 (by
      have w1 := want_at (b := h) e hp (env := [some (.loc n), some (iT xs), some (tN k), f, none, none, none, none]) (i := 0) (j := 2) rfl rfl
      have w2 := adds_at (b := h) e hp (env := [some (.loc n), some (iT xs), some (tN k), f, none, none, none, none]) (i := 0) (j := 2) rfl rfl
      rw [q1_cons, q1_var]
      simp only [List.getElem?_cons_zero, List.getElem?_cons_succ, bind_ok]
      rw [q1_cons, w1]
      simp only [bind_ok]
      rw [q1_cons, w2]
      simp only [bind_ok, q1_nil])
    unfold b_Ways_last_fit
    simp only [q2_seq, q2_set, q1_C, bindE_ok, seq_nx, List.set, so_seq]
    rw [sFor_of (src _)]
    generalize z3 xs (ex p.2) (addF p) = l at b
    refine forLoop_wp _ (fun i env h' => h' = h ∧ ∃ f, LastK B (l.take i) f ∧ env = [none, none, none, some (oT f), none, none, none, none]) ?_ ?_ ⟨rfl, none, LastK.nil, rfl⟩
    · rintro i x env h' hx ⟨rfl, f, kf, rfl⟩
      obtain ⟨z, hz, rfl, hi⟩ := getm hx
      have bz := b z (List.mem_of_getElem? hz)
      refine ⟨by simp, _, bind_tri, ?_⟩
      rw [take_snoc hz]
      obtain ⟨x, w, a⟩ := z
      have ba0 : -1000 < a := bz.a0
      have ba1 : a < 1000 := bz.a1
      simp only [List.set, q2_if, q1_tst, q1_bin, q1_var, q1_C, List.getElem?_cons_zero, List.getElem?_cons_succ, bind_ok, q3_lt, ofO_some, asB_bl, bindE_ok, decide_eq_true_eq]
      by_cases c : a < 0
      · have d1 : divB (0 - a) = true := divB_s (by omega) (by omega)
        have st := kf.step (z := (x, w, a)) c bz.b0 bz.lo
        simp only [minO] at st
        have fd : (x - w).fdiv (0 - a) = (x - w) / (0 - a) := Int.fdiv_eq_ediv_of_nonneg _ (by omega)
        rw [if_pos c]
        simp only [q2_seq, q2_set, q2_if, q1_orT, q1_tst, q1_bin, q1_var, q1_C, List.getElem?_cons_zero, List.getElem?_cons_succ, bind_ok, q3_sub, q3_fdiv, d1, if_true, fd, q3_add, is_oT, ofO_some, asB_bl, bindE_ok, List.set, seq_nx]
        cases f with
        | none =>
          simp only [Option.isNone_none, if_true, bindE_ok, q1_var, List.getElem?_cons_zero, List.getElem?_cons_succ]
          exact ⟨rfl, _, st, rfl⟩
        | some q =>
          simp only [Option.isNone_some, Bool.false_eq_true, if_false, oT, q1_var, List.getElem?_cons_zero, List.getElem?_cons_succ, q3_lt, ofO_some, asB_bl, bind_ok, bindE_ok, decide_eq_true_eq]
          by_cases c2 : (x - w) / (0 - a) + 1 < q
          · simp only [if_pos c2] at st
            rw [if_pos c2]
            exact ⟨rfl, _, st, rfl⟩
          · simp only [if_neg c2] at st
            rw [if_neg c2]
            exact ⟨rfl, _, st, rfl⟩
      · rw [if_neg c]
        exact ⟨rfl, f, kf.skip c, rfl⟩
    · rintro env h' ⟨rfl, f, kf, rfl⟩
      rw [List.length_map, List.take_length] at kf
      refine ⟨by simp, ?_⟩
      simp only [q2_ret, q1_var, List.getElem?_cons_zero, List.getElem?_cons_succ, bindE_ok, so_rt]
      exact ⟨si_self, .inl ⟨oT_pu, f, rfl, by simp, kf⟩⟩
  obtain ⟨t, h', ho, f, rfl, rfl, kf⟩ := Out.wp_get w
  exact ⟨f, ho, kf⟩
theorem comes_in_wp (B0 : 0 ≤ B) (e : h[n]? = some (waysC fr)) (hp : fr[k]? = some p) (hp2 : fr[j]? = some p2) (b : ∀ z ∈ z3 xs (ex p2.2) (addF p), okB B z) :
    ∃ f, F_Ways_comes_in [.loc n, iT xs, tN k, tN j] h = .ok (oT f) h ∧ ComeR B (z3 xs (ex p2.2) (addF p)) f := by
  have w : (F_Ways_comes_in [.loc n, iT xs, tN k, tN j] h).wp (fun t h' => ∃ f, t = oT f ∧ h' = h ∧ ComeR B (z3 xs (ex p2.2) (addF p)) f) (fun _ _ => False) := by
    refine fn_wp rfl ?_
    show (b_Ways_comes_in [some (.loc n), some (iT xs), some (tN k), some (tN j), none, none, none, none, none, none] h).wp _
    have src : ∀ f g : Option T, mZip3 (mCons (mVar 1) (mCons (mBin fIdx (mFld 0 "wants" (mVar 0)) (mVar 3)) (mCons (mBin fIdx (mFld 0 "adds" (mVar 0)) (mVar 2)) mNil))) [some (.loc n), some (iT xs), some (tN k), some (tN j), f, g, none, none, none, none] h = .ok ⟨(z3 xs (ex p2.2) (addF p)).map triT, []⟩ h := fun f g => src_zip3 (by
      have w1 := want_at (b := h) e hp2 (env := [some (.loc n), some (iT xs), some (tN k), some (tN j), f, g, none, none, none, none]) (i := 0) (j := 3) rfl rfl
      have w2 := adds_at (b := h) e hp (env := [some (.loc n), some (iT xs), some (tN k), some (tN j), f, g, none, none, none, none]) (i := 0) (j := 2) rfl rfl
      rw [q1_cons, q1_var]
      simp only [List.getElem?_cons_zero, List.getElem?_cons_succ, bind_ok]
      rw [q1_cons, w1]
      simp only [bind_ok]
      rw [q1_cons, w2]
      simp only [bind_ok, q1_nil])
    unfold b_Ways_comes_in
    simp only [q2_seq, q2_set, q1_C, bindE_ok, seq_nx, List.set]
    rw [so_seq, sFor_of (src _ _)]
    generalize z3 xs (ex p2.2) (addF p) = l at b
    refine forLoop_wp _ (fun i env h' => h' = h ∧ ∃ m f, ComeK B (l.take i) m f ∧ env = [none, none, none, none, some (.int m), some (oT f), none, none, none, none]) ?_ ?_ ⟨rfl, 0, none, ComeK.nil B0, rfl⟩
    · rintro i x env h' hx ⟨rfl, m, f, kf, rfl⟩
      obtain ⟨z, hz, rfl, hi⟩ := getm hx
      have mz := List.mem_of_getElem? hz
      have bz := b z mz
      refine ⟨by simp, _, bind_tri, ?_⟩
      rw [take_snoc hz]
      obtain ⟨x, w, a⟩ := z
      have ba0 : -1000 < a := bz.a0
      have ba1 : a < 1000 := bz.a1
      simp only [List.set, q2_if, q1_tst, q1_bin, q1_var, q1_C, List.getElem?_cons_zero, List.getElem?_cons_succ, bind_ok, q3_gt, ofO_some, asB_bl, bindE_ok, decide_eq_true_eq]
      by_cases c : 0 < a
      · have d1 : divB a = true := divB_s (by omega) (by omega)
        have st := kf.pos (z := (x, w, a)) c bz.b0 bz.hi
        have fd : (x - w).fdiv a = (x - w) / a := Int.fdiv_eq_ediv_of_nonneg _ (by omega)
        rw [if_pos c]
        simp only [q2_set, q1_callF, q1_cons, q1_nil, q1_bin, q1_var, q1_C, List.getElem?_cons_zero, List.getElem?_cons_succ, bind_ok, q3_sub, q3_fdiv, d1, if_true, fd, fMax, ofO_some, bindE_ok, List.set]
        exact ⟨rfl, _, _, st, rfl⟩
      · rw [if_neg c]
        simp only [q2_if, q1_andT, q1_tst, q1_bin, q1_var, q1_C, List.getElem?_cons_zero, List.getElem?_cons_succ, bind_ok, q3_eq, q3_lt, ofO_some, asB_bl, bindE_ok, decide_eq_true_eq]
        by_cases c0 : a = 0
        · rw [if_pos c0]
          simp only [q1_tst, q1_bin, q1_var, List.getElem?_cons_zero, List.getElem?_cons_succ, bind_ok, q3_lt, ofO_some, asB_bl, bindE_ok, decide_eq_true_eq]
          by_cases c1 : x < w
          · rw [if_pos c1]
            exact ⟨si_self, .inl ⟨rfl, none, rfl, by simp, ComeR.never mz c0 c1⟩⟩
          · have c3 : ¬ a < 0 := by omega
            rw [if_neg c1]
            rw [if_neg c3]
            exact ⟨rfl, m, f, kf.zero c0 (by simp only; omega), rfl⟩
        · have c3 : a < 0 := by omega
          have d1 : divB (0 - a) = true := divB_s (by omega) (by omega)
          have st := kf.neg (z := (x, w, a)) c3
          simp only [minO] at st
          have fd : (x - w).fdiv (0 - a) = (x - w) / (0 - a) := Int.fdiv_eq_ediv_of_nonneg _ (by omega)
          rw [if_neg c0]
          simp only [bindE_ok, Bool.false_eq_true, if_false, q2_if, q1_tst, q1_bin, q1_var, q1_C, List.getElem?_cons_zero, List.getElem?_cons_succ, bind_ok, q3_lt, ofO_some, asB_bl, decide_eq_true_eq]
          rw [if_pos c3]
          simp only [q2_seq, q2_set, q2_if, q1_orT, q1_tst, q1_bin, q1_var, q1_C, List.getElem?_cons_zero, List.getElem?_cons_succ, bind_ok, q3_sub, q3_fdiv, d1, if_true, fd, is_oT, ofO_some, asB_bl, bindE_ok, List.set, seq_nx]
          cases f with
          | none =>
            simp only [Option.isNone_none, if_true, bindE_ok, q1_var, List.getElem?_cons_zero, List.getElem?_cons_succ]
            exact ⟨rfl, _, _, st, rfl⟩
          | some q =>
            simp only [Option.isNone_some, Bool.false_eq_true, if_false, oT, q1_var, List.getElem?_cons_zero, List.getElem?_cons_succ, q3_lt, ofO_some, asB_bl, bind_ok, bindE_ok, decide_eq_true_eq]
            by_cases c2 : (x - w) / (0 - a) < q
            · simp only [if_pos c2] at st
              rw [if_pos c2]
              exact ⟨rfl, _, _, st, rfl⟩
            · simp only [if_neg c2] at st
              rw [if_neg c2]
              exact ⟨rfl, _, _, st, rfl⟩
    · rintro env h' ⟨rfl, m, f, kf, rfl⟩
      rw [List.length_map, List.take_length] at kf
      refine ⟨by simp, ?_⟩
      simp only [q2_seq, q2_if, q1_andT, q1_tst, q1_bin, q1_var, q1_C, List.getElem?_cons_zero, List.getElem?_cons_succ, bind_ok, isNot_oT, ofO_some, asB_bl]
      cases f with
      | none =>
        simp only [Option.isNone_none, Bool.not_true, Bool.false_eq_true, if_false, bindE_ok, q2_nil, seq_nx, q2_ret, q1_var, List.getElem?_cons_zero, List.getElem?_cons_succ, so_rt]
        exact ⟨si_self, .inl ⟨rfl, some m, rfl, by simp, kf.yes (by simp)⟩⟩
      | some q =>
        simp only [Option.isNone_some, Bool.not_false, if_true, q1_tst, q1_bin, q1_var, oT, List.getElem?_cons_zero, List.getElem?_cons_succ, bind_ok, q3_gt, ofO_some, asB_bl, bindE_ok, decide_eq_true_eq]
        by_cases c : q < m
        · rw [if_pos c]
          exact ⟨si_self, .inl ⟨rfl, none, rfl, by simp, kf.no c⟩⟩
        · rw [if_neg c]
          exact ⟨si_self, .inl ⟨rfl, some m, rfl, by simp, kf.yes (by simp; omega)⟩⟩
  obtain ⟨t, h', ho, f, rfl, rfl, kf⟩ := Out.wp_get w
  exact ⟨f, ho, kf⟩
end
end Gd
namespace Gd
open PySem PySem.Spec PyProof.Rows L2 Sm
def goodA (fr : List Fr) (xs : List Int) (p : Fr) (j : Nat) (t : Int) : Prop := fits (goneL xs (addF p) t) (ex p.2) = true ∧ ∀ i q, i < j → fr[i]? = some q → fits (goneL xs (addF p) t) (ex q.2) = false
structure StrK (B : Int) (fr : List Fr) (xs : List Int) (p : Fr) (j : Nat) (f : Option Int) : Prop where
  fit : ∀ t, 0 ≤ t → ltO t f → goodA fr xs p j t
  no : ∀ q, f = some q → 0 ≤ q ∧ q ≤ B + 1 ∧ ¬ goodA fr xs p j q
section
variable {h : Store} {fr : List Fr} {n k j : Nat} {p p2 : Fr} {xs : List Int} {f g : Option Int} {B : Int}
theorem first_good (hp : fr[k]? = some p) {t : Int} : firstL (wantsL fr) (goneL xs (addF p) t) = some k ↔ goodA fr xs p k t := by
  rw [firstL_some]
  have e : (wantsL fr)[k]? = some (ex p.2) := by simp [wantsL, hp]
  constructor
  · rintro ⟨⟨w, e1, e2⟩, e3⟩
    rw [e] at e1
    cases e1
    exact ⟨e2, fun i q hi hq => e3 i _ hi (by simp [wantsL, hq])⟩
  · rintro ⟨a, b⟩
    refine ⟨⟨_, e, a⟩, fun i w hi hw => ?_⟩
    rw [wantsL, List.getElem?_map, Option.map_eq_some_iff] at hw
    obtain ⟨q, hq, rfl⟩ := hw
    exact b i q hi hq
theorem goodA_up (hp2 : fr[j]? = some p2) {t : Int} : goodA fr xs p (j + 1) t ↔ goodA fr xs p j t ∧ fits (goneL xs (addF p) t) (ex p2.2) = false := by
  constructor
  · rintro ⟨a, b⟩
    exact ⟨⟨a, fun i q hi hq => b i q (by omega) hq⟩, b j p2 (by omega) hp2⟩
  · rintro ⟨⟨a, b⟩, c⟩
    refine ⟨a, fun i q hi hq => ?_⟩
    by_cases z : i = j
    · subst z
      rw [hp2] at hq
      cases hq
      exact c
    · exact b i q (by omega) hq
theorem StrK.start (hx : xs.length = 10) (f0 : fits xs (ex p.2) = true) (kf : LastK B (z3 xs (ex p.2) (addF p)) f) : StrK B fr xs p 0 f := by
  have ff := fun t => fits_z3 (t := t) (xs := xs) (ws := ex p.2) (as := addF p) (by rw [hx, addF_len])
  have g0 : goneL xs (addF p) 0 = xs := by
    unfold goneL
    simp only [Int.zero_mul, Int.add_zero]
    exact List.map_fst_zip (by rw [hx, addF_len]; omega)
  have a0 : ∀ z ∈ z3 xs (ex p.2) (addF p), fitA 0 z := (ff 0).mp (by rw [g0]; exact f0)
  have key : ∀ t, 0 ≤ t → (goodA fr xs p 0 t ↔ ltO t f) := fun t ht => by
    rw [kf.fit]
    unfold goodA
    rw [ff]
    constructor
    · exact fun a z m _ => a.1 z m
    · refine fun a => ⟨fun z m => ?_, fun i q hi => absurd hi (by omega)⟩
      by_cases c : z.2.2 < 0
      · exact a z m c
      · have := a0 z m
        unfold fitA at this ⊢
        have : 0 ≤ t * z.2.2 := Int.mul_nonneg ht (by omega)
        omega
  refine ⟨fun t ht l => (key t ht).mpr l, fun q e => ?_⟩
  have q0 : 0 ≤ q := by
    have : ltO 0 f := (kf.fit 0).mpr fun z m _ => a0 z m
    have := this q e
    omega
  refine ⟨q0, kf.low q e, fun a => ?_⟩
  have := (key q q0).mp a q e
  omega
theorem StrK.same (hx : xs.length = 10) (s : StrK B fr xs p j f) (hp2 : fr[j]? = some p2) (r : ComeR B (z3 xs (ex p2.2) (addF p)) g) (c : ∀ q, g = some q → ∃ r, f = some r ∧ r ≤ q) : StrK B fr xs p (j + 1) f := by
  have ff := fun t => fits_z3 (t := t) (xs := xs) (ws := ex p2.2) (as := addF p) (by rw [hx, addF_len])
  refine ⟨fun t ht l => (goodA_up hp2).mpr ⟨s.fit t ht l, ?_⟩, fun q e => ⟨(s.no q e).1, (s.no q e).2.1, fun a => (s.no q e).2.2 ((goodA_up hp2).mp a).1⟩⟩
  cases e : fits (goneL xs (addF p) t) (ex p2.2) with
  | false => rfl
  | true =>
    exfalso
    have m := (ff t).mp e
    cases g with
    | none => exact r t ht m
    | some q =>
      obtain ⟨u, rfl, u1⟩ := c q rfl
      have := l u rfl
      exact r.2.2.2 t ht (by omega) m
theorem StrK.less (hx : xs.length = 10) (s : StrK B fr xs p j f) (hp2 : fr[j]? = some p2) {q : Int} (r : ComeR B (z3 xs (ex p2.2) (addF p)) (some q)) (c : ltO q f) : StrK B fr xs p (j + 1) (some q) := by
  have ff := fun t => fits_z3 (t := t) (xs := xs) (ws := ex p2.2) (as := addF p) (by rw [hx, addF_len])
  obtain ⟨r0, r1, r2, r3⟩ := r
  refine ⟨fun t ht l => (goodA_up hp2).mpr ⟨s.fit t ht fun u e => ?_, ?_⟩, fun u e => ?_⟩
  · have := c u e
    simp only [ltO_some] at l
    omega
  · simp only [ltO_some] at l
    cases e : fits (goneL xs (addF p) t) (ex p2.2) with
    | false => rfl
    | true => exact absurd ((ff t).mp e) (r3 t ht l)
  · cases e
    refine ⟨r0, by omega, fun a => ?_⟩
    have := ((goodA_up hp2).mp a).2
    rw [(ff q).mpr r2] at this
    cases this
structure StrR (B : Int) (fr : List Fr) (xs : List Int) (p : Fr) (k : Nat) (f : Option Int) : Prop where
  fit : ∀ t, 0 ≤ t → ltO t f → firstL (wantsL fr) (goneL xs (addF p) t) = some k
  no : ∀ q, f = some q → 0 ≤ q ∧ q ≤ B + 1 ∧ firstL (wantsL fr) (goneL xs (addF p) q) ≠ some k
theorem okB_of (kp : okFr p) (kp2 : okFr p2) (hB : 40 ≤ B) (hb : ∀ x ∈ xs, 0 ≤ x ∧ x ≤ B) : ∀ z ∈ z3 xs (ex p2.2) (addF p), okB B z := fun z m => by
  obtain ⟨m1, m2, m3⟩ := z3_mem m
  have exb : ∀ n, 0 < n → full n = true → n ≤ 1000000000000 → ∀ x ∈ ex n, 0 ≤ x ∧ x ≤ 40 := fun n n0 fn nm x hx => by
    obtain ⟨e, he, rfl⟩ := List.mem_map.mp hx
    have := exps_small n0 fn nm e he
    simp only [Int.ofNat_eq_natCast]
    omega
  have b1 := hb _ m1
  have b2 := exb _ kp2.b0 kp2.fb kp2.bm _ m2
  have b3 : -40 ≤ z.2.2 ∧ z.2.2 ≤ 40 := by
    unfold addF subL at m3
    obtain ⟨q, hq, e⟩ := List.mem_map.mp m3
    have c1 := exb _ kp.a0 kp.fa kp.am _ (List.of_mem_zip hq).1
    have c2 := exb _ kp.b0 kp.fb kp.bm _ (List.of_mem_zip hq).2
    omega
  exact ⟨by omega, by omega, by omega, by omega, by omega⟩
theorem stretch_of_eq (e : h[n]? = some (waysC fr)) (ok : okP fr) (hl : fr.length < 1000) (hx : xs.length = 10) (hB : 40 ≤ B) (hb : ∀ x ∈ xs, 0 ≤ x ∧ x ≤ B) (o : firstL (wantsL fr) xs = some k) (hp : fr[k]? = some p) :
    ∃ f, F_Ways_stretch_of [.loc n, iT xs, tN k] h = .ok (oT f) h ∧ StrR B fr xs p k f := by
  have kp := ok p (List.mem_of_getElem? hp)
  have hk : k < fr.length := (List.getElem?_eq_some_iff.mp hp).1
  have f0 : fits xs (ex p.2) = true := by
    obtain ⟨p', hp', a⟩ := firstL_lt o
    rw [hp] at hp'
    cases hp'
    exact a
  obtain ⟨f, e1, kf⟩ := last_fit_wp e hp (okB_of kp kp hB hb)
  have s0 := StrK.start (fr := fr) hx f0 kf
  have w : (F_Ways_stretch_of [.loc n, iT xs, tN k] h).wp (fun t h' => ∃ f, t = oT f ∧ h' = h ∧ StrK B fr xs p k f) (fun _ _ => False) := by
    refine fn_wp rfl ?_
    show (b_Ways_stretch_of [some (.loc n), some (iT xs), some (tN k), none, none, none] h).wp _
    have c1 : mMeth 0 "last_fit" F_Ways_last_fit (mVar 0) (mCons (mVar 1) (mCons (mVar 2) mNil)) [some (.loc n), some (iT xs), some (tN k), none, none, none] h = .ok (oT f) h := by
      rw [ways_methL (xs := [iT xs, tN k]) (n := n) (by simp) e rfl (by simp), e1]
    unfold b_Ways_stretch_of
    simp -implicitDefEqProofs only [q2_seq, q2_set, c1, bindE_ok, seq_nx, List.set]
    rw [so_seq, sFor_of (range_of (h1 := h) (e := k) (by simp) (by omega))]
    refine forLoop_wp _ (fun i env h' => h' = h ∧ ∃ f, StrK B fr xs p i f ∧ env = [some (.loc n), some (iT xs), some (tN k), some (oT f), none, none]) ?_ ?_ ⟨rfl, f, s0, rfl⟩
    · rintro i x env h' hx' ⟨rfl, f, sf, rfl⟩
      obtain ⟨rfl, hi⟩ := range_at hx'
      refine ⟨by simp, _, b_one, ?_⟩
      rw [Int.zero_add]
      obtain ⟨p2, hp2⟩ : ∃ p2, fr[i]? = some p2 := ⟨_, List.getElem?_eq_getElem (by omega)⟩
      obtain ⟨g, e2, r⟩ := comes_in_wp (by omega) e hp hp2 (okB_of kp (ok p2 (List.mem_of_getElem? hp2)) hB hb)
      have c2 : ∀ a b : Option T, mMeth 0 "comes_in" F_Ways_comes_in (mVar 0) (mCons (mVar 1) (mCons (mVar 2) (mCons (mVar 5) mNil))) [some (.loc n), some (iT xs), some (tN k), a, b, some (tN i)] h' = .ok (oT g) h' := fun a b => by
        rw [ways_methL (xs := [iT xs, tN k, tN i]) (n := n) (by simp) e rfl (by simp), e2]
      have c3 := c2 (some (oT f)) none
      rw [show T.int (i : Int) = tN i from rfl]
      simp -implicitDefEqProofs only [List.set, q2_seq, q2_set, c3, bindE_ok, seq_nx, q2_if, q1_andT, q1_orT, q1_tst, q1_bin, q1_var, q1_C, List.getElem?_cons_zero, List.getElem?_cons_succ, bind_ok, isNot_oT, is_oT, ofO_some, asB_bl]
      cases g with
      | none =>
        simp -implicitDefEqProofs only [Option.isNone_none, Bool.not_true, Bool.false_eq_true, if_false, bindE_ok, q2_nil]
        exact ⟨rfl, f, sf.same hx hp2 r (fun q e => by cases e), rfl⟩
      | some q =>
        simp -implicitDefEqProofs only [Option.isNone_some, Bool.not_false, if_true, q1_orT, q1_tst, q1_bin, q1_var, q1_C, List.getElem?_cons_zero, List.getElem?_cons_succ, bind_ok, is_oT, ofO_some, asB_bl]
        cases f with
        | none =>
          simp -implicitDefEqProofs only [Option.isNone_none, if_true, bindE_ok, q2_set, q1_var, List.getElem?_cons_zero, List.getElem?_cons_succ, List.set]
          exact ⟨rfl, some q, sf.less hx hp2 r (by simp), rfl⟩
        | some u =>
          simp -implicitDefEqProofs only [Option.isNone_some, Bool.false_eq_true, if_false, oT, q1_tst, q1_bin, q1_var, List.getElem?_cons_zero, List.getElem?_cons_succ, q3_lt, ofO_some, asB_bl, bind_ok, bindE_ok, decide_eq_true_eq]
          by_cases c : q < u
          · rw [if_pos c]
            exact ⟨rfl, some q, sf.less hx hp2 r (by simpa using c), rfl⟩
          · rw [if_neg c]
            exact ⟨rfl, some u, sf.same hx hp2 r (fun v e => ⟨u, rfl, by cases e; omega⟩), rfl⟩
    · rintro env h' ⟨rfl, f, sf, rfl⟩
      rw [Sm.rangeT_length] at sf
      refine ⟨by simp, ?_⟩
      simp -implicitDefEqProofs only [q2_ret, q1_var, List.getElem?_cons_zero, List.getElem?_cons_succ, bindE_ok, so_rt]
      exact ⟨si_self, .inl ⟨oT_pu, f, rfl, by simp, sf⟩⟩
  obtain ⟨t, h', ho, f, rfl, rfl, sf⟩ := Out.wp_get w
  exact ⟨f, ho, fun t ht l => (first_good hp).mpr (sf.fit t ht l), fun q e => ⟨(sf.no q e).1, (sf.no q e).2.1, fun a => (sf.no q e).2.2 ((first_good hp).mp a)⟩⟩
end
end Gd
namespace Gd
open PySem PySem.Spec PyProof.Rows L2 Sm
section
variable {h : Store} {fr : List Fr} {n k j : Nat} {p p2 : Fr} {xs : List Int} {f g : Option Int} {B : Int}
theorem gone_gone {as : List Int} {t : Int} (hx : xs.length = as.length) : goneL (goneL xs as t) as 1 = goneL xs as (t + 1) := by
  unfold goneL
  induction xs generalizing as with
  | nil => rfl
  | cons x r ih =>
    cases as with
    | nil => rfl
    | cons a as =>
      simp only [List.zip_cons_cons, List.map_cons, ih (as := as) (by simpa using hx), List.cons.injEq, and_true]
      rw [Int.add_mul]
      omega
theorem gone_0 {as : List Int} (hx : xs.length = as.length) : goneL xs as 0 = xs := by
  unfold goneL
  simp only [Int.zero_mul, Int.add_zero]
  exact List.map_fst_zip (by omega)
end
end Gd
namespace Gd
open PySem PySem.Spec PyProof.Rows L2 Sm
section
variable {h : Store} {fr : List Fr} {n k j d m M : Nat} {p : Fr} {xs : List Int} {es : List Nat} {f : Option Int} {B : Int}
theorem run_add : ∀ {b : Nat}, runP fr xs (d + b) = runP fr (runP fr xs d) b
  | 0 => rfl
  | b + 1 => by
    show stepP fr (runP fr xs (d + b)) = stepP fr (runP fr (runP fr xs d) b)
    rw [run_add (b := b)]
theorem num_add {b : Nat} : numP fr xs (d + b) = numP fr (runP fr xs d) b := by
  unfold numP
  rw [run_add]
theorem run_bound (ok : okP fr) (hl : es.length = 10) (hM : ∀ e ∈ es, e ≤ M) : ∀ n, ∃ fs : List Nat, runP fr (nI es) n = nI fs ∧ fs.length = 10 ∧ ∀ e ∈ fs, e ≤ M + 40 * n
  | 0 => ⟨es, rfl, hl, by simpa using hM⟩
  | n + 1 => by
    obtain ⟨fs, e1, e2, e3⟩ := run_bound ok hl hM n
    show ∃ gs : List Nat, stepP fr (runP fr (nI es) n) = nI gs ∧ _
    rw [e1]
    unfold stepP
    cases q : firstL (wantsL fr) (nI fs) with
    | none => exact ⟨fs, rfl, e2, fun e m => by have := e3 e m; omega⟩
    | some k =>
      obtain ⟨p, hp, fi⟩ := firstL_lt q
      obtain ⟨gs, g1, g2, g3, _⟩ := prod_step (ok p (List.mem_of_getElem? hp)) e2 fi e3
      simp only [getD_of hp]
      exact ⟨gs, g1, g2, fun e m => by have := g3 e m; omega⟩
theorem run_stretch (hx : xs.length = 10) (hp : fr[k]? = some p) : ∀ o : Nat, (∀ i : Nat, i < o → firstL (wantsL fr) (goneL xs (addF p) i) = some k) → runP fr xs o = goneL xs (addF p) o
  | 0, _ => by
    rw [show ((0 : Nat) : Int) = 0 from rfl, gone_0 (by rw [hx, addF_len])]
    rfl
  | o + 1, c => by
    have ih := run_stretch hx hp o fun i hi => c i (by omega)
    show stepP fr (runP fr xs o) = _
    rw [ih]
    have := c o (by omega)
    unfold stepP
    rw [this]
    simp only [getD_of hp]
    rw [gone_gone (by rw [hx, addF_len])]
    rfl
def cntP (fr : List Fr) (xs : List Int) : Nat → Nat
  | 0 => 0
  | d + 1 => cntP fr xs d + (if d = 0 ∨ numP fr xs d ≠ numP fr xs (d - 1) then 1 else 0)
theorem cnt_le : ∀ d, cntP fr xs d ≤ d
  | 0 => Nat.le_refl _
  | d + 1 => by
    have := cnt_le d
    unfold cntP
    split <;> omega
theorem cnt_succ : cntP fr xs (d + 1) = cntP fr xs d + (if d = 0 ∨ numP fr xs d ≠ numP fr xs (d - 1) then 1 else 0) := rfl
theorem cnt_stretch (b : d = 0 ∨ numP fr xs d ≠ numP fr xs (d - 1)) : ∀ o, (∀ i, i < o + 1 → numP fr xs (d + i) = some k) → cntP fr xs (d + (o + 1)) = cntP fr xs d + 1
  | 0, c => by
    show cntP fr xs (d + 1) = _
    rw [cnt_succ, if_pos b]
  | o + 1, c => by
    have ih := cnt_stretch b o fun i hi => c i (by omega)
    rw [show d + (o + 1 + 1) = d + (o + 1) + 1 by omega, cnt_succ, ih, if_neg]
    intro z
    rcases z with z | z
    · omega
    · apply z
      rw [c (o + 1) (by omega), show d + (o + 1) - 1 = d + o by omega, c o (by omega)]
theorem sub_gt {a b : Int} : fGt (.int a) (.int b) h = some (.bl (decide (b < a))) := rfl
theorem leapt_wp (ok : okP fr) (hl : fr.length < 1000) (hl10 : es.length = 10) (hM : ∀ e ∈ es, e ≤ M) (hb : n < 2 ^ 63) :
    (F_leapt [prT fr, iT (nI es), tN n] h).wp (fun t h' => ∃ d, d ≤ n ∧ (d = n ∨ restP fr (nI es) d = true) ∧ (∀ j, j < d → restP fr (nI es) j = false) ∧ cntP fr (nI es) d ≤ 2000 ∧ t = .tup [tN d, iT (runP fr (nI es) d)] ∧ h' = h)
      (fun e h' => e = .txt 12 ∧ h' = h ∧ ∃ d, d < n ∧ (∀ j, j ≤ d → restP fr (nI es) j = false) ∧ cntP fr (nI es) d = 2000) := by
  have hx : (nI es).length = 10 := by simp [nI, hl10]
  have rb := run_bound ok hl10 hM
  generalize nI es = xs at hx rb
  refine fn_wp rfl ?_
  show (b_leapt [some (prT fr), some (iT xs), some (tN n), none, none, none, none, none] h).wp _
  have at_ : (h ++ [waysC fr])[h.length]? = some (waysC fr) := by simp
  have nw := ways_new (h1 := h) (env := [some (prT fr), some (iT xs), some (tN n), none, none, none, none, none]) (r := mCons (mVar 0) mNil) (h := h) (by simp) ok (by omega)
  have tk : (h ++ [waysC fr]).take h.length = h := by simp
  have si : sameIns h (h ++ [waysC fr]) := si_more
  generalize h ++ [waysC fr] = W at nw at_ tk si
  have c1 : ∀ (j : Nat) (a b c d e : Option T), mMeth 0 "first" F_Ways_first (mVar 3) (mCons (mVar 1) mNil) [a, some (iT (runP fr xs j)), b, some (.loc h.length), c, d, e, none] W = .ok (optT (numP fr xs j)) W := fun j a b c d e => by
    rw [ways_methL (xs := [iT (runP fr xs j)]) (n := h.length) (by simp) at_ rfl (by simp), first_eq at_ (runP_len hx j)]
    rfl
  have c1' : ∀ (j : Nat) (a b c d e g : Option T), mMeth 0 "first" F_Ways_first (mVar 3) (mCons (mVar 1) mNil) [a, some (iT (runP fr xs j)), b, some (.loc h.length), c, d, e, g] W = .ok (optT (numP fr xs j)) W := fun j a b c d e g => by
    rw [ways_methL (xs := [iT (runP fr xs j)]) (n := h.length) (by simp) at_ rfl (by simp), first_eq at_ (runP_len hx j)]
    rfl
  have c10 := c1 0
  simp only [runP] at c10
  unfold b_leapt
  simp -implicitDefEqProofs only [q2_seq, q2_set, nw, bindE_ok, seq_nx, q1_C, List.set, c10]
  rw [so_seq]
  show (whileL _ _ _ _ _).wp _
  refine whileL_wp (fun x env h' => ∃ d, x = n - d ∧ d ≤ n ∧ cntP fr xs d ≤ 2000 ∧ (∀ j, j < d → restP fr xs j = false) ∧ (d = n ∨ (d = 0 ∨ numP fr xs d ≠ numP fr xs (d - 1))) ∧ h' = W ∧
    env = [none, some (iT (runP fr xs d)), some (tN n), some (.loc h.length), some (tN d), some (tN (cntP fr xs d)), some (optT (numP fr xs d)), none]) ?_ (n - 0) ⟨0, rfl, Nat.zero_le _, Nat.zero_le _, fun j hj => absurd hj (by omega), .inr (.inl rfl), rfl, rfl⟩
  rintro x env h' ⟨d, rfl, hd, hc, hr, bd, rfl, rfl⟩
  have cnd : mAndT (mTst (mBin fLt (mVar 4) (mVar 2))) (mTst (mBin fIsNot (mVar 6) (mC .non))) [none, some (iT (runP fr xs d)), some (tN n), some (.loc h.length), some (tN d), some (tN (cntP fr xs d)), some (optT (numP fr xs d)), none] h' = .ok (decide (d < n) && !(numP fr xs d).isNone) h' := by
    have lt1 : fLt (tN d) (tN n) h' = some (.bl (decide (d < n))) := by
      show fLt (.int (d : Int)) (.int (n : Int)) h' = _
      rw [q3_lt]
      congr 2
      rw [decide_eq_decide]
      omega
    simp -implicitDefEqProofs only [q1_andT, q1_tst, q1_bin, q1_var, q1_C, List.getElem?_cons_zero, List.getElem?_cons_succ, bind_ok, lt1, ofO_some, asB_bl, isNot_opt]
    by_cases c : d < n <;> simp [c]
  rw [cnd, wp_ok]
  cases q : numP fr xs d with
  | none =>
    rw [if_neg (by simp)]
    simp -implicitDefEqProofs only [q2_ret, q1_tup, q1_cons, q1_nil, q1_var, List.getElem?_cons_zero, List.getElem?_cons_succ, bind_ok, List.length_cons, List.length_nil]
    rw [if_pos (by decide)]
    exact ⟨si, .inl ⟨by simp [tN], d, hd, .inr (by rw [numP_rest, q]; rfl), hr, hc, rfl, tk⟩⟩
  | some k =>
    by_cases c : ¬ d < n
    · rw [if_neg (by simp [c])]
      simp -implicitDefEqProofs only [q2_ret, q1_tup, q1_cons, q1_nil, q1_var, List.getElem?_cons_zero, List.getElem?_cons_succ, bind_ok, List.length_cons, List.length_nil]
      rw [if_pos (by decide)]
      exact ⟨si, .inl ⟨by simp [tN], d, hd, .inl (by omega), hr, hc, rfl, tk⟩⟩
    · have c : d < n := by omega
      rw [if_pos (by simp [c])]
      have bd := bd.resolve_left (by omega)
      have rd : restP fr xs d = false := by rw [numP_rest, q]; rfl
      have e5 : fEq (tN (cntP fr xs d)) t_MOST_STRETCHES h' = some (.bl (decide (cntP fr xs d = 2000))) := by
        show fEq (.int ((cntP fr xs d : Nat) : Int)) (.int 2000) h' = _
        rw [q3_eq]
        congr 2
        rw [decide_eq_decide]
        omega
      simp -implicitDefEqProofs only [q2_seq, q2_if, q1_tst, q1_bin, q1_var, q1_C, List.getElem?_cons_zero, List.getElem?_cons_succ, bind_ok, e5, ofO_some, asB_bl, bindE_ok, decide_eq_true_eq]
      by_cases c2 : cntP fr xs d = 2000
      · rw [if_pos c2]
        show ((SO.ex (.txt 12) _ h').seq _).wp _
        exact ⟨si, by simp [Ex.pu], rfl, tk, d, c, fun j hj => by
          rcases Nat.lt_or_eq_of_le hj with z | z
          · exact hr j z
          · rw [z]; exact rd, c2⟩
      · obtain ⟨p, hp, fi⟩ := firstL_lt (show firstL (wantsL fr) (runP fr xs d) = some k from q)
        obtain ⟨fs, r1, r2, r3⟩ := rb d
        have B0 : (40 : Int) ≤ (M + 40 * n + 40 : Nat) := by omega
        have hbx : ∀ x ∈ runP fr xs d, 0 ≤ x ∧ x ≤ ((M + 40 * n + 40 : Nat) : Int) := fun x hx => by
          rw [r1] at hx
          obtain ⟨e, he, rfl⟩ := List.mem_map.mp hx
          have := r3 e he
          simp only [Int.ofNat_eq_natCast]
          omega
        obtain ⟨f, e1, r⟩ := stretch_of_eq (B := ((M + 40 * n + 40 : Nat) : Int)) at_ ok hl (runP_len hx d) B0 hbx q hp
        have cs : ∀ a b c u v, mMeth 0 "stretch_of" F_Ways_stretch_of (mVar 3) (mCons (mVar 1) (mCons (mVar 6) mNil)) [a, some (iT (runP fr xs d)), b, some (.loc h.length), c, u, some (tN k), v] h' = .ok (oT f) h' := fun a b c u v => by
          rw [ways_methL (xs := [iT (runP fr xs d), tN k]) (n := h.length) (by simp) at_ rfl (by simp), e1]
        obtain ⟨o, o1, o2, o3, o4, o5⟩ : ∃ o : Nat, 1 ≤ o ∧ o ≤ n - d ∧ (∀ i : Nat, i < o → ltO (i : Int) f) ∧ (o = n - d ∨ f = some (o : Int)) ∧ (f.isNone = true ∨ (∃ v, f = some v ∧ (n : Int) - d < v) → o = n - d) := by
          cases f with
          | none => exact ⟨n - d, by omega, Nat.le_refl _, fun i hi => by simp, .inl rfl, fun _ => rfl⟩
          | some v =>
            obtain ⟨v0, v1, v2⟩ := r.no v rfl
            have vn : v ≠ 0 := fun z => by
              subst z
              apply v2
              rw [gone_0 (by rw [runP_len hx, addF_len])]
              exact q
            by_cases cv : (n : Int) - d < v
            · exact ⟨n - d, by omega, Nat.le_refl _, fun i hi => by simp; omega, .inl rfl, fun _ => rfl⟩
            · refine ⟨v.toNat, by omega, by omega, fun i hi => by simp; omega, .inr (by congr 1; omega), fun z => ?_⟩
              rcases z with z | ⟨u, z, z2⟩
              · simp at z
              · cases z
                omega
        have all : ∀ i : Nat, i < o → firstL (wantsL fr) (goneL (runP fr xs d) (addF p) i) = some k := fun i hi => r.fit i (by omega) (o3 i hi)
        have rs := run_stretch (fr := fr) (runP_len hx d) hp o all
        rw [← run_add] at rs
        have nk : ∀ i, i < o → numP fr xs (d + i) = some k := fun i hi => by
          rw [num_add]
          unfold numP
          rw [run_stretch (runP_len hx d) hp i fun j hj => all j (by omega)]
          exact all i hi
        have cn : cntP fr xs (d + o) = cntP fr xs d + 1 := by
          obtain ⟨o', rfl⟩ : ∃ o', o = o' + 1 := ⟨o - 1, by omega⟩
          exact cnt_stretch bd o' nk
        have g1 := gone_eq (q := (o : Int)) at_ (runP_len (fr := fr) hx d) hp (by omega)
        rw [← rs] at g1
        have cg : ∀ a b c u, mMeth 0 "gone" F_Ways_gone (mVar 3) (mCons (mVar 1) (mCons (mVar 6) (mCons (mVar 7) mNil))) [a, some (iT (runP fr xs d)), b, some (.loc h.length), c, u, some (tN k), some (.int (o : Int))] h' = .ok (iT (runP fr xs (d + o))) h' := fun a b c u => by
          rw [ways_methL (xs := [iT (runP fr xs d), tN k, .int o]) (n := h.length) (by simp) at_ rfl (by simp), g1]
        have ad : fAdd (tN (cntP fr xs d)) (.int 1) h' = some (tN (cntP fr xs (d + o))) := by
          rw [cn]
          rfl
        have ad2 : fAdd (tN d) (.int (o : Int)) h' = some (tN (d + o)) := rfl
        have sb : ∀ h0, fSub (tN n) (tN d) h0 = some (.int ((n : Int) - d)) := fun _ => rfl
        have pick : ∀ (a b c u v : Option T), sIf (mOrT (mTst (mBin fIs (mVar 7) (mC .non))) (mTst (mBin fGt (mVar 7) (mBin fSub (mVar 2) (mVar 4))))) (sSet 7 (mBin fSub (mVar 2) (mVar 4))) sNil [a, b, some (tN n), c, some (tN d), u, v, some (oT f)] h' = .nx [a, b, some (tN n), c, some (tN d), u, v, some (.int (o : Int))] h' := fun a b c u v => by
          simp -implicitDefEqProofs only [q2_if, q1_orT, q1_tst, q1_bin, q1_var, q1_C, List.getElem?_cons_zero, List.getElem?_cons_succ, bind_ok, is_oT, ofO_some, asB_bl]
          cases f with
          | none =>
            have := o5 (.inl rfl)
            simp -implicitDefEqProofs only [Option.isNone_none, if_true, bindE_ok, q2_set, q1_bin, q1_var, List.getElem?_cons_zero, List.getElem?_cons_succ, bind_ok, sb, ofO_some, List.set]
            rw [show (n : Int) - d = (o : Int) by omega]
          | some z =>
            simp -implicitDefEqProofs only [Option.isNone_some, Bool.false_eq_true, if_false, oT, q1_tst, q1_bin, q1_var, List.getElem?_cons_zero, List.getElem?_cons_succ, bind_ok, sb, sub_gt, ofO_some, asB_bl, bindE_ok, decide_eq_true_eq]
            by_cases cz : (n : Int) - d < z
            · have := o5 (.inr ⟨z, rfl, cz⟩)
              rw [if_pos cz]
              simp -implicitDefEqProofs only [q2_set, q1_bin, q1_var, List.getElem?_cons_zero, List.getElem?_cons_succ, bind_ok, sb, ofO_some, bindE_ok, List.set]
              rw [show (n : Int) - d = (o : Int) by omega]
            · rw [if_neg cz]
              have oz : z = (o : Int) := by
                rcases o4 with w | w
                · have := (r.no z rfl).1
                  have := o3 (o - 1) (by omega) z rfl
                  omega
                · cases w
                  rfl
              rw [oz]
              rfl
        rw [if_neg c2]
        simp -implicitDefEqProofs only [q2_nil, seq_nx, q2_seq, q2_set, q1_bin, q1_var, q1_C, List.getElem?_cons_zero, List.getElem?_cons_succ, bind_ok, ad, ofO_some, bindE_ok, List.set, show optT (some k) = tN k from rfl, cs, pick, cg, ad2, c1']
        exact ⟨n - (d + o), by omega, d + o, rfl, by omega, by omega, fun j hj => by
          by_cases z : j < d
          · exact hr j z
          · have := nk (j - d) (by omega)
            rw [show d + (j - d) = j by omega] at this
            rw [numP_rest, this]
            rfl, by
          rcases o4 with z | z
          · exact .inl (by omega)
          · refine .inr (.inr ?_)
            have a1 := nk (o - 1) (by omega)
            rw [show d + (o - 1) = d + o - 1 by omega] at a1
            rw [a1]
            have := (r.no (o : Int) z).2.2
            rw [← rs] at this
            exact this, rfl, rfl⟩
end
end Gd
namespace Gd
open PySem PySem.Spec PyProof.Rows L2 Sm
section
variable {h : Store} {fr : List Fr} {n k j d m M : Nat} {p : Fr} {xs : List Int} {es : List Nat} {t : T} {pr li ma : T}
end
end Gd
namespace Gd
open PySem PySem.Spec PyProof.Rows L2 Sm
def lnF (f : Nat → Int) : List Int := (List.range 10).map f
def lnN (e : Nat → Nat) : List Nat := (List.range 10).map e
def upd {α : Type} (f : Nat → α) (p : Nat) (v : α) : Nat → α := fun i => if i = p then v else f i
@[simp] theorem lnF_len {f : Nat → Int} : (lnF f).length = 10 := rfl
@[simp] theorem lnN_len {f : Nat → Nat} : (lnN f).length = 10 := rfl
theorem lnN_ext {f g : Nat → Nat} (k : ∀ i, i < 10 → f i = g i) : lnN f = lnN g := List.map_congr_left fun i hi => k i (List.mem_range.mp hi)
theorem set_map_range {α : Type} {f : Nat → α} {p : Nat} {v : α} (n : Nat) : ((List.range n).map f).set p v = (List.range n).map (upd f p v) := by
  apply List.ext_getElem?
  intro i
  rw [List.getElem?_set]
  simp only [List.length_map, List.length_range, List.getElem?_map, List.getElem?_range']
  by_cases hi : i < n
  · rw [List.getElem?_range hi]
    by_cases c : p = i
    · subst c
      simp [hi, upd]
    · have : ¬ i = p := fun z => c z.symm
      simp [c, upd, this]
  · have hn : (List.range n)[i]? = none := List.getElem?_eq_none (by simp; omega)
    rw [hn]
    by_cases c : p = i
    · subst c
      simp [hi]
    · simp [c]
theorem lnN_set {f : Nat → Nat} {p : Nat} {v : Nat} : (lnN f).set p v = lnN (upd f p v) := set_map_range 10
theorem ln_sum {e : Nat → Nat} : (lnN e).sum = e 0 + e 1 + e 2 + e 3 + e 4 + e 5 + e 6 + e 7 + e 8 + e 9 := by
  simp [lnN, List.range, List.range.loop]
  omega
theorem okFr_ln {t b : Nat → Nat} (ht : (lnN t).sum ≤ 7) (hb : (lnN b).sum ≤ 7) (ap : ∀ i, i < 10 → t i = 0 ∨ b i = 0) : okFr (prodOf PR (lnN t), prodOf PR (lnN b)) := by
  have p1 : ∀ p ∈ PR, 1 < p := fun p hp => (PR_ok p hp).1
  have bnd : ∀ e : Nat → Nat, (lnN e).sum ≤ 7 → 1 ≤ prodOf PR (lnN e) ∧ prodOf PR (lnN e) ≤ 1000000000000 := fun e he => by
    refine ⟨prodOf_pos p1, ?_⟩
    have a := prodOf_le (es := lnN e) PR29 (by omega)
    have b : 29 ^ (lnN e).sum ≤ 29 ^ 7 := Nat.pow_le_pow_right (by omega) he
    omega
  have st := bnd t ht
  have sb := bnd b hb
  have sa := strip_prod p1 PR_pair (show (lnN t).length = PR.length from rfl)
  have sc := strip_prod p1 PR_pair (show (lnN b).length = PR.length from rfl)
  have fa := (ex_of (lnN t) rfl rfl).2
  have fb := (ex_of (lnN b) rfl rfl).2
  refine ⟨by show 0 < _; omega, by show 0 < _; omega, fa, fb, st.2, sb.2, ?_⟩
  have g := apart_gcd (a := prodOf PR (lnN t)) (b := prodOf PR (lnN b)) (by omega) (by omega) fa
  rw [sa, sc] at g
  have : apart (lnN t) (lnN b) = true := by
    rw [apart_iff]
    intro i x y hx hy
    unfold lnN at hx hy
    rw [List.getElem?_map, Option.map_eq_some_iff] at hx hy
    obtain ⟨j, hj, rfl⟩ := hx
    obtain ⟨j2, hj2, rfl⟩ := hy
    rw [hj] at hj2
    cases hj2
    exact ap j (List.mem_range.mp (List.mem_of_getElem? hj))
  rw [this] at g
  exact of_decide_eq_true g.symm
end Gd
namespace Gd
open PySem PySem.Spec PyProof.Rows L2 Sm
theorem lineB_wp {n most : Nat} {v : Int} {ps : List Nat} {Q : T → Store → Prop} {X : Ex → Store → Prop} (p : potAt h n v) (h9 : ps.length < 1000) (hp : ∀ p ∈ ps, p < 10) (hm : most ≤ 1000000)
    (q : ∀ (es : List Nat) w, 0 ≤ w → es.length = 10 → (∀ e ∈ es, e ≤ most) → Q (.tup (es.map tN)) (pst h n w)) : (F_law_line [.loc n, .tup (ps.map tN), tN most] h).wp Q X := by
  refine fn_wp rfl ?_
  show (b_law_line [some (.loc n), some (.tup (ps.map tN)), some (tN most), none, none] h).wp _
  have hn := p.lt
  have r0 : fRep (.lst [.int 0]) (.int 10) h = some ((List.replicate 10 0).map tN) := rfl
  have s0 : (sSet 3 (mCell (mNew2 fRep (mFrz (mLst (mCons (mC (.int 0)) mNil))) (mC (.int 10))))) [some (.loc n), some (.tup (ps.map tN)), some (tN most), none, none] h
      = .nx [some (.loc n), some (.tup (ps.map tN)), some (tN most), some (.loc h.length), none] (h ++ [.lst ((List.replicate 10 0).map tN)]) := by
    simp only [q2_set, q1_cell, q1_new2, q1_frz, q1_lst, q1_cons, q1_C, q1_nil, bind_ok, List.length_cons, List.length_nil, ofO_some]
    rw [if_pos (by decide)]
    simp only [bind_ok, r0, ofO_some, pus_tN, if_true, bindE_ok, List.set_cons_succ, List.set_cons_zero]
  have far : fAdd (tN most) (.int 1) = fun _ => some (.int (most + 1 : Nat)) := by funext h0; simp [tN]
  have tk : ∀ (w : Int) (l : Store), 0 ≤ w → F_law_take [.loc n, .int (most + 1 : Nat)] (pst h n w ++ l) = .ok (tN (w % (most + 1 : Nat)).toNat) (pst h n (w / (most + 1 : Nat)) ++ l) := fun w l hw => by
    rw [take_2 hn hw (by omega) (by omega)]
    have := Int.emod_nonneg w (show ((most + 1 : Nat) : Int) ≠ 0 by omega)
    rw [show tN (w % (most + 1 : Nat)).toNat = .int (w % (most + 1 : Nat)) by show T.int _ = _; congr 1; omega]
  have sm : ∀ w : Int, (w % (most + 1 : Nat)).toNat ≤ most := fun w => by
    have := Int.emod_nonneg w (show ((most + 1 : Nat) : Int) ≠ 0 by omega)
    have := Int.emod_lt_of_pos w (show (0 : Int) < ((most + 1 : Nat) : Int) by omega)
    omega
  have dv : ∀ w : Int, 0 ≤ w → 0 ≤ w / (most + 1 : Nat) := fun w hw => Int.ediv_nonneg hw (by omega)
  have put : ∀ (w : Int) (es : List Nat) (k e : Nat) (env : Env'), es.length = 10 → k < 10 → setC (pst h n w ++ [.lst (es.map tN)]) h.length (k : Int) (tN e) env = .nx env (pst h n w ++ [.lst ((es.set k e).map tN)]) := fun w es k e env hl hk => by
    rw [e_set pst_len (by omega) (by rw [List.length_map]; omega) rfl, Int.toNat_natCast, List.map_set]
  have okS : ∀ (es : List Nat) (k e : Nat), (∀ e ∈ es, e ≤ most) → e ≤ most → ∀ x ∈ es.set k e, x ≤ most := fun es k e a b x hx => by
    rcases List.mem_or_eq_of_mem_set hx with c | c
    · exact a x c
    · omega
  unfold b_law_line
  rw [q2_seq, s0, seq_nx, q2_seq, so_seq]
  rw [sFor_of (h1 := h ++ [.lst ((List.replicate 10 0).map tN)]) (s := ⟨ps.map tN, []⟩) (by simp only [q1_seqS, q1_var, List.getElem?_cons_succ, List.getElem?_cons_zero, bind_ok, asS_tup])]
  rw [show h ++ [Cell.lst ((List.replicate 10 0).map tN)] = pst h n v ++ [.lst ((List.replicate 10 0).map tN)] by rw [pst_self p]]
  refine forLoop_wp _ (fun i env h' => ∃ (w : Int) (es : List Nat), 0 ≤ w ∧ es.length = 10 ∧ (∀ e ∈ es, e ≤ most) ∧ h' = pst h n w ++ [.lst (es.map tN)] ∧ env = [some (.loc n), none, some (tN most), some (.loc h.length), none]) ?_ ?_ ⟨v, List.replicate 10 0, p.2, rfl, ?_, rfl, rfl⟩
  · rintro i x env h' hx ⟨w, es, hw, hl, he, rfl, rfl⟩
    obtain ⟨k, hk, rfl, _⟩ := getm hx
    have k9 := hp k (List.mem_of_getElem? hk)
    refine ⟨by simp, _, b_one, ?_⟩
    have t1 := tk w [.lst (es.map tN)] hw
    have p1 := put (w / (most + 1 : Nat)) es k (w % (most + 1 : Nat)).toNat
    simp only [q2_item, q1_call, q1_cons, q1_bin, q1_var, q1_C, q1_nil, List.getElem?_cons_zero, List.getElem?_cons_succ, List.set, bind_ok, far, ofO_some, t1, bindE_ok]
    show (setC _ _ (k : Int) (tN (w % (most + 1 : Nat)).toNat) _).wp _
    rw [p1 _ hl k9]
    exact ⟨_, es.set k _, dv w hw, by simpa using hl, okS _ _ _ he (sm w), rfl, by simp⟩
  · rintro env h' ⟨w, es, hw, hl, he, rfl, rfl⟩
    refine ⟨by simp, ?_⟩
    have t6 := take_2 (h := h) (l := [.lst (es.map tN)]) (n := n) (v := w) (far := 6) hn hw (by omega) (by omega)
    have w6 : 0 ≤ w / 6 := by omega
    have fin : ∀ (w : Int) (es : List Nat), 0 ≤ w → es.length = 10 → (∀ e ∈ es, e ≤ most) → (sRet (mCallF fTuple (mCons (mVar 3) mNil)) [some (.loc n), none, some (tN most), some (.loc h.length), none] (pst h n w ++ [.lst (es.map tN)])).wp (fnP h Q X) := fun w es hw hl he => by
      have := q es w hw hl he
      simp [fnP, e_tup, this]
    show ((sSeq _ _) _ _).wp _
    rw [q2_seq, q2_if]
    by_cases c : w % 6 = 0
    · have t2 := tk (w / 6) [.lst (es.map tN)] w6
      have w7 := dv _ w6
      have t10 := take_2 (h := h) (l := [.lst (es.map tN)]) (n := n) (v := w / 6 / (most + 1 : Nat)) (far := 10) hn w7 (by omega) (by omega)
      have k0 : T.int (w / 6 / (most + 1 : Nat) % 10) = tN (w / 6 / (most + 1 : Nat) % 10).toNat := by show _ = T.int _; congr 1; omega
      have k1 : (w / 6 / (most + 1 : Nat) % 10).toNat < 10 := by omega
      rw [k0] at t10
      generalize (w / 6 / (most + 1 : Nat) % 10).toNat = k at t10 k1
      have p1 := put (w / 6 / (most + 1 : Nat) / 10) es k (w / 6 % (most + 1 : Nat)).toNat [some (.loc n), none, some (tN most), some (.loc h.length), none] hl k1
      simp only [q1_tst, q1_bin, q1_call, q1_cons, q1_var, q1_C, q1_nil, List.getElem?_cons_zero, List.getElem?_cons_succ, bind_ok, t6, c]
      rw [show fEq (.int 0) (.int 0) = fun _ => some (.bl true) from rfl]
      simp only [ofO_some, bind_ok, asB_bl, bindE_ok, if_true, q2_item, q1_call, q1_cons, q1_bin, q1_var, q1_C, q1_nil, List.getElem?_cons_zero, List.getElem?_cons_succ, far, t2, t10]
      rw [show tN k = T.int (k : Int) from rfl, asLK_ok, p1, seq_nx]
      exact fin _ _ (by omega) (by simpa using hl) (okS _ _ _ he (sm _))
    · simp only [q1_tst, q1_bin, q1_call, q1_cons, q1_var, q1_C, q1_nil, List.getElem?_cons_zero, List.getElem?_cons_succ, bind_ok, t6]
      rw [show fEq (.int (w % 6)) (.int 0) = fun _ => some (.bl (decide (w % 6 = 0))) from by funext h0; simp]
      simp only [ofO_some, bind_ok, asB_bl, bindE_ok, c, decide_false, Bool.false_eq_true, if_false, q2_nil, seq_nx]
      exact fin _ _ w6 hl he
  · intro e he
    have := (List.mem_replicate.mp he).2
    omega
def pl (e : Nat → Nat) : List Nat := (List.range 10).filter fun i => decide (0 < e i)
section
variable {h : Store} {e : Nat → Nat} {i : Nat} {l : List Nat}
def sm13 (e : Nat → Nat) : Prop := ∀ i, i < 10 → e i < 10000000000000
end
end Gd
namespace Gd
open PySem PySem.Spec PyProof.Rows L2 Sm
section
variable {h : Store} {e : Nat → Nat} {i : Nat} {l : List Nat}
def mil (e : Nat → Nat) : Prop := ∀ i, i < 10 → e i ≤ 1000000
theorem mil.sm (k : mil e) : sm13 e := fun i hi => by
  have := k i hi
  omega
end
end Gd
namespace Gd
open PySem PySem.Spec PyProof.Rows L2 Sm
def thereB (l : List (Str × T)) : T → Bool
  | .str z => nmOk (.str z) && (getS l z).isSome
  | _ => false
section
variable {h : Store} {n m i : Nat} {P t x y p c v : T} {l l2 : List (Str × T)} {E E2 : List T} {env : Env'} {mo me mv mi : M T} {r : M (List T)} {z : Str}
theorem notInS (z : Str) : fNotInS (.str z) (dcT l) h = some (.bl (!(getS l z).isSome)) := by
  show (kvT (dcT l)).map _ = _
  rw [kvT_dcT]
  rfl
theorem getS_ok (g : getS l z = some t) : fGetS (dcT l) (.str z) h = some t := by
  show (kvT (dcT l)).bind (fun l => getS l z) = _
  rw [kvT_dcT, Option.bind_some, g]
theorem lenS_ok (hl : l.length ≤ 1000) : fLenS [dcT l] h = some (.int (l.length : Nat)) := by
  show (kvT (dcT l)).bind _ = _
  rw [kvT_dcT, Option.bind_some, if_pos hl]
theorem sortS_ok (hl : l.length < 64) : fSortS [dcT l] h = some ((sortS (l.map (·.1))).map T.str) := by
  show (kvT (dcT l)).bind _ = _
  rw [kvT_dcT, Option.bind_some, if_pos hl]
theorem copyD_ev (er : r env h = .ok [dcT l] h) (pl : puS l = true) (hl : l.length ≤ 1000) : mCopyD r env h = .ok (.loc h.length) (h ++ [.dK (keyed l)]) := by
  unfold mCopyD
  rw [er, bind_ok]
  simp only [kvT_dcT]
  rw [if_pos ⟨pl, hl⟩]
theorem celD_at : celD (h ++ [.dK (keyed l)]) (.loc h.length) = some (h.length, l) := by
  unfold celD
  simp only [at_end (show h.length = h.length from rfl), unk_keyed]
  rfl
theorem putD_ev (ev : mv env (h ++ [.dK (keyed l)]) = .ok v (h ++ [.dK (keyed l)])) (eo : mo env (h ++ [.dK (keyed l)]) = .ok (.loc h.length) (h ++ [.dK (keyed l)])) (ei : mi env (h ++ [.dK (keyed l)]) = .ok (.str z) (h ++ [.dK (keyed l)]))
    (pv : v.pu = true) (hl : l.length ≤ 1000) : sPutD mv mo mi env (h ++ [.dK (keyed l)]) = .nx env (h ++ [.dK (keyed (putS l z v))]) := by
  unfold sPutD
  rw [ev, bindE_ok, eo, bindE_ok, ei, bindE_ok]
  simp only [celD_at]
  rw [if_pos ⟨pv, hl⟩, set_end rfl]
theorem frzD_ev (eo : mo env (h ++ [.dK (keyed l)]) = .ok (.loc h.length) (h ++ [.dK (keyed l)])) : mFrzD mo env (h ++ [.dK (keyed l)]) = .ok (dcT l) (h ++ [.dead]) := by
  unfold mFrzD
  rw [eo, bind_ok]
  simp only [celD_at]
  rw [set_end rfl]
theorem popD_ev (eo : mo env (h ++ [.dK (keyed l)]) = .ok (.loc h.length) (h ++ [.dK (keyed l)])) (ee : me env (h ++ [.dK (keyed l)]) = .ok (.str z) (h ++ [.dK (keyed l)])) (g : getS l z = some t) : mPopD mo me env (h ++ [.dK (keyed l)]) = .ok t (h ++ [.dK (keyed (dropS l z))]) := by
  unfold mPopD
  rw [eo, bind_ok]
  simp only [celD_at]
  rw [ee, bind_ok]
  simp only [celD_at, g]
  rw [set_end rfl]
theorem look_ok (k : BnA h n m P l E) (hs : z.length ≤ 100000) (hn : nmOk (.str z) = true) (hg : (getS l z).isSome = true) : F_Bench_look_for [.loc n, .str z] h = .ok .non h := by
  refine Out.wp_eq (fn_wp rfl ?_)
  show (b_Bench_look_for [some (.loc n), some (.str z)] h).wp _
  have f := fld_k k (env := [some (.loc n), some (.str z)]) (mo := mVar 0) rfl
  have nm := is_name_eq (h := h) (t := .str z) rfl fun y e => by cases e; exact hs
  rw [hn] at nm
  have ni := notInS (h := h) (l := l) z
  rw [hg] at ni
  unfold b_Bench_look_for
  simp -implicitDefEqProofs only [q2_if, q1_orT, q1_notT, q1_tru, q1_call, q1_cons, q1_nil, q1_var, List.getElem?_cons_zero, List.getElem?_cons_succ, bind_ok, nm, truF_bl, ofO_some, Bool.not_true, Bool.false_eq_true, if_false, q1_tst, q1_bin, f, ni, asB_bl, bindE_ok, q2_nil]
  exact ⟨si_self, rfl, by simp⟩
theorem look_no (k : BnA h n m P l E) (kp : t.plain = true) (hs : Sized t) (hb : thereB l t = false) : F_Bench_look_for [.loc n, t] h = .ex (.txt 20) h := by
  refine out_ex (fn_wp rfl ?_)
  show (b_Bench_look_for [some (.loc n), some t] h).wp _
  have f := fld_k k (env := [some (.loc n), some t]) (mo := mVar 0) rfl
  have nm := is_name_eq (h := h) kp hs
  unfold b_Bench_look_for
  cases hn : nmOk t with
  | false =>
    rw [hn] at nm
    simp -implicitDefEqProofs only [q2_if, q1_orT, q1_notT, q1_tru, q1_call, q1_cons, q1_nil, q1_var, List.getElem?_cons_zero, List.getElem?_cons_succ, bind_ok, nm, truF_bl, ofO_some, Bool.not_false, if_true, bindE_ok]
    simp -implicitDefEqProofs [sRaise, fnP, Ex.pu]
  | true =>
    rw [hn] at nm
    cases t with
    | str z =>
      have hg : (getS l z).isSome = false := by
        have hb : (nmOk (.str z) && (getS l z).isSome) = false := hb
        rw [hn, Bool.true_and] at hb
        exact hb
      have ni := notInS (h := h) (l := l) z
      rw [hg] at ni
      simp -implicitDefEqProofs only [q2_if, q1_orT, q1_notT, q1_tru, q1_call, q1_cons, q1_nil, q1_var, List.getElem?_cons_zero, List.getElem?_cons_succ, bind_ok, nm, truF_bl, ofO_some, Bool.not_true, Bool.false_eq_true, if_false, q1_tst, q1_bin, f, ni, asB_bl, Bool.not_false, if_true, bindE_ok]
      simp -implicitDefEqProofs [sRaise, fnP, Ex.pu]
    | _ => cases hn
end
end Gd
namespace Gd
open PySem PySem.Spec PyProof.Rows L2 Sm
def powL : T → Bool
  | .tup xs => decide (xs.length = 10) && xs.all fun x => upto x 0 1000000
  | _ => false
def rowB (L : T) (st : Nat) : T := .tup [L, tN st]
section
variable {h : Store} {n m i d st cnt : Nat} {P t x y p c v L : T} {l l2 : List (Str × T)} {E E2 : List T} {env : Env'} {mo me mv mi : M T} {r : M (List T)} {z : Str} {ns : List Int}
theorem maxL_le (hn : ns ≠ []) {M : Int} : maxL ns ≤ M ↔ ∀ x ∈ ns, x ≤ M := by
  obtain ⟨h1, h2⟩ := maxL_is hn
  exact ⟨fun a x hx => by have := h2 x hx; omega, fun a => a _ h1⟩
theorem ints_of_nn : ∀ {xs : List T}, xs.all nnB = true → ∃ ns : List Int, xs = ns.map T.int ∧ ∀ i ∈ ns, 0 ≤ i
  | [], _ => ⟨[], rfl, fun _ h => by cases h⟩
  | x :: r, a => by
    rw [List.all_cons, Bool.and_eq_true] at a
    obtain ⟨ns, e, f⟩ := ints_of_nn a.2
    cases x with
    | int i => exact ⟨i :: ns, by rw [e]; rfl, fun j hj => by
        rcases List.mem_cons.mp hj with z | z
        · rw [z]; exact of_decide_eq_true a.1
        · exact f j z⟩
    | _ => exact absurd a.1 Bool.false_ne_true
theorem powL_nn (k : powL p = true) : rightB p = true := by
  cases p with
  | tup xs =>
    have k : (decide (xs.length = 10) && xs.all fun x => upto x 0 1000000) = true := k
    rw [Bool.and_eq_true] at k
    show (decide (xs.length = 10) && xs.all nnB) = true
    rw [Bool.and_eq_true]
    refine ⟨k.1, List.all_eq_true.mpr fun x hx => ?_⟩
    have := List.all_eq_true.mp k.2 x hx
    cases x with
    | int i =>
      simp only [upto, Bool.and_eq_true] at this
      exact this.1
    | _ => exact absurd this Bool.false_ne_true
  | _ => exact absurd k Bool.false_ne_true
theorem right_pow (k : rightB p = true) : ∃ ns : List Int, p = iT ns ∧ ns.length = 10 ∧ (∀ i ∈ ns, 0 ≤ i) ∧ powL p = decide (maxL ns ≤ 1000000) := by
  cases p with
  | tup xs =>
    have k : (decide (xs.length = 10) && xs.all nnB) = true := k
    rw [Bool.and_eq_true, decide_eq_true_eq] at k
    obtain ⟨ns, rfl, nn⟩ := ints_of_nn k.2
    have l10 : ns.length = 10 := by simpa using k.1
    refine ⟨ns, rfl, l10, nn, ?_⟩
    show (decide ((ns.map T.int).length = 10) && (ns.map T.int).all fun x => upto x 0 1000000) = _
    rw [decide_eq_true k.1, Bool.true_and, Bool.eq_iff_iff, List.all_eq_true, decide_eq_true_eq, maxL_le (by intro z; rw [z] at l10; cases l10)]
    constructor
    · intro a i hi
      have := a (.int i) (List.mem_map.mpr ⟨i, hi, rfl⟩)
      simp only [upto, Bool.and_eq_true, decide_eq_true_eq] at this
      omega
    · intro a x hx
      obtain ⟨i, hi, rfl⟩ := List.mem_map.mp hx
      have := a i hi
      have := nn i hi
      simp only [upto, Bool.and_eq_true, decide_eq_true_eq]
      omega
  | _ => exact absurd k Bool.false_ne_true
theorem put_look {env : Env'} (e2 : env[2]? = some (some p)) (kp : p.plain = true) : mOrT (mNotT (mTru (mCall F_is_powers (mCons (mVar 2) mNil)))) (mTst (mBin fGt (mCallF fMaxA (mCons (mVar 2) mNil)) (mC t_GREATEST))) env h = .ok (!powL p) h := by
  have ip := is_powers_eq (h := h) kp
  simp -implicitDefEqProofs only [q1_orT, q1_notT, q1_tru, q1_call, q1_cons, q1_nil, q1_var, e2, bind_ok, ip, truF_bl, ofO_some]
  cases rb : rightB p with
  | false =>
    have : powL p = false := by
      cases q : powL p with
      | false => rfl
      | true => rw [powL_nn q] at rb; cases rb
    rw [this]
    simp -implicitDefEqProofs only [Bool.not_false, if_true]
  | true =>
    obtain ⟨ns, rfl, l10, nn, e⟩ := right_pow rb
    have mx : fMaxA [iT ns] h = some (.int (maxL ns)) := by
      show (Sm.intsOf? (ns.map T.int)).bind (fun ns => if ns ≠ [] then some (T.int (maxL ns)) else none) = _
      rw [Sm.ints_map, Option.bind_some, if_pos (by intro z; rw [z] at l10; cases l10)]
    have gt : fGt (.int (maxL ns)) t_GREATEST h = some (.bl (!decide (maxL ns ≤ 1000000))) := by
      show fGt (.int _) (.int 1000000) h = _
      rw [q3_gt]
      congr 2
      rw [Bool.eq_iff_iff, decide_eq_true_eq, Bool.not_eq_true', decide_eq_false_iff_not]
      omega
    rw [e]
    simp -implicitDefEqProofs only [Bool.not_true, Bool.false_eq_true, if_false, q1_tst, q1_bin, q1_callF, q1_cons, q1_nil, q1_var, e2, q1_C, bind_ok, mx, gt, ofO_some, asB_bl]
theorem line_right_eq (kp : p.plain = true) : F_law_line_right [p] h = .ok (.bl (powL p)) h := by
  refine Out.wp_eq (fn_wp rfl ?_)
  show (b_law_line_right [some p, none] h).wp _
  unfold b_law_line_right
  have no : fIsi "tuple" p h = some (.bl false) → powL p = false → ((sSeq (sIf (mOrT (mNotT (mTru (mUn (fIsi "tuple") (mVar 0)))) (mTst (mBin fNe (mCallF fLen (mCons (mVar 0) mNil)) (mC (.int 10))))) (sRet (mC (.bl false))) sNil) (sRet (mCallF fAll (mCons (mFrz (mComp (mSeq (mVar 0)) [1] (.one 1) mYes (mAndV (mCall F_law_whole (mCons (mVar 1) mNil)) (mChain fLe fLe (mC (.int 0)) (mVar 1) (mBin fPow (mC (.int 10)) (mC (.int 6))))))) mNil)))) [some p, none] h).wp (fnP h (fun t h' => t = .bl (powL p) ∧ h' = h) fun _ _ => False) := fun i e => by
    rw [e]
    simp -implicitDefEqProofs only [q2_seq, q2_if, q1_orT, q1_notT, q1_tru, q1_un, q1_var, List.getElem?_cons_zero, bind_ok, i, ofO_some, truF_bl, Bool.not_false, if_true, bindE_ok, q2_ret, q1_C, seq_rt, so_rt]
    exact ⟨si_self, .inl ⟨rfl, rfl, by simp⟩⟩
  cases p with
  | tup xs =>
    rw [plain_tup, plains_iff] at kp
    have isi : fIsi "tuple" (.tup xs) h = some (.bl true) := rfl
    have ln : fLen [.tup xs] h = some (.int (xs.length : Int)) := by simp
    have ne : fNe (.int (xs.length : Int)) (.int 10) h = some (.bl (!decide (xs.length = 10))) := by
      rw [q3_ne]
      congr 3
      rw [decide_eq_decide]
      omega
    simp -implicitDefEqProofs only [q2_seq, q2_if, q1_orT, q1_notT, q1_tru, q1_un, q1_var, List.getElem?_cons_zero, bind_ok, isi, ofO_some, truF_bl, Bool.not_true, Bool.false_eq_true, if_false, q1_tst, q1_bin, q1_callF, q1_cons, q1_nil, q1_C, ln, ne, asB_bl]
    show SO.wp _ _
    by_cases c : xs.length = 10
    · have cm : mComp (mSeq (mVar 0)) [1] (.one 1) mYes (mAndV (mCall F_law_whole (mCons (mVar 1) mNil)) (mChain fLe fLe (mC (.int 0)) (mVar 1) (mBin fPow (mC (.int 10)) (mC (.int 6))))) [some (.tup xs), none] h = .ok (xs.map fun x => T.bl (upto x 0 1000000)) h := by
        refine comp_map (g := id) (l := xs) (fun x => .bl (upto x 0 1000000)) (by simp) (by omega) fun x hx => ⟨_, b_one, ?_⟩
        have w := whole_law (h := h) (kp x hx)
        have pw : fPow (.int 10) (.int 6) h = some (.int 1000000) := rfl
        cases x with
        | int i =>
          by_cases c0 : 0 ≤ i <;> simp -implicitDefEqProofs [w, isW, upto, pw, c0]
        | _ => simp -implicitDefEqProofs [w, isW, upto]
      have al := all_map (h := h) (fun x => upto x 0 1000000) xs
      rw [decide_eq_true c]
      simp -implicitDefEqProofs only [Bool.not_true, Bool.false_eq_true, if_false, bindE_ok, q2_nil, seq_nx, q2_ret, q1_callF, q1_cons, q1_nil, q1_frz, cm, bind_ok, al, ofO_some, so_rt]
      refine ⟨si_self, .inl ⟨rfl, ?_, by simp⟩⟩
      show _ = T.bl (decide (xs.length = 10) && _)
      rw [decide_eq_true c, Bool.true_and]
    · rw [decide_eq_false c]
      simp -implicitDefEqProofs only [Bool.not_false, if_true, bindE_ok, q2_ret, q1_C, seq_rt, so_rt]
      refine ⟨si_self, .inl ⟨rfl, ?_, by simp⟩⟩
      show _ = T.bl (decide (xs.length = 10) && _)
      rw [decide_eq_false c, Bool.false_and]
  | loc _ => simp at kp
  | scr _ => simp at kp
  | adr _ _ _ _ => simp at kp
  | fnc _ => simp at kp
  | dct _ _ => simp at kp
  | _ => exact no rfl rfl
end
end Gd
namespace Gd
open PySem PySem.Spec PyProof.Rows L2 Sm
section
variable {h : Store} {n m i d st cnt : Nat} {P t x y p c v L L2 : T} {l l2 : List (Str × T)} {E E2 : List T} {z : Str}
theorem put_ok (k : BnA h n m P l E) (hs : z.length ≤ 100000) (hn : nmOk (.str z) = true) (kp : p.plain = true) (kq : p.pu = true) (kl : powL p = true) (rm : getS l z = none → l.length ≠ 12) (pl : puS l = true) (hl : l.length ≤ 1000) (hE : E.length < 100000) :
    F_Bench_put [.loc n, .str z, p] h = .ok .non (bst (h ++ [.dead]) n m P (putS l z (rowB p 0)) (E ++ [dcT l])) := by
  refine Out.wp_eq' (fnK_wp rfl ?_)
  show (b_Bench_put [some (.loc n), some (.str z), some p, none] h).wp _
  have nm := is_name_eq (h := h) (t := .str z) rfl fun y e => by cases e; exact hs
  rw [hn] at nm
  have f := fld_k k (env := [some (.loc n), some (.str z), some p, none]) (mo := mVar 0) rfl
  have pk := put_look (h := h) (p := p) (env := [some (.loc n), some (.str z), some p, none]) rfl kp
  rw [kl] at pk
  have ni := notInS (h := h) (l := l) z
  have ln := lenS_ok (h := h) hl
  have eq : fEq (.int (l.length : Nat)) t_MOST_NAMES h = some (.bl (decide (l.length = 12))) := by
    show fEq (.int (l.length : Nat)) (.int 12) h = _
    rw [q3_eq]
    congr 2
    rw [decide_eq_decide]
    omega
  have cond : mAndT (mTst (mBin fNotInS (mVar 1) (mFld 2 "kept" (mVar 0)))) (mTst (mBin fEq (mCallF fLenS (mCons (mFld 2 "kept" (mVar 0)) mNil)) (mC t_MOST_NAMES))) [some (.loc n), some (.str z), some p, none] h = .ok false h := by
    simp -implicitDefEqProofs only [q1_andT, q1_tst, q1_bin, q1_var, List.getElem?_cons_zero, List.getElem?_cons_succ, bind_ok, f, ni, ofO_some, asB_bl]
    cases g : getS l z with
    | none =>
      simp -implicitDefEqProofs only [Option.isSome_none, Bool.not_false, if_true, q1_bin, q1_callF, q1_cons, q1_nil, f, bind_ok, ln, ofO_some, q1_C, eq, asB_bl]
      rw [decide_eq_false (rm g)]
    | some t => simp -implicitDefEqProofs only [Option.isSome_some, Bool.not_true, Bool.false_eq_true, if_false]
  have cp := copyD_ev (h := h) (l := l) (env := [some (.loc n), some (.str z), some p, none]) (r := mCons (mFld 2 "kept" (mVar 0)) mNil) (by simp -implicitDefEqProofs only [q1_cons, q1_nil, f, bind_ok]) pl hl
  have i2 : ∀ {α : Type} (u v : α), (if 0 + 1 + 1 ≤ 10000 then u else v) = u := fun u v => if_pos (by decide)
  have pt := putD_ev (h := h) (l := l) (z := z) (v := rowB p 0) (env := [some (.loc n), some (.str z), some p, some (.loc h.length)]) (mv := mTup (mCons (mVar 2) (mCons (mC (.int 0)) mNil))) (mo := mVar 3) (mi := mVar 1) (by
    simp -implicitDefEqProofs only [q1_tup, q1_cons, q1_nil, q1_var, q1_C, List.getElem?_cons_zero, List.getElem?_cons_succ, bind_ok, List.length_cons, List.length_nil, i2]
    rfl) rfl rfl (by rw [rowB, pu_tup]; show (p.pu && true) = true; rw [kq]; rfl) hl
  have fz := frzD_ev (h := h) (l := putS l z (rowB p 0)) (env := [some (.loc n), some (.str z), some p, some (.loc h.length)]) (mo := mVar 3) rfl
  have kd := k.app [.dK (keyed (putS l z (rowB p 0)))]
  have ke := k.app [.dead]
  have mt : mMeth 2 "turn_to" F_Bench_turn_to (mVar 0) (mCons (mFrzD (mVar 3)) mNil) [some (.loc n), some (.str z), some p, some (.loc h.length)] (h ++ [.dK (keyed (putS l z (rowB p 0)))]) = F_Bench_turn_to [.loc n, dcT (putS l z (rowB p 0))] (h ++ [.dead]) := by
    unfold mMeth
    simp only [q1_var, List.getElem?_cons_zero, bind_ok, insOf_at kd.b]
    rw [if_pos (no_fld (by decide) (by decide) (by decide)), q1_cons, fz, bind_ok, q1_nil, bind_ok, bind_ok]
  have tt := turn_to_eq (l2 := putS l z (rowB p 0)) ke pl hE
  unfold b_Bench_put
  simp -implicitDefEqProofs only [q2_seq, q2_if, q1_notT, q1_tru, q1_call, q1_cons, q1_nil, q1_var, List.getElem?_cons_zero, List.getElem?_cons_succ, bind_ok, nm, truF_bl, ofO_some, Bool.not_true, bindE_ok, Bool.false_eq_true, if_false, q2_nil, seq_nx, pk, cond, q2_set, cp, List.set, pt, q2_exp, mt, tt]
  exact ⟨rfl, rfl⟩
theorem put_name (kp : t.plain = true) (hs : Sized t) (hn : nmOk t = false) : F_Bench_put [.loc n, t, p] h = .ex (.txt 20) h := by
  refine out_ex (fnK_wp rfl ?_)
  show (b_Bench_put [some (.loc n), some t, some p, none] h).wp _
  have nm := is_name_eq (h := h) kp hs
  rw [hn] at nm
  unfold b_Bench_put
  simp -implicitDefEqProofs only [q2_seq, q2_if, q1_notT, q1_tru, q1_call, q1_cons, q1_nil, q1_var, List.getElem?_cons_zero, List.getElem?_cons_succ, bind_ok, nm, truF_bl, ofO_some, Bool.not_false, if_true, bindE_ok]
  simp -implicitDefEqProofs [sRaise, fnK]
theorem put_pow (kt : t.plain = true) (hs : Sized t) (hn : nmOk t = true) (kp : p.plain = true) (kl : powL p = false) : F_Bench_put [.loc n, t, p] h = .ex (.txt 18) h := by
  refine out_ex (fnK_wp rfl ?_)
  show (b_Bench_put [some (.loc n), some t, some p, none] h).wp _
  have nm := is_name_eq (h := h) kt hs
  rw [hn] at nm
  have pk := put_look (h := h) (p := p) (env := [some (.loc n), some t, some p, none]) rfl kp
  rw [kl] at pk
  unfold b_Bench_put
  simp -implicitDefEqProofs only [q2_seq, q2_if, q1_notT, q1_tru, q1_call, q1_cons, q1_nil, q1_var, List.getElem?_cons_zero, List.getElem?_cons_succ, bind_ok, nm, truF_bl, ofO_some, Bool.not_true, bindE_ok, Bool.false_eq_true, if_false, q2_nil, seq_nx, pk, Bool.not_false, if_true]
  simp -implicitDefEqProofs [sRaise, fnK]
theorem put_many (k : BnA h n m P l E) (hs : z.length ≤ 100000) (hn : nmOk (.str z) = true) (kp : p.plain = true) (kl : powL p = true) (g : getS l z = none) (hl : l.length = 12) : F_Bench_put [.loc n, .str z, p] h = .ex (.txt 12) h := by
  refine out_ex (fnK_wp rfl ?_)
  show (b_Bench_put [some (.loc n), some (.str z), some p, none] h).wp _
  have nm := is_name_eq (h := h) (t := .str z) rfl fun y e => by cases e; exact hs
  rw [hn] at nm
  have f := fld_k k (env := [some (.loc n), some (.str z), some p, none]) (mo := mVar 0) rfl
  have pk := put_look (h := h) (p := p) (env := [some (.loc n), some (.str z), some p, none]) rfl kp
  rw [kl] at pk
  have ni := notInS (h := h) (l := l) z
  rw [g] at ni
  have ln := lenS_ok (h := h) (l := l) (by omega)
  rw [hl] at ln
  have eq : fEq (.int ((12 : Nat) : Int)) t_MOST_NAMES h = some (.bl true) := rfl
  unfold b_Bench_put
  simp -implicitDefEqProofs only [q2_seq, q2_if, q1_notT, q1_tru, q1_call, q1_cons, q1_nil, q1_var, List.getElem?_cons_zero, List.getElem?_cons_succ, bind_ok, nm, truF_bl, ofO_some, Bool.not_true, bindE_ok, Bool.false_eq_true, if_false, q2_nil, seq_nx, pk, q1_andT, q1_tst, q1_bin, f, ni, asB_bl, Option.isSome_none, Bool.not_false, if_true, q1_callF, ln, q1_C, eq]
  simp -implicitDefEqProofs [sRaise, fnK]
theorem mLook {env : Env'} {mo me : M T} (k : BnA h n m P l E) (eo : mo env h = .ok (.loc n) h) (ee : me env h = .ok t h) : mMeth 2 "look_for" F_Bench_look_for mo (mCons me mNil) env h = F_Bench_look_for [.loc n, t] h :=
  bench_meth k eo (no_fld (by decide) (by decide) (by decide)) (by rw [q1_cons, ee, bind_ok, q1_nil, bind_ok])
theorem run_ok (k : BnA h n m P l E) (hs : z.length ≤ 100000) (hn : nmOk (.str z) = true) (g : getS l z = some (rowB L st)) (lp : F_leapt [P, L, tN cnt] h = .ok (.tup [tN d, L2]) h) (kq : L2.pu = true) (pl : puS l = true) (hl : l.length ≤ 1000) (hE : E.length < 100000) :
    F_Bench_run [.loc n, .str z, tN cnt] h = .ok (tN d) (bst (h ++ [.dead]) n m P (putS l z (rowB L2 (st + d))) (E ++ [dcT l])) := by
  refine Out.wp_eq' (fnK_wp rfl ?_)
  show (b_Bench_run [some (.loc n), some (.str z), some (tN cnt), none, none, none, none, none] h).wp _
  have lk := look_ok k hs hn (by rw [g]; rfl)
  have ml := mLook k (env := [some (.loc n), some (.str z), some (tN cnt), none, none, none, none, none]) (mo := mVar 0) (me := mVar 1) rfl rfl
  rw [lk] at ml
  have f1 := fld_k k (env := [some (.loc n), some (.str z), some (tN cnt), none, none, none, none, none]) (mo := mVar 0) rfl
  have gt := getS_ok (h := h) g
  have f2 := fld_o k (env := [some (.loc n), some (.str z), some (tN cnt), some (tN st), some L, none, none, none]) (mo := mVar 0) rfl
  have f3 := fld_k k (env := [some (.loc n), some (.str z), some (tN cnt), some (tN st), some L, some (tN d), some L2, none]) (mo := mVar 0) rfl
  have cp := copyD_ev (h := h) (l := l) (env := [some (.loc n), some (.str z), some (tN cnt), some (tN st), some L, some (tN d), some L2, none]) (r := mCons (mFld 2 "kept" (mVar 0)) mNil) (by simp -implicitDefEqProofs only [q1_cons, q1_nil, f3, bind_ok]) pl hl
  have i2 : ∀ {α : Type} (u v : α), (if 0 + 1 + 1 ≤ 10000 then u else v) = u := fun u v => if_pos (by decide)
  have ad : ∀ S, fAdd (tN st) (tN d) S = some (tN (st + d)) := fun S => by
    show fAdd (.int _) (.int _) S = _
    rw [q3_add]
    rfl
  have pt := putD_ev (h := h) (l := l) (z := z) (v := rowB L2 (st + d)) (env := [some (.loc n), some (.str z), some (tN cnt), some (tN st), some L, some (tN d), some L2, some (.loc h.length)]) (mv := mTup (mCons (mVar 6) (mCons (mBin fAdd (mVar 3) (mVar 5)) mNil))) (mo := mVar 7) (mi := mVar 1) (by
    simp -implicitDefEqProofs only [q1_tup, q1_cons, q1_nil, q1_var, q1_bin, List.getElem?_cons_zero, List.getElem?_cons_succ, bind_ok, ad, ofO_some, List.length_cons, List.length_nil, i2]
    rfl) rfl rfl (by rw [rowB, pu_tup]; show (L2.pu && true) = true; rw [kq]; rfl) hl
  have fz := frzD_ev (h := h) (l := putS l z (rowB L2 (st + d))) (env := [some (.loc n), some (.str z), some (tN cnt), some (tN st), some L, some (tN d), some L2, some (.loc h.length)]) (mo := mVar 7) rfl
  have kd := k.app [.dK (keyed (putS l z (rowB L2 (st + d))))]
  have ke := k.app [.dead]
  have mt : mMeth 2 "turn_to" F_Bench_turn_to (mVar 0) (mCons (mFrzD (mVar 7)) mNil) [some (.loc n), some (.str z), some (tN cnt), some (tN st), some L, some (tN d), some L2, some (.loc h.length)] (h ++ [.dK (keyed (putS l z (rowB L2 (st + d))))]) = F_Bench_turn_to [.loc n, dcT (putS l z (rowB L2 (st + d)))] (h ++ [.dead]) := by
    unfold mMeth
    simp only [q1_var, List.getElem?_cons_zero, bind_ok, insOf_at kd.b]
    rw [if_pos (no_fld (by decide) (by decide) (by decide)), q1_cons, fz, bind_ok, q1_nil, bind_ok, bind_ok]
  have tt := turn_to_eq (l2 := putS l z (rowB L2 (st + d))) ke pl hE
  have bd1 : bindT (.tup [4, 3]) (rowB L st) [some (.loc n), some (.str z), some (tN cnt), none, none, none, none, none] = some [some (.loc n), some (.str z), some (tN cnt), some (tN st), some L, none, none, none] := by
    unfold rowB
    rw [b_tup]
    rfl
  have bd2 : bindT (.tup [5, 6]) (.tup [tN d, L2]) [some (.loc n), some (.str z), some (tN cnt), some (tN st), some L, none, none, none] = some [some (.loc n), some (.str z), some (tN cnt), some (tN st), some L, some (tN d), some L2, none] := by
    rw [b_tup]
    rfl
  unfold b_Bench_run
  simp -implicitDefEqProofs only [q2_seq, q2_exp, ml, bindE_ok, seq_nx, q2_asg, q1_bin, f1, bind_ok, q1_var, List.getElem?_cons_zero, List.getElem?_cons_succ, gt, ofO_some, bd1, q1_call, q1_cons, q1_nil, f2, lp, bd2, q2_set, cp, List.set, pt, mt, tt, q2_ret]
  exact ⟨rfl, rfl⟩
theorem run_no (k : BnA h n m P l E) (kp : t.plain = true) (hs : Sized t) (hb : thereB l t = false) : F_Bench_run [.loc n, t, c] h = .ex (.txt 20) h := by
  refine out_ex (fnK_wp rfl ?_)
  show (b_Bench_run [some (.loc n), some t, some c, none, none, none, none, none] h).wp _
  have ml := mLook k (env := [some (.loc n), some t, some c, none, none, none, none, none]) (mo := mVar 0) (me := mVar 1) rfl rfl
  rw [look_no k kp hs hb] at ml
  unfold b_Bench_run
  simp -implicitDefEqProofs only [q2_seq, q2_exp, ml, bindE_ex]
  simp -implicitDefEqProofs [fnK]
theorem drop_ok (k : BnA h n m P l E) (hs : z.length ≤ 100000) (hn : nmOk (.str z) = true) (g : getS l z = some t) (pl : puS l = true) (hl : l.length ≤ 1000) (hE : E.length < 100000) :
    F_Bench_drop [.loc n, .str z] h = .ok .non (bst (h ++ [.dead]) n m P (dropS l z) (E ++ [dcT l])) := by
  refine Out.wp_eq' (fnK_wp rfl ?_)
  show (b_Bench_drop [some (.loc n), some (.str z), none] h).wp _
  have lk := look_ok k hs hn (by rw [g]; rfl)
  have ml := mLook k (env := [some (.loc n), some (.str z), none]) (mo := mVar 0) (me := mVar 1) rfl rfl
  rw [lk] at ml
  have f3 := fld_k k (env := [some (.loc n), some (.str z), none]) (mo := mVar 0) rfl
  have cp := copyD_ev (h := h) (l := l) (env := [some (.loc n), some (.str z), none]) (r := mCons (mFld 2 "kept" (mVar 0)) mNil) (by simp -implicitDefEqProofs only [q1_cons, q1_nil, f3, bind_ok]) pl hl
  have pd := popD_ev (h := h) (l := l) (z := z) (t := t) (env := [some (.loc n), some (.str z), some (.loc h.length)]) (mo := mVar 2) (me := mVar 1) rfl rfl g
  have fz := frzD_ev (h := h) (l := dropS l z) (env := [some (.loc n), some (.str z), some (.loc h.length)]) (mo := mVar 2) rfl
  have kd := k.app [.dK (keyed (dropS l z))]
  have ke := k.app [.dead]
  have mt : mMeth 2 "turn_to" F_Bench_turn_to (mVar 0) (mCons (mFrzD (mVar 2)) mNil) [some (.loc n), some (.str z), some (.loc h.length)] (h ++ [.dK (keyed (dropS l z))]) = F_Bench_turn_to [.loc n, dcT (dropS l z)] (h ++ [.dead]) := by
    unfold mMeth
    simp only [q1_var, List.getElem?_cons_zero, bind_ok, insOf_at kd.b]
    rw [if_pos (no_fld (by decide) (by decide) (by decide)), q1_cons, fz, bind_ok, q1_nil, bind_ok, bind_ok]
  have tt := turn_to_eq (l2 := dropS l z) ke pl hE
  unfold b_Bench_drop
  simp -implicitDefEqProofs only [q2_seq, q2_exp, ml, bindE_ok, seq_nx, q2_set, cp, List.set, pd, mt, tt]
  exact ⟨rfl, rfl⟩
theorem drop_no (k : BnA h n m P l E) (kp : t.plain = true) (hs : Sized t) (hb : thereB l t = false) : F_Bench_drop [.loc n, t] h = .ex (.txt 20) h := by
  refine out_ex (fnK_wp rfl ?_)
  show (b_Bench_drop [some (.loc n), some t, none] h).wp _
  have ml := mLook k (env := [some (.loc n), some t, none]) (mo := mVar 0) (me := mVar 1) rfl rfl
  rw [look_no k kp hs hb] at ml
  unfold b_Bench_drop
  simp -implicitDefEqProofs only [q2_seq, q2_exp, ml, bindE_ex]
  simp -implicitDefEqProofs [fnK]
theorem eqN_ok (k : BnA h n m P l E) : fEqN (.loc m) (.lst []) h = some (.bl E.isEmpty) := by
  unfold fEqN
  have lo : lstOf h (.loc m) = some E := by simp only [lstOf, k.e]
  rw [lo]
  rfl
theorem undo_ok (k : BnA h n m P l (E ++ [dcT l2])) : F_Bench_undo_v2 [.loc n] h = .ok .non (bst h n m P l2 E) := by
  refine Out.wp_eq' (fnK_wp rfl ?_)
  show (b_Bench_undo_v2 [some (.loc n)] h).wp _
  have f := fld_e k (env := [some (.loc n)]) (mo := mVar 0) rfl
  have en := eqN_ok k
  have ne : (E ++ [dcT l2]).isEmpty = false := by cases E <;> rfl
  rw [ne] at en
  have lo : lstOf h (.loc m) = some (E ++ [dcT l2]) := by simp only [lstOf, k.e]
  have pp : outM (fPop (.loc m) [] h) = .ok (dcT l2) (h.set m (.lst E)) := by
    simp [fPop, cellL, k.e, outM]
  have k2 : BnA (h.set m (.lst E)) n m P l E := ⟨by rw [List.getElem?_set_ne k.ne.symm]; exact k.b, List.getElem?_set_self k.lm⟩
  have sf : Sm.sFld 2 "kept" (mMethL fPop (mFld 2 "earlier" (mVar 0)) mNil) (mVar 0) [some (.loc n)] h = .nx [some (.loc n)] (bst h n m P l2 E) := by
    unfold Sm.sFld
    rw [q1_meth, f, bind_ok, lo]
    simp only [q1_nil, bind_ok, pp, bindE_ok, q1_var, List.getElem?_cons_zero, insOf_at k2.b]
    show (if _ then SO.nx _ ((h.set m (.lst E)).set n (.ins 2 (putT sKe (dcT l2) [(sOw, P), (sKe, dcT l), (sEa, .loc m)]))) else _) = _
    rw [if_pos (by simp), put3]
    rfl
  unfold b_Bench_undo_v2
  simp -implicitDefEqProofs only [q2_seq, q2_if, q1_tst, q1_bin, f, q1_frz, q1_lst, q1_nil, bind_ok, List.length_nil, Nat.zero_le, if_true, en, ofO_some, asB_bl, bindE_ok, Bool.false_eq_true, if_false, q2_nil, seq_nx]
  rw [sf]
  exact ⟨rfl, rfl⟩
theorem undo_no (k : BnA h n m P l []) : F_Bench_undo_v2 [.loc n] h = .ex (.txt 21) h := by
  refine out_ex (fnK_wp rfl ?_)
  show (b_Bench_undo_v2 [some (.loc n)] h).wp _
  have f := fld_e k (env := [some (.loc n)]) (mo := mVar 0) rfl
  have en := eqN_ok k
  unfold b_Bench_undo_v2
  simp -implicitDefEqProofs only [q2_seq, q2_if, q1_tst, q1_bin, f, q1_frz, q1_lst, q1_nil, bind_ok, List.length_nil, Nat.zero_le, if_true, en, ofO_some, asB_bl, bindE_ok, List.isEmpty_nil]
  simp -implicitDefEqProofs [sRaise, fnK]
theorem powers_ok (k : BnA h n m P l E) (hs : z.length ≤ 100000) (hn : nmOk (.str z) = true) (g : getS l z = some (rowB L st)) (kq : L.pu = true) : F_Bench_powers [.loc n, .str z] h = .ok L h := by
  refine Out.wp_eq (fn_wp rfl ?_)
  show (b_Bench_powers [some (.loc n), some (.str z)] h).wp _
  have lk := look_ok k hs hn (by rw [g]; rfl)
  have ml := mLook k (env := [some (.loc n), some (.str z)]) (mo := mVar 0) (me := mVar 1) rfl rfl
  rw [lk] at ml
  have f1 := fld_k k (env := [some (.loc n), some (.str z)]) (mo := mVar 0) rfl
  have gt := getS_ok (h := h) g
  have ix : fIdx (rowB L st) (.int 0) h = some L := by
    unfold rowB
    rw [q3_idx]
    rfl
  unfold b_Bench_powers
  simp -implicitDefEqProofs only [q2_seq, q2_exp, ml, bindE_ok, seq_nx, q2_ret, q1_bin, f1, bind_ok, q1_var, q1_C, List.getElem?_cons_zero, List.getElem?_cons_succ, gt, ofO_some, ix, so_rt]
  exact ⟨si_self, .inl ⟨kq, rfl, by simp⟩⟩
theorem gone_ok (k : BnA h n m P l E) (hs : z.length ≤ 100000) (hn : nmOk (.str z) = true) (g : getS l z = some (rowB L st)) : F_Bench_gone [.loc n, .str z] h = .ok (tN st) h := by
  refine Out.wp_eq (fn_wp rfl ?_)
  show (b_Bench_gone [some (.loc n), some (.str z)] h).wp _
  have lk := look_ok k hs hn (by rw [g]; rfl)
  have ml := mLook k (env := [some (.loc n), some (.str z)]) (mo := mVar 0) (me := mVar 1) rfl rfl
  rw [lk] at ml
  have f1 := fld_k k (env := [some (.loc n), some (.str z)]) (mo := mVar 0) rfl
  have gt := getS_ok (h := h) g
  have ix : fIdx (rowB L st) (.int 1) h = some (tN st) := by
    unfold rowB
    rw [q3_idx]
    rfl
  unfold b_Bench_gone
  simp -implicitDefEqProofs only [q2_seq, q2_exp, ml, bindE_ok, seq_nx, q2_ret, q1_bin, f1, bind_ok, q1_var, q1_C, List.getElem?_cons_zero, List.getElem?_cons_succ, gt, ofO_some, ix, so_rt]
  exact ⟨si_self, .inl ⟨rfl, rfl, by simp⟩⟩
theorem pus_str (l : List Str) : pus (l.map T.str) = true := pus_map fun _ => rfl
theorem names_ok (k : BnA h n m P l E) (hl : l.length < 64) : F_Bench_names [.loc n] h = .ok (.loc h.length) (h ++ [.lst ((sortS (l.map (·.1))).map T.str)]) := by
  refine Out.wp_eq' (fnK_wp rfl ?_)
  show (b_Bench_names [some (.loc n)] h).wp _
  have f := fld_k k (env := [some (.loc n)]) (mo := mVar 0) rfl
  have so := sortS_ok (h := h) hl
  unfold b_Bench_names
  simp -implicitDefEqProofs only [q2_ret, q1_cell, q1_newA, q1_cons, q1_nil, f, bind_ok, so, ofO_some, pus_str, if_true, bindE_ok]
  exact ⟨rfl, rfl⟩
end
end Gd
namespace Gd
open PySem PySem.Spec PyProof.Rows L2 Sm
def wordC : Nat → T
  | 12 => .str "many"
  | 16 => .str "program"
  | 18 => .str "powers"
  | 20 => .str "name"
  | _ => .str "deed"
section
variable {h h' : Store} {n m i d st cnt : Nat} {P t x y p c v L L2 : T} {l l2 : List (Str × T)} {E E2 : List T} {z : Str} {w : Nat}
theorem kindW {a d : Addr} (hw : w ∈ [12, 16, 18, 20, 21]) : F_law_kind_of a d (.txt w) [exT a d (.txt w)] h = .ok (wordC w) h := by
  simp only [List.mem_cons, List.not_mem_nil, or_false] at hw
  rcases hw with rfl | rfl | rfl | rfl | rfl
  · exact kind1_eq (j := 11) rfl rfl rfl rfl
  · exact kind1_eq (j := 6) rfl rfl rfl rfl
  · exact kind1_eq (j := 5) rfl rfl rfl rfl
  · exact kind1_eq (j := 2) rfl rfl rfl rfl
  · exact kind1_eq (j := 1) rfl rfl rfl rfl
theorem eq_lit {a b : Str} {S : Store} (e : decide (a = b) = true) : fEq (.str a) (.str b) S = some (.bl true) := by
  rw [q3_eqS, e]
theorem ne_lit {a b : Str} {S : Store} (e : decide (a = b) = false) : fEq (.str a) (.str b) S = some (.bl false) := by
  rw [q3_eqS, e]
@[irreducible] noncomputable def bodyT : MS := (sSeq (sIf (mTst (mBin fEq (mVar 4) (mC (.str "put"))))
  (sRet (mMeth 2 "put" F_Bench_put (mVar 0) (mCons (mVar 2) (mCons (mVar 3) mNil))))
  sNil)
  (sSeq (sIf (mTst (mBin fEq (mVar 4) (mC (.str "run"))))
  (sRet (mMeth 2 "run" F_Bench_run (mVar 0) (mCons (mVar 2) (mCons (mVar 3) mNil))))
  sNil)
  (sSeq (sIf (mTst (mBin fEq (mVar 4) (mC (.str "drop"))))
  (sRet (mMeth 2 "drop" F_Bench_drop (mVar 0) (mCons (mVar 2) mNil)))
  sNil)
  (sRet (mMeth 2 "undo" F_Bench_undo_v2 (mVar 0) mNil)))))
theorem told_is : b_law_bench_told_v2 = (sSeq (sAsg (.tup [4, 2, 3]) (mVar 1)) (sTry 5 [12, 16, 18, 20, 21] bodyT fun ea ed ee => (sRet (mCall (F_law_kind_of ea ed ee) (mCons (mVar 5) mNil))))) := by
  unfold bodyT
  rfl
theorem told_rt (e : bodyT [some (.loc n), some (.tup [.str z, t, p]), some t, some p, some (.str z), none] h = .rt v h') : F_law_bench_told_v2 [.loc n, .tup [.str z, t, p]] h = .ok v h' := by
  refine Out.wp_eq' (fnK_wp rfl ?_)
  show (b_law_bench_told_v2 [some (.loc n), some (.tup [.str z, t, p]), none, none, none, none] h).wp _
  have bd : bindT (.tup [4, 2, 3]) (.tup [.str z, t, p]) [some (.loc n), some (.tup [.str z, t, p]), none, none, none, none] = some [some (.loc n), some (.tup [.str z, t, p]), some t, some p, some (.str z), none] := by
    rw [b_tup]
    rfl
  rw [told_is]
  simp -implicitDefEqProofs only [q2_seq, q2_asg, q1_var, List.getElem?_cons_zero, List.getElem?_cons_succ, bindE_ok, bd, seq_nx]
  unfold sTry
  rw [e]
  exact ⟨rfl, rfl⟩
theorem told_xx (hw : w ∈ [12, 16, 18, 20, 21]) (e : bodyT [some (.loc n), some (.tup [.str z, t, p]), some t, some p, some (.str z), none] h = .ex (.txt w) [some (.loc n), some (.tup [.str z, t, p]), some t, some p, some (.str z), none] h) : F_law_bench_told_v2 [.loc n, .tup [.str z, t, p]] h = .ok (wordC w) h := by
  refine Out.wp_eq' (fnK_wp rfl ?_)
  show (b_law_bench_told_v2 [some (.loc n), some (.tup [.str z, t, p]), none, none, none, none] h).wp _
  have bd : bindT (.tup [4, 2, 3]) (.tup [.str z, t, p]) [some (.loc n), some (.tup [.str z, t, p]), none, none, none, none] = some [some (.loc n), some (.tup [.str z, t, p]), some t, some p, some (.str z), none] := by
    rw [b_tup]
    rfl
  rw [told_is]
  simp -implicitDefEqProofs only [q2_seq, q2_asg, q1_var, List.getElem?_cons_zero, List.getElem?_cons_succ, bindE_ok, bd, seq_nx]
  have hd : ∀ x y : Addr, (sRet (mCall (F_law_kind_of x y (.txt w)) (mCons (mVar 5) mNil))) ([some (.loc n), some (.tup [.str z, t, p]), some t, some p, some (.str z), none].set 5 (some (exT x y (.txt w)))) h = .rt (wordC w) h := fun x y => by
    have kd := kindW (h := h) (a := x) (d := y) hw
    generalize exT x y (.txt w) = q at kd
    simp -implicitDefEqProofs only [q2_ret, q1_call, q1_cons, q1_nil, q1_var, List.set, List.getElem?_cons_zero, List.getElem?_cons_succ, bind_ok, kd, bindE_ok]
  have tr := sTry_ex (i := 5) (cs := [12, 16, 18, 20, 21]) (t := wordC w) (hd := fun ea ed ee => sRet (mCall (F_law_kind_of ea ed ee) (mCons (mVar 5) mNil))) e (by simp) ⟨hw, fun c f t z => by cases z⟩ hd
  rw [tr]
  exact ⟨rfl, rfl⟩
theorem told_put (k : BnA h n m P l E) (e : F_Bench_put [.loc n, t, p] h = .ok v h') : F_law_bench_told_v2 [.loc n, .tup [.str "put", t, p]] h = .ok v h' := by
  refine told_rt ?_
  have mm := bench_meth (F := F_Bench_put) (nm := "put") k (env := [some (.loc n), some (.tup [.str "put", t, p]), some t, some p, some (.str "put"), none]) (mo := mVar 0) (r := mCons (mVar 2) (mCons (mVar 3) mNil)) rfl (no_fld (by decide) (by decide) (by decide)) (as := [t, p]) (by simp -implicitDefEqProofs only [q1_cons, q1_nil, q1_var, List.getElem?_cons_zero, List.getElem?_cons_succ, bind_ok])
  have w0 : ∀ S, fEq (.str "put") (.str "put") S = some (.bl true) := fun S => eq_lit (by decide +kernel)
  unfold bodyT
  simp -implicitDefEqProofs only [q2_seq, q2_if, q1_tst, q1_bin, q1_var, q1_C, List.getElem?_cons_zero, List.getElem?_cons_succ, bind_ok, w0, ofO_some, asB_bl, bindE_ok, Bool.false_eq_true, if_false, if_true, q2_nil, seq_nx, q2_ret, mm, e, seq_rt]
theorem told_put_no (k : BnA h n m P l E) (hw : w ∈ [12, 16, 18, 20, 21]) (e : F_Bench_put [.loc n, t, p] h = .ex (.txt w) h) : F_law_bench_told_v2 [.loc n, .tup [.str "put", t, p]] h = .ok (wordC w) h := by
  refine told_xx hw ?_
  have mm := bench_meth (F := F_Bench_put) (nm := "put") k (env := [some (.loc n), some (.tup [.str "put", t, p]), some t, some p, some (.str "put"), none]) (mo := mVar 0) (r := mCons (mVar 2) (mCons (mVar 3) mNil)) rfl (no_fld (by decide) (by decide) (by decide)) (as := [t, p]) (by simp -implicitDefEqProofs only [q1_cons, q1_nil, q1_var, List.getElem?_cons_zero, List.getElem?_cons_succ, bind_ok])
  have w0 : ∀ S, fEq (.str "put") (.str "put") S = some (.bl true) := fun S => eq_lit (by decide +kernel)
  unfold bodyT
  simp -implicitDefEqProofs only [q2_seq, q2_if, q1_tst, q1_bin, q1_var, q1_C, List.getElem?_cons_zero, List.getElem?_cons_succ, bind_ok, w0, ofO_some, asB_bl, bindE_ok, Bool.false_eq_true, if_false, if_true, q2_nil, seq_nx, q2_ret, mm, e, bindE_ex, seq_ex]
theorem told_run (k : BnA h n m P l E) (e : F_Bench_run [.loc n, t, p] h = .ok v h') : F_law_bench_told_v2 [.loc n, .tup [.str "run", t, p]] h = .ok v h' := by
  refine told_rt ?_
  have mm := bench_meth (F := F_Bench_run) (nm := "run") k (env := [some (.loc n), some (.tup [.str "run", t, p]), some t, some p, some (.str "run"), none]) (mo := mVar 0) (r := mCons (mVar 2) (mCons (mVar 3) mNil)) rfl (no_fld (by decide) (by decide) (by decide)) (as := [t, p]) (by simp -implicitDefEqProofs only [q1_cons, q1_nil, q1_var, List.getElem?_cons_zero, List.getElem?_cons_succ, bind_ok])
  have w0 : ∀ S, fEq (.str "run") (.str "put") S = some (.bl false) := fun S => ne_lit (by decide +kernel)
  have w1 : ∀ S, fEq (.str "run") (.str "run") S = some (.bl true) := fun S => eq_lit (by decide +kernel)
  unfold bodyT
  simp -implicitDefEqProofs only [q2_seq, q2_if, q1_tst, q1_bin, q1_var, q1_C, List.getElem?_cons_zero, List.getElem?_cons_succ, bind_ok, w0, w1, ofO_some, asB_bl, bindE_ok, Bool.false_eq_true, if_false, if_true, q2_nil, seq_nx, q2_ret, mm, e, seq_rt]
theorem told_run_no (k : BnA h n m P l E) (hw : w ∈ [12, 16, 18, 20, 21]) (e : F_Bench_run [.loc n, t, p] h = .ex (.txt w) h) : F_law_bench_told_v2 [.loc n, .tup [.str "run", t, p]] h = .ok (wordC w) h := by
  refine told_xx hw ?_
  have mm := bench_meth (F := F_Bench_run) (nm := "run") k (env := [some (.loc n), some (.tup [.str "run", t, p]), some t, some p, some (.str "run"), none]) (mo := mVar 0) (r := mCons (mVar 2) (mCons (mVar 3) mNil)) rfl (no_fld (by decide) (by decide) (by decide)) (as := [t, p]) (by simp -implicitDefEqProofs only [q1_cons, q1_nil, q1_var, List.getElem?_cons_zero, List.getElem?_cons_succ, bind_ok])
  have w0 : ∀ S, fEq (.str "run") (.str "put") S = some (.bl false) := fun S => ne_lit (by decide +kernel)
  have w1 : ∀ S, fEq (.str "run") (.str "run") S = some (.bl true) := fun S => eq_lit (by decide +kernel)
  unfold bodyT
  simp -implicitDefEqProofs only [q2_seq, q2_if, q1_tst, q1_bin, q1_var, q1_C, List.getElem?_cons_zero, List.getElem?_cons_succ, bind_ok, w0, w1, ofO_some, asB_bl, bindE_ok, Bool.false_eq_true, if_false, if_true, q2_nil, seq_nx, q2_ret, mm, e, bindE_ex, seq_ex]
theorem told_drop (k : BnA h n m P l E) (e : F_Bench_drop [.loc n, t] h = .ok v h') : F_law_bench_told_v2 [.loc n, .tup [.str "drop", t, p]] h = .ok v h' := by
  refine told_rt ?_
  have mm := bench_meth (F := F_Bench_drop) (nm := "drop") k (env := [some (.loc n), some (.tup [.str "drop", t, p]), some t, some p, some (.str "drop"), none]) (mo := mVar 0) (r := mCons (mVar 2) mNil) rfl (no_fld (by decide) (by decide) (by decide)) (as := [t]) (by simp -implicitDefEqProofs only [q1_cons, q1_nil, q1_var, List.getElem?_cons_zero, List.getElem?_cons_succ, bind_ok])
  have w0 : ∀ S, fEq (.str "drop") (.str "put") S = some (.bl false) := fun S => ne_lit (by decide +kernel)
  have w1 : ∀ S, fEq (.str "drop") (.str "run") S = some (.bl false) := fun S => ne_lit (by decide +kernel)
  have w2 : ∀ S, fEq (.str "drop") (.str "drop") S = some (.bl true) := fun S => eq_lit (by decide +kernel)
  unfold bodyT
  simp -implicitDefEqProofs only [q2_seq, q2_if, q1_tst, q1_bin, q1_var, q1_C, List.getElem?_cons_zero, List.getElem?_cons_succ, bind_ok, w0, w1, w2, ofO_some, asB_bl, bindE_ok, Bool.false_eq_true, if_false, if_true, q2_nil, seq_nx, q2_ret, mm, e, seq_rt]
theorem told_drop_no (k : BnA h n m P l E) (hw : w ∈ [12, 16, 18, 20, 21]) (e : F_Bench_drop [.loc n, t] h = .ex (.txt w) h) : F_law_bench_told_v2 [.loc n, .tup [.str "drop", t, p]] h = .ok (wordC w) h := by
  refine told_xx hw ?_
  have mm := bench_meth (F := F_Bench_drop) (nm := "drop") k (env := [some (.loc n), some (.tup [.str "drop", t, p]), some t, some p, some (.str "drop"), none]) (mo := mVar 0) (r := mCons (mVar 2) mNil) rfl (no_fld (by decide) (by decide) (by decide)) (as := [t]) (by simp -implicitDefEqProofs only [q1_cons, q1_nil, q1_var, List.getElem?_cons_zero, List.getElem?_cons_succ, bind_ok])
  have w0 : ∀ S, fEq (.str "drop") (.str "put") S = some (.bl false) := fun S => ne_lit (by decide +kernel)
  have w1 : ∀ S, fEq (.str "drop") (.str "run") S = some (.bl false) := fun S => ne_lit (by decide +kernel)
  have w2 : ∀ S, fEq (.str "drop") (.str "drop") S = some (.bl true) := fun S => eq_lit (by decide +kernel)
  unfold bodyT
  simp -implicitDefEqProofs only [q2_seq, q2_if, q1_tst, q1_bin, q1_var, q1_C, List.getElem?_cons_zero, List.getElem?_cons_succ, bind_ok, w0, w1, w2, ofO_some, asB_bl, bindE_ok, Bool.false_eq_true, if_false, if_true, q2_nil, seq_nx, q2_ret, mm, e, bindE_ex, seq_ex]
theorem told_undo (k : BnA h n m P l E) (e : F_Bench_undo_v2 [.loc n] h = .ok v h') : F_law_bench_told_v2 [.loc n, .tup [.str "undo", t, p]] h = .ok v h' := by
  refine told_rt ?_
  have mm := bench_meth (F := F_Bench_undo_v2) (nm := "undo") k (env := [some (.loc n), some (.tup [.str "undo", t, p]), some t, some p, some (.str "undo"), none]) (mo := mVar 0) (r := mNil) rfl (no_fld (by decide) (by decide) (by decide)) (as := []) (by simp -implicitDefEqProofs only [q1_cons, q1_nil, q1_var, List.getElem?_cons_zero, List.getElem?_cons_succ, bind_ok])
  have w0 : ∀ S, fEq (.str "undo") (.str "put") S = some (.bl false) := fun S => ne_lit (by decide +kernel)
  have w1 : ∀ S, fEq (.str "undo") (.str "run") S = some (.bl false) := fun S => ne_lit (by decide +kernel)
  have w2 : ∀ S, fEq (.str "undo") (.str "drop") S = some (.bl false) := fun S => ne_lit (by decide +kernel)
  unfold bodyT
  simp -implicitDefEqProofs only [q2_seq, q2_if, q1_tst, q1_bin, q1_var, q1_C, List.getElem?_cons_zero, List.getElem?_cons_succ, bind_ok, w0, w1, w2, ofO_some, asB_bl, bindE_ok, Bool.false_eq_true, if_false, if_true, q2_nil, seq_nx, q2_ret, mm, e, seq_rt]
theorem told_undo_no (k : BnA h n m P l E) (hw : w ∈ [12, 16, 18, 20, 21]) (e : F_Bench_undo_v2 [.loc n] h = .ex (.txt w) h) : F_law_bench_told_v2 [.loc n, .tup [.str "undo", t, p]] h = .ok (wordC w) h := by
  refine told_xx hw ?_
  have mm := bench_meth (F := F_Bench_undo_v2) (nm := "undo") k (env := [some (.loc n), some (.tup [.str "undo", t, p]), some t, some p, some (.str "undo"), none]) (mo := mVar 0) (r := mNil) rfl (no_fld (by decide) (by decide) (by decide)) (as := []) (by simp -implicitDefEqProofs only [q1_cons, q1_nil, q1_var, List.getElem?_cons_zero, List.getElem?_cons_succ, bind_ok])
  have w0 : ∀ S, fEq (.str "undo") (.str "put") S = some (.bl false) := fun S => ne_lit (by decide +kernel)
  have w1 : ∀ S, fEq (.str "undo") (.str "run") S = some (.bl false) := fun S => ne_lit (by decide +kernel)
  have w2 : ∀ S, fEq (.str "undo") (.str "drop") S = some (.bl false) := fun S => ne_lit (by decide +kernel)
  unfold bodyT
  simp -implicitDefEqProofs only [q2_seq, q2_if, q1_tst, q1_bin, q1_var, q1_C, List.getElem?_cons_zero, List.getElem?_cons_succ, bind_ok, w0, w1, w2, ofO_some, asB_bl, bindE_ok, Bool.false_eq_true, if_false, if_true, q2_nil, seq_nx, q2_ret, mm, e, bindE_ex, seq_ex]
structure RowOk (M : Nat) (q : Str × T) : Prop where
  nm : nmOk (.str q.1) = true
  row : ∃ (es : List Nat) (st : Nat), q.2 = rowB (iT (nI es)) st ∧ es.length = 10 ∧ ∀ e ∈ es, e ≤ M
theorem nm_len (k : nmOk (.str z) = true) : z.length ≤ 8 := by
  have k : nameW (TL.tl z) = true := k
  unfold nameW at k
  simp only [Bool.and_eq_true, decide_eq_true_eq] at k
  rw [← SX.S_tl z, SX.S_len]
  exact k.1.2
theorem getS_mem : ∀ {l : List (Str × T)}, getS l z = some t → (z, t) ∈ l
  | [], e => by cases e
  | (k, u) :: r, e => by
    unfold getS at e
    by_cases c : k = z
    · rw [if_pos c] at e
      cases e
      rw [c]
      exact List.mem_cons_self ..
    · rw [if_neg c] at e
      exact List.mem_cons_of_mem _ (getS_mem e)
theorem getS_of : ∀ {l : List (Str × T)}, z ∈ l.map (·.1) → ∃ t, getS l z = some t
  | [], e => by cases e
  | (k, u) :: r, e => by
    unfold getS
    by_cases c : k = z
    · exact ⟨u, by rw [if_pos c]⟩
    · rw [if_neg c]
      rw [List.map_cons] at e
      rcases List.mem_cons.mp e with q | q
      · exact absurd q.symm c
      · exact getS_of q
theorem puS_rows {M : Nat} : ∀ {l : List (Str × T)}, (∀ q ∈ l, RowOk M q) → puS l = true
  | [], _ => rfl
  | (k, u) :: r, a => by
    obtain ⟨es, st, e, _, _⟩ := (a (k, u) (List.mem_cons_self ..)).row
    have e : u = rowB (iT (nI es)) st := e
    show (u.pu && puS r) = true
    rw [puS_rows fun q hq => a q (List.mem_cons_of_mem _ hq), e, rowB, pu_tup]
    show (((iT (nI es)).pu && true) && true) = true
    rw [pu_iT]
    rfl
theorem same_lc {k m : Nat} {xs : List T} (em : h[m]? = some (.lst xs)) (hl : xs.length ≤ 10000) (hx : ∀ x ∈ xs, sameOk k x) : F_law_same (k + 1) [.loc m, .lst xs] h = .ok (.bl true) h := by
  refine Out.wp_eq' (fn_wp rfl ?_)
  show (b_law_same (F_law_same k) [some (.loc m), some (.lst xs), none, none] h).wp _
  have g : gsOk h ([(m, xs)]) := fun g hg => by
    rw [List.mem_singleton.mp hg]
    exact em
  have e := compLoop_pure (gs := [(m, xs)]) (tg := .tup [2, 3]) (tt := mYes) (me := mCall (F_law_same k) (mCons (mVar 2) (mCons (mVar 3) mNil))) (env := [some (.loc m), some (.lst xs), none, none]) (h := h) (xs.map fun a => pairT a a) (fun _ => true) (fun _ => .bl true) g (by simp; omega) fun p hp => by
    obtain ⟨x, hx2, rfl⟩ := List.mem_map.mp hp
    exact ⟨_, b_tup, rfl, fun _ => by simp [setT, same_eq (hx x hx2)]⟩
  have i2 : ∀ ty, fIsi ty (.loc m) h = some (.bl (isiB "list" ty)) := isi_locL em
  have l2 : fLen [.loc m] h = some (.int xs.length) := q3_lenC em
  have z : mZip (mCons (mVar 0) (mCons (mVar 1) mNil)) [some (.loc m), some (.lst xs), none, none] h = .ok ⟨xs.map fun a => pairT a a, [(m, xs)]⟩ h := by
    unfold mZip
    simp [seqK, gdOf, em, List.zipWith_self]
  simp [b_law_same, fnP, truF, mComp, i2, l2, z, e, isiB]
  rw [all_map]
  simp
theorem so_iT {k : Nat} {es : List Nat} (hl : es.length = 10) : sameOk (k + 2) (iT (nI es)) := by
  refine ⟨by simp [nI, hl], fun y hy => ?_⟩
  obtain ⟨z, _, rfl⟩ := List.mem_map.mp hy
  trivial
theorem right_eq {M : Nat} (k : BnA h n m P l E) (a : ∀ q ∈ l, RowOk M q) (hl : l.length < 64) : F_law_bench_right [.loc n, dcT l] h = .ok (.bl true) h := by
  refine Out.wp_eq (fn_wp rfl ?_)
  show (b_law_bench_right [some (.loc n), some (dcT l), none, none] h).wp _
  have so : ∀ S, fSortS [dcT l] S = some ((sortS (l.map (·.1))).map T.str) := fun S => sortS_ok hl
  have n1 := names_ok k hl
  have m1 := bench_meth (F := F_Bench_names) (nm := "names") k (env := [some (.loc n), some (dcT l), none, none]) (mo := mVar 0) (r := mNil) rfl (no_fld (by decide) (by decide) (by decide)) (as := []) rfl
  rw [n1] at m1
  have ln : (sortS (l.map (·.1))).length = l.length := by rw [sortS_perm.length_eq, List.length_map]
  generalize sortS (l.map (·.1)) = ss at so m1 ln
  have ok1 : ∀ x ∈ ss.map T.str, sameOk 7 x := fun x hx => by
    obtain ⟨y, _, rfl⟩ := List.mem_map.mp hx
    trivial
  have s1 : F_law_same 8 [.loc h.length, .lst (ss.map T.str)] (h ++ [.lst (ss.map T.str)]) = .ok (.bl true) (h ++ [.lst (ss.map T.str)]) := same_lc (by simp) (by rw [List.length_map]; omega) ok1
  have lo : lstOf (h ++ [.lst (ss.map T.str)]) (.loc h.length) = some (ss.map T.str) := by simp only [lstOf, at_end rfl]
  have ap := e_append (h := h) (m := h.length) (xs := ss.map T.str) (y := .str "") rfl (by rw [List.length_map]; omega) rfl
  have k2 := k.app [.lst (ss.map T.str ++ [.str ""])]
  unfold b_law_bench_right
  simp -implicitDefEqProofs only [q2_seq, q2_set, m1, bindE_ok, seq_nx, List.set, q2_if, q1_notT, q1_tru, q1_call, q1_cons, q1_nil, q1_var, List.getElem?_cons_zero, List.getElem?_cons_succ, bind_ok, q1_frz, q1_newA, so, ofO_some, s1, truF_bl, Bool.not_true, Bool.false_eq_true, if_false, q2_nil, q2_exp, q1_meth, lo, q1_C, ap, so_seq]
  have src : mKeysD (mVar 1) [some (.loc n), some (dcT l), some (.loc h.length), none] (h ++ [.lst (ss.map T.str ++ [.str ""])]) = .ok ⟨l.map fun p => .str p.1, []⟩ (h ++ [.lst (ss.map T.str ++ [.str ""])]) := by
    unfold mKeysD
    simp only [q1_var, List.getElem?_cons_succ, List.getElem?_cons_zero, bind_ok, kvT_dcT]
  rw [sFor_of src]
  refine forLoop_wp _ (fun i env h' => h' = h ++ [.lst (ss.map T.str ++ [.str ""])] ∧ env = [some (.loc n), some (dcT l), none, none]) ?_ ?_ ⟨rfl, by simp⟩
  · rintro i y env h' hy ⟨rfl, rfl⟩
    obtain ⟨q, hq, rfl, hi⟩ := getm hy
    have qm := List.mem_of_getElem? hq
    obtain ⟨u, hu⟩ := getS_of (l := l) (List.mem_map.mpr ⟨q, qm, rfl⟩)
    have ro := a _ (getS_mem hu)
    obtain ⟨es, st, eu, l10, _⟩ := ro.row
    have eu : u = rowB (iT (nI es)) st := eu
    subst eu
    have nl := nm_len ro.nm
    have pw := powers_ok k2 (by omega) ro.nm hu pu_iT
    have go := gone_ok k2 (by omega) ro.nm hu
    have mp := bench_meth (F := F_Bench_powers) (nm := "powers") k2 (env := [some (.loc n), some (dcT l), none, some (.str q.1)]) (mo := mVar 0) (r := mCons (mVar 3) mNil) rfl (no_fld (by decide) (by decide) (by decide)) (as := [.str q.1]) rfl
    have mg := bench_meth (F := F_Bench_gone) (nm := "gone") k2 (env := [some (.loc n), some (dcT l), none, some (.str q.1)]) (mo := mVar 0) (r := mCons (mVar 3) mNil) rfl (no_fld (by decide) (by decide) (by decide)) (as := [.str q.1]) rfl
    have pw : F_Bench_powers [.loc n, .str q.1] (h ++ [.lst (ss.map T.str ++ [.str ""])]) = .ok (iT (nI es)) (h ++ [.lst (ss.map T.str ++ [.str ""])]) := pw
    have go : F_Bench_gone [.loc n, .str q.1] (h ++ [.lst (ss.map T.str ++ [.str ""])]) = .ok (tN st) (h ++ [.lst (ss.map T.str ++ [.str ""])]) := go
    rw [pw] at mp
    rw [go] at mg
    have gt : ∀ S, fGetS (dcT l) (.str q.1) S = some (rowB (iT (nI es)) st) := fun S => getS_ok hu
    have i0 : ∀ S, fIdx (rowB (iT (nI es)) st) (.int 0) S = some (iT (nI es)) := fun S => by
      unfold rowB
      rw [q3_idx]
      rfl
    have i1 : ∀ S, fIdx (rowB (iT (nI es)) st) (.int 1) S = some (tN st) := fun S => by
      unfold rowB
      rw [q3_idx]
      rfl
    have s2 : ∀ S, F_law_same 8 [iT (nI es), iT (nI es)] S = .ok (.bl true) S := fun S => same_eq (so_iT (k := 6) l10)
    have s3 : ∀ S, F_law_same 8 [tN st, tN st] S = .ok (.bl true) S := fun S => same_eq (n := 8) (t := tN st) trivial
    refine ⟨by simp, _, b_one, ?_⟩
    simp -implicitDefEqProofs only [List.set, q2_if, q1_orT, q1_notT, q1_tru, q1_call, q1_cons, mp, bind_ok, q1_bin, q1_var, q1_C, q1_nil, List.getElem?_cons_zero, List.getElem?_cons_succ, gt, ofO_some, i0, s2, truF_bl, Bool.not_true, Bool.false_eq_true, if_false, mg, i1, s3, bindE_ok, q2_nil]
    exact ⟨rfl, rfl⟩
  · rintro env h' ⟨rfl, rfl⟩
    refine ⟨by simp, ?_⟩
    have n2 := names_ok k2 hl
    have m2 := bench_meth (F := F_Bench_names) (nm := "names") k2 (env := [some (.loc n), some (dcT l), none, none]) (mo := mVar 0) (r := mNil) rfl (no_fld (by decide) (by decide) (by decide)) (as := []) rfl
    rw [n2] at m2
    have so2 : ∀ S, fSortS [dcT l] S = some ((sortS (l.map (·.1))).map T.str) := fun S => sortS_ok hl
    have l2 : (sortS (l.map (·.1))).length = l.length := by rw [sortS_perm.length_eq, List.length_map]
    generalize sortS (l.map (·.1)) = rr at so2 m2 l2
    have s4 : F_law_same 8 [.loc (h ++ [Cell.lst (ss.map T.str ++ [.str ""])]).length, .lst (rr.map T.str)] ((h ++ [.lst (ss.map T.str ++ [.str ""])]) ++ [.lst (rr.map T.str)]) = .ok (.bl true) ((h ++ [.lst (ss.map T.str ++ [.str ""])]) ++ [.lst (rr.map T.str)]) := same_lc (by simp) (by rw [List.length_map]; omega) fun x hx => by
      obtain ⟨y, _, rfl⟩ := List.mem_map.mp hx
      trivial
    generalize hH : h ++ [Cell.lst (ss.map T.str ++ [.str ""])] = H1 at m2 s4
    have ht : (H1 ++ [Cell.lst (rr.map T.str)]).take h.length = h := by rw [← hH]; simp
    simp -implicitDefEqProofs only [q2_ret, q1_call, q1_cons, m2, bind_ok, q1_frz, q1_newA, q1_nil, q1_var, List.getElem?_cons_zero, List.getElem?_cons_succ, so2, ofO_some, s4, bindE_ok, so_rt]
    exact ⟨by rw [← hH, List.append_assoc]; exact si_more, .inl ⟨rfl, rfl, ht⟩⟩
end
end Gd
namespace Gd
open PySem PySem.Spec PyProof.Rows L2 Sm
@[irreducible] noncomputable def putD : MS := (sSeq (sIf (mNotT (mTru (mCall F_law_line_right (mCons (mVar 4) mNil))))
  (sRet (mFrz (mLst (mCons (mC (.str "powers")) (mCons (mVar 1) mNil)))))
  sNil)
  (sSeq (sIf (mAndT (mTst (mBin fNotInS (mVar 3) (mVar 1))) (mTst (mBin fEq (mCallF fLenS (mCons (mVar 1) mNil)) (mC (.int 12)))))
  (sRet (mFrz (mLst (mCons (mC (.str "many")) (mCons (mVar 1) mNil)))))
  sNil)
  (sSeq (sPutD (mTup (mCons (mVar 4) (mCons (mC (.int 0)) mNil))) (mVar 7) (mVar 3))
  (sRet (mFrz (mLst (mCons (mC .non) (mCons (mFrzD (mVar 7)) mNil))))))))
@[irreducible] noncomputable def runD : MS := (sSeq (sIf (mTst (mBin fEq (mVar 5) (mC (.str "run"))))
  (sSeq (sAsg (.tup [8, 10]) (mBin fGetS (mVar 1) (mVar 3)))
  (sSeq (sAsg (.tup [9, 11]) (mCall F_law_gone_through (mCons (mVar 0) (mCons (mVar 8) (mCons (mVar 4) mNil)))))
  (sSeq (sPutD (mTup (mCons (mBin fIdx (mVar 9) (mUn fNeg (mC (.int 1)))) (mCons (mBin fAdd (mVar 10) (mCallF fLen (mCons (mVar 11) mNil))) mNil))) (mVar 7) (mVar 3))
  (sRet (mFrz (mLst (mCons (mCallF fLen (mCons (mVar 11) mNil)) (mCons (mFrzD (mVar 7)) mNil))))))))
  sNil)
  putD)
@[irreducible] noncomputable def dropD : MS := (sSeq (sIf (mTst (mBin fEq (mVar 5) (mC (.str "drop"))))
  (sSeq (sExp (mPopD (mVar 7) (mVar 3)))
  (sRet (mFrz (mLst (mCons (mC .non) (mCons (mFrzD (mVar 7)) mNil))))))
  sNil)
  runD)
@[irreducible] noncomputable def restD : MS := (sSeq (sIf (mOrT (mNotT (mTru (mVar 6))) (mAndT (mTst (mBin fNe (mVar 5) (mC (.str "put")))) (mTst (mBin fNotInS (mVar 3) (mVar 1)))))
  (sRet (mFrz (mLst (mCons (mC (.str "name")) (mCons (mVar 1) mNil)))))
  sNil)
  (sSeq (sSet 7 (mCopyD (mCons (mVar 1) mNil)))
  dropD))
theorem due9_is : b_law_bench_due = (sSeq (sAsg (.tup [5, 3, 4]) (mVar 2))
  (sSeq (sSet 6 (mAndV (mUn (fIsi "str") (mVar 3)) (mChain fLe fLe (mC (.int 1)) (mCallF fLen (mCons (mVar 3) mNil)) (mC (.int 8)))))
  (sSeq (sIf (mTru (mVar 6))
  (sSet 6 (mCallF fAll (mCons (mFrz (mComp (mSeq (mVar 3)) [12] (.one 12) mYes (mChain fLeS fLeS (mC (.str "a")) (mVar 12) (mC (.str "z"))))) mNil)))
  sNil)
  restD))) := by
  unfold restD dropD runD putD
  rfl
section
variable {h h' : Store} {n m i d st cnt : Nat} {P t x y p c v L L2 tab dd : T} {l l2 : List (Str × T)} {z way : Str} {w : Nat} {fr : List Fr} {xs : List Int}
theorem head_eq (kp : t.plain = true) (sz : Sized t) : (sSeq (sSet 6 (mAndV (mUn (fIsi "str") (mVar 3)) (mChain fLe fLe (mC (.int 1)) (mCallF fLen (mCons (mVar 3) mNil)) (mC (.int 8)))))
  (sSeq (sIf (mTru (mVar 6))
  (sSet 6 (mCallF fAll (mCons (mFrz (mComp (mSeq (mVar 3)) [12] (.one 12) mYes (mChain fLeS fLeS (mC (.str "a")) (mVar 12) (mC (.str "z"))))) mNil)))
  sNil)
  restD)) [some tab, some x, some dd, some t, some p, some y, none, none, none, none, none, none, none] h = restD [some tab, some x, some dd, some t, some p, some y, some (.bl (nmOk t)), none, none, none, none, none, none] h := by
  rcases plain_str_isi (h := h) kp with ⟨z, rfl⟩ | i
  · have hl := sz z rfl
    obtain ⟨w, rfl⟩ : ∃ w, z = SX.S w := ⟨TL.tl z, (SX.S_tl z).symm⟩
    rw [SX.S_len] at hl
    have isi : fIsi "str" (.str (SX.S w)) h = some (.bl true) := rfl
    have ln := lenS (h := h) hl
    have l1 : fLe (.int 1) (.int (w.length : Int)) h = some (.bl (decide (1 ≤ w.length))) := by
      rw [q3_le]
      congr 2
      rw [decide_eq_decide]
      omega
    have l2 : fLe (.int (w.length : Int)) (.int 8) h = some (.bl (decide (w.length ≤ 8))) := by
      rw [q3_le]
      congr 2
      rw [decide_eq_decide]
      omega
    have nk : nmOk (.str (SX.S w)) = nameW w := by
      show nameW (TL.tl (SX.S w)) = _
      congr 1
    rw [nk]
    unfold nameW
    by_cases c1 : 1 ≤ w.length
    · rw [decide_eq_true c1] at l1 ⊢
      by_cases c2 : w.length ≤ 8
      · rw [decide_eq_true c2] at l2 ⊢
        have c : mComp (mSeq (mVar 3)) [12] (.one 12) mYes (mChain fLeS fLeS (mC (.str "a")) (mVar 12) (mC (.str "z"))) [some tab, some x, some dd, some (.str (SX.S w)), some p, some y, some (.bl true), none, none, none, none, none, none] h = .ok (w.map fun c => T.bl (low c)) h := by
          refine comp_map (g := fun c => T.str ⟨#[c]⟩) (l := w) (fun c => .bl (low c)) ?_ (by omega) fun c hc => ⟨_, b_one, ?_⟩
          · simp only [q1_seqS, q1_var, List.getElem?_cons_zero, List.getElem?_cons_succ, bind_ok]
            rfl
          · have f1 : fLeS (.str (SX.S [97])) (.str ⟨#[c]⟩) h = some (.bl (decide (97 ≤ c))) := by
              show some (T.bl (!decide ([c] < [97]))) = _
              congr 2
              rw [Bool.eq_iff_iff, Bool.not_eq_true', decide_eq_false_iff_not, decide_eq_true_eq]
              simp only [List.cons_lt_cons_iff, List.lt_irrefl, and_false, or_false]
              omega
            have f2 : fLeS (.str ⟨#[c]⟩) (.str (SX.S [122])) h = some (.bl (decide (c ≤ 122))) := by
              show some (T.bl (!decide ([122] < [c]))) = _
              congr 2
              rw [Bool.eq_iff_iff, Bool.not_eq_true', decide_eq_false_iff_not, decide_eq_true_eq]
              simp only [List.cons_lt_cons_iff, List.lt_irrefl, and_false, or_false]
              omega
            rw [s_a, s_z]
            simp -implicitDefEqProofs only [List.set, drop_cons, drop_nil, q1_chain, q1_var, q1_C, List.getElem?_cons_zero, List.getElem?_cons_succ, bind_ok, f1, ofO_some, asB_bl]
            unfold low
            cases decide (97 ≤ c) with
            | true => simp -implicitDefEqProofs only [if_true, f2, bind_ok, ofO_some, Bool.true_and]
            | false => simp -implicitDefEqProofs only [Bool.false_eq_true, if_false, Bool.false_and]
        have al := all_map (h := h) low w
        simp -implicitDefEqProofs only [q2_seq, q2_set, q1_andV, q1_un, q1_var, List.getElem?_cons_zero, List.getElem?_cons_succ, bind_ok, isi, ofO_some, truF_bl, if_true, q1_chain, q1_C, q1_callF, q1_cons, q1_nil, ln, l1, asB_bl, l2, bindE_ok, List.set, seq_nx, q2_if, q1_tru, q1_frz, c, al, Bool.true_and]
      · rw [decide_eq_false c2] at l2 ⊢
        simp -implicitDefEqProofs only [q2_seq, q2_set, q1_andV, q1_un, q1_var, List.getElem?_cons_zero, List.getElem?_cons_succ, bind_ok, isi, ofO_some, truF_bl, if_true, q1_chain, q1_C, q1_callF, q1_cons, q1_nil, ln, l1, asB_bl, l2, bindE_ok, List.set, seq_nx, q2_if, q1_tru, Bool.true_and, Bool.false_and, Bool.and_false, Bool.false_eq_true, if_false, q2_nil]
    · rw [decide_eq_false c1] at l1 ⊢
      simp -implicitDefEqProofs only [q2_seq, q2_set, q1_andV, q1_un, q1_var, List.getElem?_cons_zero, List.getElem?_cons_succ, bind_ok, isi, ofO_some, truF_bl, if_true, q1_chain, q1_C, q1_callF, q1_cons, q1_nil, ln, l1, asB_bl, bindE_ok, List.set, seq_nx, q2_if, q1_tru, Bool.true_and, Bool.false_and, Bool.and_false, Bool.false_eq_true, if_false, q2_nil]
  · rw [nmOk_no i]
    simp -implicitDefEqProofs only [q2_seq, q2_set, q1_andV, q1_un, q1_var, List.getElem?_cons_zero, List.getElem?_cons_succ, bind_ok, i, ofO_some, truF_bl, asB_bl, Bool.false_eq_true, if_false, bindE_ok, List.set, seq_nx, q2_if, q1_tru, q2_nil]
theorem due_of (kp : t.plain = true) (sz : Sized t) (pv : v.pu = true) {s : Store} (e : restD [some tab, some (dcT l), some (.tup [.str way, t, p]), some t, some p, some (.str way), some (.bl (nmOk t)), none, none, none, none, none, none] h = .rt v (h ++ s)) : F_law_bench_due [tab, dcT l, .tup [.str way, t, p]] h = .ok v h := by
  refine Out.wp_eq (fn_wp rfl ?_)
  show (b_law_bench_due [some tab, some (dcT l), some (.tup [.str way, t, p]), none, none, none, none, none, none, none, none, none, none] h).wp _
  have bd : bindT (.tup [5, 3, 4]) (.tup [.str way, t, p]) [some tab, some (dcT l), some (.tup [.str way, t, p]), none, none, none, none, none, none, none, none, none, none] = some [some tab, some (dcT l), some (.tup [.str way, t, p]), some t, some p, some (.str way), none, none, none, none, none, none, none] := by
    rw [b_tup]
    rfl
  rw [due9_is, q2_seq, q2_asg]
  simp -implicitDefEqProofs only [q1_var, List.getElem?_cons_zero, List.getElem?_cons_succ, bindE_ok, bd, seq_nx]
  rw [head_eq kp sz, e]
  exact ⟨si_more, .inl ⟨pv, rfl, by simp⟩⟩
theorem pu_two {a : T} (pa : a.pu = true) (pl : puS l = true) : (T.lst [a, dcT l]).pu = true := by
  rw [pu_lst]
  show (a.pu && ((dcT l).pu && true)) = true
  rw [pa, pu_dcT, pl]
  rfl
theorem cond_name {env : Env'} (e6 : env[6]? = some (some (.bl (nmOk t)))) (e5 : env[5]? = some (some (.str way))) (e3 : env[3]? = some (some t)) (e1 : env[1]? = some (some (dcT l))) :
    mOrT (mNotT (mTru (mVar 6))) (mAndT (mTst (mBin fNe (mVar 5) (mC (.str "put")))) (mTst (mBin fNotInS (mVar 3) (mVar 1)))) env h = .ok (!(if way = Str.ofString "put" then nmOk t else thereB l t)) h := by
  have ne : fNe (.str way) (.str "put") h = some (.bl (!decide (way = Str.ofString "put"))) := rfl
  simp -implicitDefEqProofs only [q1_orT, q1_notT, q1_tru, q1_var, e6, bind_ok, truF_bl, ofO_some]
  cases hn : nmOk t with
  | false =>
    have : thereB l t = false := by
      cases t with
      | str z =>
        show (nmOk (.str z) && _) = false
        rw [hn]
        rfl
      | _ => rfl
    rw [this]
    simp -implicitDefEqProofs only [Bool.not_false, if_true, ite_self]
  | true =>
    cases t with
    | str z =>
      have ni := notInS (h := h) (l := l) z
      have th : thereB l (.str z) = (getS l z).isSome := by
        show (nmOk (.str z) && _) = _
        rw [hn, Bool.true_and]
      simp -implicitDefEqProofs only [Bool.not_true, Bool.false_eq_true, if_false, q1_andT, q1_tst, q1_bin, q1_var, e5, q1_C, bind_ok, ne, ofO_some, asB_bl]
      by_cases c : way = Str.ofString "put"
      · rw [decide_eq_true c, if_pos c]
        simp -implicitDefEqProofs only [Bool.not_true, Bool.false_eq_true, if_false]
      · rw [decide_eq_false c, if_neg c, th]
        simp -implicitDefEqProofs only [Bool.not_false, if_true, q1_bin, q1_var, e3, e1, bind_ok, ni, ofO_some, asB_bl]
    | _ => cases hn
theorem due_name (kp : t.plain = true) (sz : Sized t) (pl : puS l = true) (b : (if way = Str.ofString "put" then nmOk t else thereB l t) = false) : F_law_bench_due [tab, dcT l, .tup [.str way, t, p]] h = .ok (.lst [.str "name", dcT l]) h := by
  refine due_of (s := []) kp sz (pu_two rfl pl) ?_
  have cn := cond_name (h := h) (t := t) (l := l) (way := way) (env := [some tab, some (dcT l), some (.tup [.str way, t, p]), some t, some p, some (.str way), some (.bl (nmOk t)), none, none, none, none, none, none]) rfl rfl rfl rfl
  rw [b] at cn
  have i2 : ∀ {α : Type} (u v : α), (if 0 + 1 + 1 ≤ 10000 then u else v) = u := fun u v => if_pos (by decide)
  unfold restD
  rw [q2_seq, q2_if, cn]
  simp -implicitDefEqProofs only [Bool.not_false, if_true, bindE_ok, q2_ret, q1_frz, q1_lst, q1_cons, q1_nil, q1_C, q1_var, List.getElem?_cons_zero, List.getElem?_cons_succ, bind_ok, List.length_cons, List.length_nil, i2, seq_rt, List.append_nil]
theorem rest_on (b : (if way = Str.ofString "put" then nmOk t else thereB l t) = true) (pl : puS l = true) (hl : l.length ≤ 1000) : restD [some tab, some (dcT l), some dd, some t, some p, some (.str way), some (.bl (nmOk t)), none, none, none, none, none, none] h =
    dropD [some tab, some (dcT l), some dd, some t, some p, some (.str way), some (.bl (nmOk t)), some (.loc h.length), none, none, none, none, none] (h ++ [.dK (keyed l)]) := by
  have cn := cond_name (h := h) (t := t) (l := l) (way := way) (env := [some tab, some (dcT l), some dd, some t, some p, some (.str way), some (.bl (nmOk t)), none, none, none, none, none, none]) rfl rfl rfl rfl
  rw [b] at cn
  have cp := copyD_ev (h := h) (l := l) (env := [some tab, some (dcT l), some dd, some t, some p, some (.str way), some (.bl (nmOk t)), none, none, none, none, none, none]) (r := mCons (mVar 1) mNil) (by simp -implicitDefEqProofs only [q1_cons, q1_nil, q1_var, List.getElem?_cons_zero, List.getElem?_cons_succ, bind_ok]) pl hl
  unfold restD
  rw [q2_seq, q2_if, cn]
  simp -implicitDefEqProofs only [Bool.not_true, Bool.false_eq_true, if_false, bindE_ok, q2_nil, seq_nx, q2_seq, q2_set, cp, List.set]
theorem due_drop (hn : nmOk (.str z) = true) (g : getS l z = some c) (pl : puS l = true) (hl : l.length ≤ 1000) : F_law_bench_due [tab, dcT l, .tup [.str "drop", .str z, p]] h = .ok (.lst [.non, dcT (dropS l z)]) h := by
  refine due_of (s := [.dead]) rfl (fun y e => by cases e; have := nm_len hn; omega) (pu_two rfl (dropS_pu pl)) ?_
  rw [rest_on (by rw [if_neg (by decide +kernel)]; show (nmOk (.str z) && _) = true; rw [hn, g]; rfl) pl hl]
  have w1 : ∀ S, fEq (.str "drop") (.str "drop") S = some (.bl true) := fun S => eq_lit (by decide +kernel)
  have pd := popD_ev (h := h) (l := l) (z := z) (t := c) (env := [some tab, some (dcT l), some (.tup [.str "drop", .str z, p]), some (.str z), some p, some (.str "drop"), some (.bl (nmOk (.str z))), some (.loc h.length), none, none, none, none, none]) (mo := mVar 7) (me := mVar 3) rfl rfl g
  have fz := frzD_ev (h := h) (l := dropS l z) (env := [some tab, some (dcT l), some (.tup [.str "drop", .str z, p]), some (.str z), some p, some (.str "drop"), some (.bl (nmOk (.str z))), some (.loc h.length), none, none, none, none, none]) (mo := mVar 7) rfl
  have i2 : ∀ {α : Type} (u v : α), (if 0 + 1 + 1 ≤ 10000 then u else v) = u := fun u v => if_pos (by decide)
  unfold dropD
  simp -implicitDefEqProofs only [q2_seq, q2_if, q1_tst, q1_bin, q1_var, q1_C, List.getElem?_cons_zero, List.getElem?_cons_succ, bind_ok, w1, ofO_some, asB_bl, bindE_ok, if_true, q2_exp, pd, seq_nx, q2_ret, q1_frz, q1_lst, q1_cons, q1_nil, fz, List.length_cons, List.length_nil, i2, seq_rt]
theorem due_run (hn : nmOk (.str z) = true) (g : getS l z = some (rowB (iT xs) st)) (hx : xs.length = 10) (hc : cnt < 10000) (m1 : m ≤ cnt) (m2 : ∀ j, j < m → restP fr xs j = false) (m3 : m = cnt ∨ restP fr xs m = true) (pl : puS l = true) (hl : l.length ≤ 1000) :
    F_law_bench_due [tabT fr, dcT l, .tup [.str "run", .str z, tN cnt]] h = .ok (.lst [tN m, dcT (putS l z (rowB (iT (runP fr xs m)) (st + m)))]) h := by
  have pr : (rowB (iT (runP fr xs m)) (st + m)).pu = true := by
    rw [rowB, pu_tup]
    show ((iT (runP fr xs m)).pu && true) = true
    rw [pu_iT]
    rfl
  refine due_of (s := [.dead]) rfl (fun y e => by cases e; have := nm_len hn; omega) (pu_two rfl (putS_pu pl pr)) ?_
  rw [rest_on (by rw [if_neg (by decide +kernel)]; show (nmOk (.str z) && _) = true; rw [hn, g]; rfl) pl hl]
  have w1 : ∀ S, fEq (.str "run") (.str "drop") S = some (.bl false) := fun S => ne_lit (by decide +kernel)
  have w2 : ∀ S, fEq (.str "run") (.str "run") S = some (.bl true) := fun S => eq_lit (by decide +kernel)
  have gt : ∀ S, fGetS (dcT l) (.str z) S = some (rowB (iT xs) st) := fun S => getS_ok g
  have th : ∀ S, F_law_gone_through [tabT fr, iT xs, tN cnt] S = .ok (.lst [.lst (rowsP fr xs m), .lst ((usedP fr xs m).map tN)]) S := fun S => through_eq hx hc m1 m2 m3
  have lo : ∀ S, fIdx (.lst (rowsP fr xs m)) (.int (-1)) S = some (iT (runP fr xs m)) := fun S => by
    rw [q3_idxL]
    exact last_of m
  have ng : ∀ S, fNeg (.int 1) S = some (.int (-1)) := fun S => rfl
  have lu : ∀ S, fLen [.lst ((usedP fr xs m).map tN)] S = some (tN m) := fun S => by
    have := usedP_len (fr := fr) (xs := xs) (j := m)
    simp [this, tN]
  have ad : ∀ S, fAdd (tN st) (tN m) S = some (tN (st + m)) := fun S => by
    show fAdd (.int _) (.int _) S = _
    rw [q3_add]
    rfl
  have bd1 : ∀ a b c d e f g : Option T, bindT (.tup [8, 10]) (rowB (iT xs) st) [a, b, c, d, e, f, g, some (.loc h.length), none, none, none, none, none] = some [a, b, c, d, e, f, g, some (.loc h.length), some (iT xs), none, some (tN st), none, none] := fun a b c d e f g => by
    unfold rowB
    rw [b_tup]
    rfl
  generalize usedP fr xs m = us at th lu
  generalize rowsP fr xs m = rs at th lo
  have bd2 : ∀ a b c d e f g : Option T, bindT (.tup [9, 11]) (.lst [.lst rs, .lst (us.map tN)]) [a, b, c, d, e, f, g, some (.loc h.length), some (iT xs), none, some (tN st), none, none] = some [a, b, c, d, e, f, g, some (.loc h.length), some (iT xs), some (.lst rs), some (tN st), some (.lst (us.map tN)), none] := fun a b c d e f g => by
    rfl
  generalize runP fr xs m = ys at lo pr ⊢
  have i2 : ∀ {α : Type} (u v : α), (if 0 + 1 + 1 ≤ 10000 then u else v) = u := fun u v => if_pos (by decide)
  have pt := putD_ev (h := h) (l := l) (z := z) (v := rowB (iT ys) (st + m)) (env := [some (tabT fr), some (dcT l), some (.tup [.str "run", .str z, tN cnt]), some (.str z), some (tN cnt), some (.str "run"), some (.bl (nmOk (.str z))), some (.loc h.length), some (iT xs), some (.lst rs), some (tN st), some (.lst (us.map tN)), none]) (mv := mTup (mCons (mBin fIdx (mVar 9) (mUn fNeg (mC (.int 1)))) (mCons (mBin fAdd (mVar 10) (mCallF fLen (mCons (mVar 11) mNil))) mNil))) (mo := mVar 7) (mi := mVar 3) (by
    simp -implicitDefEqProofs only [q1_tup, q1_cons, q1_nil, q1_var, q1_bin, q1_un, q1_C, q1_callF, List.getElem?_cons_zero, List.getElem?_cons_succ, bind_ok, ng, lo, lu, ad, ofO_some, List.length_cons, List.length_nil, i2]
    rfl) rfl rfl pr hl
  have fz := frzD_ev (h := h) (l := putS l z (rowB (iT ys) (st + m))) (env := [some (tabT fr), some (dcT l), some (.tup [.str "run", .str z, tN cnt]), some (.str z), some (tN cnt), some (.str "run"), some (.bl (nmOk (.str z))), some (.loc h.length), some (iT xs), some (.lst rs), some (tN st), some (.lst (us.map tN)), none]) (mo := mVar 7) rfl
  unfold dropD runD
  simp -implicitDefEqProofs only [q2_seq, q2_if, q1_tst, q1_bin, q1_var, q1_C, List.getElem?_cons_zero, List.getElem?_cons_succ, bind_ok, w1, w2, ofO_some, asB_bl, bindE_ok, Bool.false_eq_true, if_false, if_true, q2_nil, seq_nx, q2_asg, gt, bd1, q1_call, q1_cons, q1_nil, th, bd2, pt, q2_ret, q1_frz, q1_lst, q1_callF, lu, fz, List.length_cons, List.length_nil, i2, seq_rt]
theorem due_put (hn : nmOk (.str z) = true) (kp : p.plain = true) (kq : p.pu = true) (pl : puS l = true) (hl : l.length ≤ 1000) :
    F_law_bench_due [tab, dcT l, .tup [.str "put", .str z, p]] h = .ok (if powL p = true then (if getS l z = none ∧ l.length = 12 then .lst [.str "many", dcT l] else .lst [.non, dcT (putS l z (rowB p 0))]) else .lst [.str "powers", dcT l]) h := by
  have pr : (rowB p 0).pu = true := by
    rw [rowB, pu_tup]
    show (p.pu && true) = true
    rw [kq]
    rfl
  have sz : Sized (.str z) := fun y e => by cases e; have := nm_len hn; omega
  have bb : (if Str.ofString "put" = Str.ofString "put" then nmOk (.str z) else thereB l (.str z)) = true := by rw [if_pos rfl, hn]
  have w1 : ∀ S, fEq (.str "put") (.str "drop") S = some (.bl false) := fun S => ne_lit (by decide +kernel)
  have w2 : ∀ S, fEq (.str "put") (.str "run") S = some (.bl false) := fun S => ne_lit (by decide +kernel)
  have lr : ∀ S, F_law_line_right [p] S = .ok (.bl (powL p)) S := fun S => line_right_eq kp
  have ni : ∀ S, fNotInS (.str z) (dcT l) S = some (.bl (!(getS l z).isSome)) := fun S => notInS z
  have ln : ∀ S, fLenS [dcT l] S = some (.int (l.length : Nat)) := fun S => lenS_ok hl
  have eq : ∀ S, fEq (.int (l.length : Nat)) (.int 12) S = some (.bl (decide (l.length = 12))) := fun S => by
    rw [q3_eq]
    congr 2
    rw [decide_eq_decide]
    omega
  have i2 : ∀ {α : Type} (u v : α), (if 0 + 1 + 1 ≤ 10000 then u else v) = u := fun u v => if_pos (by decide)
  have to : ∀ {v : T} {s : Store}, v.pu = true → putD [some tab, some (dcT l), some (.tup [.str "put", .str z, p]), some (.str z), some p, some (.str "put"), some (.bl (nmOk (.str z))), some (.loc h.length), none, none, none, none, none] (h ++ [.dK (keyed l)]) = .rt v (h ++ s) → F_law_bench_due [tab, dcT l, .tup [.str "put", .str z, p]] h = .ok v h := fun {v s} pv e => by
    refine due_of rfl sz pv (s := s) ?_
    rw [rest_on bb pl hl, ← e]
    unfold dropD runD
    simp -implicitDefEqProofs only [q2_seq, q2_if, q1_tst, q1_bin, q1_var, q1_C, List.getElem?_cons_zero, List.getElem?_cons_succ, bind_ok, w1, w2, ofO_some, asB_bl, bindE_ok, Bool.false_eq_true, if_false, q2_nil, seq_nx]
  cases pw : powL p with
  | false =>
    rw [if_neg Bool.false_ne_true]
    rw [pw] at lr
    refine to (s := [.dK (keyed l)]) (pu_two rfl pl) ?_
    unfold putD
    simp -implicitDefEqProofs only [q2_seq, q2_if, q1_notT, q1_tru, q1_call, q1_cons, q1_nil, q1_var, List.getElem?_cons_zero, List.getElem?_cons_succ, bind_ok, lr, truF_bl, ofO_some, Bool.not_false, if_true, bindE_ok, q2_ret, q1_frz, q1_lst, q1_C, List.length_cons, List.length_nil, i2, seq_rt]
  | true =>
    rw [if_pos rfl]
    rw [pw] at lr
    have cond : mAndT (mTst (mBin fNotInS (mVar 3) (mVar 1))) (mTst (mBin fEq (mCallF fLenS (mCons (mVar 1) mNil)) (mC (.int 12)))) [some tab, some (dcT l), some (.tup [.str "put", .str z, p]), some (.str z), some p, some (.str "put"), some (.bl (nmOk (.str z))), some (.loc h.length), none, none, none, none, none] (h ++ [.dK (keyed l)]) = .ok (decide (getS l z = none ∧ l.length = 12)) (h ++ [.dK (keyed l)]) := by
      simp -implicitDefEqProofs only [q1_andT, q1_tst, q1_bin, q1_var, List.getElem?_cons_zero, List.getElem?_cons_succ, bind_ok, ni, ofO_some, asB_bl]
      cases g : getS l z with
      | none =>
        simp -implicitDefEqProofs only [Option.isSome_none, Bool.not_false, if_true, q1_bin, q1_callF, q1_cons, q1_nil, q1_var, List.getElem?_cons_zero, List.getElem?_cons_succ, bind_ok, ln, ofO_some, q1_C, eq, asB_bl, true_and]
      | some t =>
        rw [decide_eq_false (fun q => by cases q.1)]
        simp -implicitDefEqProofs only [Option.isSome_some, Bool.not_true, Bool.false_eq_true, if_false]
    by_cases c : getS l z = none ∧ l.length = 12
    · rw [if_pos c]
      rw [decide_eq_true c] at cond
      refine to (s := [.dK (keyed l)]) (pu_two rfl pl) ?_
      unfold putD
      simp -implicitDefEqProofs only [q2_seq, q2_if, q1_notT, q1_tru, q1_call, q1_cons, q1_nil, q1_var, List.getElem?_cons_zero, List.getElem?_cons_succ, bind_ok, lr, truF_bl, ofO_some, Bool.not_true, Bool.false_eq_true, if_false, bindE_ok, q2_nil, seq_nx, cond, if_true, q2_ret, q1_frz, q1_lst, q1_C, List.length_cons, List.length_nil, i2, seq_rt]
    · rw [if_neg c]
      rw [decide_eq_false c] at cond
      refine to (s := [.dead]) (pu_two rfl (putS_pu pl pr)) ?_
      have pt := putD_ev (h := h) (l := l) (z := z) (v := rowB p 0) (env := [some tab, some (dcT l), some (.tup [.str "put", .str z, p]), some (.str z), some p, some (.str "put"), some (.bl (nmOk (.str z))), some (.loc h.length), none, none, none, none, none]) (mv := mTup (mCons (mVar 4) (mCons (mC (.int 0)) mNil))) (mo := mVar 7) (mi := mVar 3) (by
        simp -implicitDefEqProofs only [q1_tup, q1_cons, q1_nil, q1_var, q1_C, List.getElem?_cons_zero, List.getElem?_cons_succ, bind_ok, List.length_cons, List.length_nil, i2]
        rfl) rfl rfl pr hl
      have fz := frzD_ev (h := h) (l := putS l z (rowB p 0)) (env := [some tab, some (dcT l), some (.tup [.str "put", .str z, p]), some (.str z), some p, some (.str "put"), some (.bl (nmOk (.str z))), some (.loc h.length), none, none, none, none, none]) (mo := mVar 7) rfl
      unfold putD
      simp -implicitDefEqProofs only [q2_seq, q2_if, q1_notT, q1_tru, q1_call, q1_cons, q1_nil, q1_var, List.getElem?_cons_zero, List.getElem?_cons_succ, bind_ok, lr, truF_bl, ofO_some, Bool.not_true, Bool.false_eq_true, if_false, bindE_ok, q2_nil, seq_nx, cond, pt, q2_ret, q1_frz, q1_lst, q1_C, fz, List.length_cons, List.length_nil, i2]
end
end Gd
namespace Gd
open PySem PySem.Spec PyProof.Rows L2 Sm
@[irreducible] noncomputable def dd4 : MS := (sIf (mAndT (mTst (mBin fGt (mCallF fLenS (mCons (mVar 2) mNil)) (mC (.int 0)))) (mTst (mBin fGt (mCall F_law_take (mCons (mVar 0) (mCons (mC (.int 3)) mNil))) (mC (.int 0)))))
  (sSet 5 (mBin fIdx (mFrz (mNewA fSortS (mCons (mVar 2) mNil))) (mCall F_law_take (mCons (mVar 0) (mCons (mCallF fLenS (mCons (mVar 2) mNil)) mNil)))))
  sNil)
@[irreducible] noncomputable def dd5 : MS := (sIf (mAndT (mTru (mVar 4)) (mTst (mBin fEq (mCall F_law_take (mCons (mVar 0) (mCons (mC (.int 2)) mNil))) (mC (.int 0)))))
  (sSeq (sSet 6 (mFrz (mLst (mCons (mC (.str "")) (mCons (mC (.str "abcdefghi")) (mCons (mC (.str "One")) (mCons (mC (.str "a b")) (mCons (mC (.str "a1")) (mCons (mC .non) (mCons (mC (.int 7)) (mCons (mTup (mCons (mC (.str "one")) mNil)) (mCons (mFrz (mLst (mCons (mC (.str "one")) mNil))) (mCons (mC (.bl true)) (mCons mEmp (mCons (mC (.str "gone")) mNil)))))))))))))))
  (sSet 5 (mBin fIdx (mVar 6) (mCall F_law_take (mCons (mVar 0) (mCons (mC (.int 12)) mNil))))))
  sNil)
@[irreducible] noncomputable def dd6 : MS := (sIf (mTst (mBin fLt (mVar 3) (mC (.int 5))))
  (sSeq (sSet 7 (mCall F_law_line (mCons (mVar 0) (mCons (mVar 1) (mCons (mBin fIdx (mFrz (mLst (mCons (mC (.int 3)) (mCons (mC (.int 8)) (mCons (mC (.int 8)) (mCons (mBin fPow (mC (.int 10)) (mC (.int 6))) mNil)))))) (mCall F_law_take (mCons (mVar 0) (mCons (mC (.int 4)) mNil)))) mNil)))))
  (sSeq (sIf (mAndT (mTru (mVar 4)) (mTst (mBin fEq (mCall F_law_take (mCons (mVar 0) (mCons (mC (.int 2)) mNil))) (mC (.int 0)))))
  (sSeq (sSet 6 (mFrz (mLst (mCons (mSl (mVar 7) (mPart none) (mPart (some (mC (.int 9))))) (mCons (mBin fAdd (mVar 7) (mTup (mCons (mC (.int 0)) mNil))) (mCons (mFrz (mNewA fList (mCons (mVar 7) mNil))) (mCons (mBin fAdd (mSl (mVar 7) (mPart none) (mPart (some (mC (.int 9))))) (mTup (mCons (mBin fAdd (mBin fPow (mC (.int 10)) (mC (.int 6))) (mC (.int 1))) mNil))) (mCons (mBin fAdd (mSl (mVar 7) (mPart none) (mPart (some (mC (.int 9))))) (mTup (mCons (mUn fNeg (mC (.int 1))) mNil))) (mCons (mC .non) (mCons (mC (.int 6)) (mCons mEmp mNil)))))))))))
  (sSet 7 (mBin fIdx (mBin fAdd (mVar 6) (mFrz (mLst (mCons (mBin fAdd (mSl (mVar 7) (mPart none) (mPart (some (mC (.int 9))))) (mTup (mCons (mC (.bl true)) mNil))) (mCons (mBin fAdd (mSl (mVar 7) (mPart none) (mPart (some (mC (.int 9))))) (mTup (mCons (mC (.str "1")) mNil))) mNil))))) (mCall F_law_take (mCons (mVar 0) (mCons (mC (.int 10)) mNil))))))
  sNil)
  (sRet (mTup (mCons (mC (.str "put")) (mCons (mVar 5) (mCons (mVar 7) mNil)))))))
  sNil)
@[irreducible] noncomputable def dd7 : MS := (sIf (mTst (mBin fLt (mVar 3) (mC (.int 9))))
  (sRet (mTup (mCons (mC (.str "run")) (mCons (mVar 5) (mCons (mBin fIdx (mFrz (mLst (mCons (mC (.int 0)) (mCons (mC (.int 1)) (mCons (mCall F_law_take (mCons (mVar 0) (mCons (mC (.int 30)) mNil))) (mCons (mC (.int 200)) mNil)))))) (mCall F_law_take (mCons (mVar 0) (mCons (mC (.int 4)) mNil)))) mNil)))))
  sNil)
@[irreducible] noncomputable def dd8 : MS := (sRet (mBin fIdx (mFrz (mLst (mCons (mTup (mCons (mC (.str "drop")) (mCons (mVar 5) (mCons (mC .non) mNil)))) (mCons (mTup (mCons (mC (.str "undo")) (mCons (mC .non) (mCons (mC .non) mNil)))) (mCons (mTup (mCons (mC (.str "undo")) (mCons (mC .non) (mCons (mC .non) mNil)))) mNil))))) (mBin fSub (mVar 3) (mC (.int 9)))))
theorem dd_is : b_law_bench_deed_v2 = (sSeq (sSet 3 (mCall F_law_take (mCons (mVar 0) (mCons (mC (.int 12)) mNil))))
  (sSeq (sSet 4 (mBin fEq (mCall F_law_take (mCons (mVar 0) (mCons (mC (.int 6)) mNil))) (mC (.int 1))))
  (sSeq (sSet 5 (mBin fIdx (mFrz (mLst (mCons (mC (.str "one")) (mCons (mC (.str "two")) (mCons (mC (.str "x")) (mCons (mC (.str "abcdefgh")) (mCons (mC (.str "row")) mNil))))))) (mCall F_law_take (mCons (mVar 0) (mCons (mC (.int 5)) mNil)))))
  (sSeq dd4
  (sSeq dd5
  (sSeq dd6
  (sSeq dd7
  dd8))))))) := by
  unfold dd4 dd5 dd6 dd7 dd8
  rfl
structure NameT (t : T) : Prop where
  pl : t.plain = true
  sz : Sized t
  pu : t.pu = true
inductive DeedOk : T → Prop
  | put {t p : T} (a : NameT t) (b : p.plain = true) (c : p.pu = true) : DeedOk (.tup [.str "put", t, p])
  | run {t : T} {cnt : Nat} (a : NameT t) (b : cnt ≤ 200) : DeedOk (.tup [.str "run", t, tN cnt])
  | drop {t : T} (a : NameT t) : DeedOk (.tup [.str "drop", t, .non])
  | undo : DeedOk (.tup [.str "undo", .non, .non])
section
variable {h : Store} {n r : Nat} {w v : Int} {t p x1 : T} {l : List (Str × T)} {P : Pst} {Q : T → Store → Prop} {X : Ex → Store → Prop} {o : Bool} {ps es : List Nat} {x6 x7 : Option T}
theorem name_lit {z : Str} (k : decide (z.length ≤ 100000) = true) : NameT (.str z) := ⟨rfl, fun y e => by cases e; exact of_decide_eq_true k, rfl⟩
theorem name_of {t : T} (a : t.plain = true) (b : t.pu = true) (c : ∀ z, t ≠ .str z) : NameT t := ⟨a, fun y e => absurd e (c y), b⟩
theorem tup_pu {a b c : T} (ha : a.pu = true) (hb : b.pu = true) (hc : c.pu = true) : (T.tup [a, b, c]).pu = true := by
  rw [pu_tup]
  show (a.pu && (b.pu && (c.pu && true))) = true
  rw [ha, hb, hc]
  rfl
theorem DeedOk.pu {t : T} (k : DeedOk t) : t.pu = true := by
  cases k with
  | put a b c => exact tup_pu rfl a.pu c
  | run a b => exact tup_pu rfl a.pu rfl
  | drop a => exact tup_pu rfl a.pu rfl
  | undo => exact tup_pu rfl rfl rfl
theorem retP {m : M T} {env : Env'} (hn : n < h.length) (e0 : ∃ v, h[n]? = some (.lst [.int v])) (e : m env (pst h n w) = .ok t (pst h n w)) (pt : t.pu = true) (q : Q t (pst h n w)) : (sRet m env (pst h n w)).wp (fnP h Q X) := by
  obtain ⟨v, e0⟩ := e0
  rw [q2_ret, e, bindE_ok]
  have tk : (pst h n w).take h.length = pst h n w := by
    rw [List.take_of_length_le]
    rw [pst_len]
    exact Nat.le_refl _
  have si : sameIns h (pst h n w) := by
    have := si_self (h := pst h n v)
    simp [e0]
  exact ⟨si, .inl ⟨pt, by rw [tk]; exact q⟩⟩
theorem take3 {far : Nat} (hn : n < h.length) (w0 : 0 ≤ w) (f0 : 0 < far) (f1 : far < 1000000) : ∃ r : Nat, r < far ∧ F_law_take [.loc n, .int (far : Int)] (pst h n w) = .ok (.int (r : Int)) (pst h n (w / (far : Int))) ∧ 0 ≤ w / (far : Int) := by
  have t1 := take_1 (h := h) (n := n) (v := w) (far := (far : Int)) hn w0 (by omega) (by omega)
  have a := Int.emod_nonneg w (show (far : Int) ≠ 0 by omega)
  have b := Int.emod_lt_of_pos w (show (0 : Int) < (far : Int) by omega)
  exact ⟨(w % (far : Int)).toNat, by omega, by rw [t1, Int.toNat_of_nonneg a], Int.ediv_nonneg w0 (by omega)⟩
theorem eq_nat {a b : Nat} {S : Store} : fEq (.int (a : Int)) (.int (b : Int)) S = some (.bl (decide (a = b))) := by
  rw [q3_eq]
  congr 2
  rw [decide_eq_decide]
  omega
theorem dd4_wp (hn : n < h.length) (w0 : 0 ≤ w) (nt : NameT t) (hk : ∀ k ∈ l.map (·.1), k.length ≤ 8) (hl : l.length < 64) (q : ∀ t w, 0 ≤ w → NameT t → P.nx [some (.loc n), some x1, some (dcT l), some (.int (r : Int)), some (.bl o), some t, none, none] (pst h n w)) :
    (dd4 [some (.loc n), some x1, some (dcT l), some (.int (r : Int)), some (.bl o), some t, none, none] (pst h n w)).wp P := by
  have ln : ∀ S, fLenS [dcT l] S = some (.int (l.length : Nat)) := fun S => lenS_ok (by omega)
  have gt : ∀ S, fGt (.int (l.length : Nat)) (.int 0) S = some (.bl (decide (0 < l.length))) := fun S => by
    rw [q3_gt]
    congr 2
    rw [decide_eq_decide]
    omega
  unfold dd4
  simp -implicitDefEqProofs only [q2_if, q1_andT, q1_tst, q1_bin, q1_callF, q1_cons, q1_nil, q1_var, q1_C, List.getElem?_cons_zero, List.getElem?_cons_succ, bind_ok, ln, gt, ofO_some, asB_bl]
  by_cases c : 0 < l.length
  · rw [decide_eq_true c]
    obtain ⟨k, k1, e1, w1⟩ := take3 (h := h) (far := 3) hn w0 (by omega) (by omega)
    have g3 : ∀ S, fGt (.int (k : Int)) (.int 0) S = some (.bl (decide (0 < k))) := fun S => by
      rw [q3_gt]
      congr 2
      rw [decide_eq_decide]
      omega
    simp -implicitDefEqProofs only [if_true, q1_tst, q1_bin, q1_call, q1_cons, q1_nil, q1_var, q1_C, List.getElem?_cons_zero, List.getElem?_cons_succ, bind_ok, show T.int 3 = T.int ((3 : Nat) : Int) from rfl, e1, g3, ofO_some, asB_bl]
    by_cases d : 0 < k
    · rw [decide_eq_true d]
      obtain ⟨j, j1, e2, w2⟩ := take3 (h := h) (far := l.length) hn w1 c (by omega)
      have so : ∀ S, fSortS [dcT l] S = some ((sortS (l.map (·.1))).map T.str) := fun S => sortS_ok hl
      have sl : (sortS (l.map (·.1))).length = l.length := by rw [sortS_perm.length_eq, List.length_map]
      obtain ⟨s, hs⟩ : ∃ s, (sortS (l.map (·.1)))[j]? = some s := ⟨_, List.getElem?_eq_getElem (by omega)⟩
      have sm := sortS_perm.mem_iff.mp (List.mem_of_getElem? hs)
      have ix : ∀ S, fIdx (.lst ((sortS (l.map (·.1))).map T.str)) (.int (j : Int)) S = some (.str s) := fun S => by
        rw [q3_idxL, atI_p (by omega) (by rw [List.length_map]; omega), Int.toNat_natCast, List.getElem?_map, hs]
        rfl
      simp -implicitDefEqProofs only [if_true, bindE_ok, q2_set, q1_bin, q1_frz, q1_newA, q1_callF, q1_call, q1_cons, q1_nil, q1_var, List.getElem?_cons_zero, List.getElem?_cons_succ, bind_ok, so, ln, ofO_some, e2, ix, List.set]
      refine q _ _ w2 ⟨rfl, fun y e => ?_, rfl⟩
      cases e
      have := hk _ sm
      omega
    · rw [decide_eq_false d]
      simp -implicitDefEqProofs only [Bool.false_eq_true, if_false, bindE_ok, q2_nil]
      exact q _ _ w1 nt
  · rw [decide_eq_false c]
    simp -implicitDefEqProofs only [Bool.false_eq_true, if_false, bindE_ok, q2_nil]
    exact q _ _ w0 nt
theorem dd5_wp (hn : n < h.length) (w0 : 0 ≤ w) (nt : NameT t) (q : ∀ t x6 w, 0 ≤ w → NameT t → P.nx [some (.loc n), some x1, some (dcT l), some (.int (r : Int)), some (.bl o), some t, x6, none] (pst h n w)) :
    (dd5 [some (.loc n), some x1, some (dcT l), some (.int (r : Int)), some (.bl o), some t, none, none] (pst h n w)).wp P := by
  unfold dd5
  simp -implicitDefEqProofs only [q2_if, q1_andT, q1_tru, q1_var, List.getElem?_cons_zero, List.getElem?_cons_succ, bind_ok, truF_bl, ofO_some]
  cases o with
  | true =>
    obtain ⟨k, k1, e1, w1⟩ := take3 (h := h) (far := 2) hn w0 (by omega) (by omega)
    have g2 : ∀ S, fEq (.int (k : Int)) (.int 0) S = some (.bl (decide (k = 0))) := fun S => eq_nat (b := 0)
    simp -implicitDefEqProofs only [if_true, q1_tst, q1_bin, q1_call, q1_cons, q1_nil, q1_var, q1_C, List.getElem?_cons_zero, List.getElem?_cons_succ, bind_ok, show T.int 2 = T.int ((2 : Nat) : Int) from rfl, e1, g2, ofO_some, asB_bl]
    by_cases d : k = 0
    · rw [decide_eq_true d]
      obtain ⟨j, j1, e2, w2⟩ := take3 (h := h) (far := 12) hn w1 (by omega) (by omega)
      have i1 : ∀ {α : Type} (u v : α), (if 0 + 1 ≤ 10000 then u else v) = u := fun u v => if_pos (by decide)
      have i12 : ∀ {α : Type} (u v : α), (if 0 + 1 + 1 + 1 + 1 + 1 + 1 + 1 + 1 + 1 + 1 + 1 + 1 ≤ 10000 then u else v) = u := fun u v => if_pos (by decide)
      obtain ⟨u, iu, nu⟩ : ∃ u, fIdx (.lst [.str "", .str "abcdefghi", .str "One", .str "a b", .str "a1", .non, .int 7, .tup [.str "one"], .lst [.str "one"], .bl true, .emp, .str "gone"]) (.int (j : Int)) (pst h n (w / ((2 : Nat) : Int) / ((12 : Nat) : Int))) = some u ∧ NameT u := by
        match j, j1 with
        | 0, _ => exact ⟨_, by rw [q3_idxL]; rfl, name_lit (by decide +kernel)⟩
        | 1, _ => exact ⟨_, by rw [q3_idxL]; rfl, name_lit (by decide +kernel)⟩
        | 2, _ => exact ⟨_, by rw [q3_idxL]; rfl, name_lit (by decide +kernel)⟩
        | 3, _ => exact ⟨_, by rw [q3_idxL]; rfl, name_lit (by decide +kernel)⟩
        | 4, _ => exact ⟨_, by rw [q3_idxL]; rfl, name_lit (by decide +kernel)⟩
        | 5, _ => exact ⟨_, by rw [q3_idxL]; rfl, name_of rfl rfl (fun z e => by cases e)⟩
        | 6, _ => exact ⟨_, by rw [q3_idxL]; rfl, name_of rfl rfl (fun z e => by cases e)⟩
        | 7, _ => exact ⟨_, by rw [q3_idxL]; rfl, name_of rfl rfl (fun z e => by cases e)⟩
        | 8, _ => exact ⟨_, by rw [q3_idxL]; rfl, name_of rfl rfl (fun z e => by cases e)⟩
        | 9, _ => exact ⟨_, by rw [q3_idxL]; rfl, name_of rfl rfl (fun z e => by cases e)⟩
        | 10, _ => exact ⟨_, by rw [q3_idxL]; rfl, name_of rfl rfl (fun z e => by cases e)⟩
        | 11, _ => exact ⟨_, by rw [q3_idxL]; rfl, name_lit (by decide +kernel)⟩
      simp -implicitDefEqProofs only [if_true, bindE_ok, q2_seq, q2_set, q1_frz, q1_lst, q1_cons, q1_nil, q1_C, q1_tup, q1_emp, bind_ok, List.length_cons, List.length_nil, i1, i12, List.set, seq_nx, q1_bin, q1_call, q1_var, List.getElem?_cons_zero, List.getElem?_cons_succ, show T.int 12 = T.int ((12 : Nat) : Int) from rfl, e2, iu, ofO_some]
      exact q _ _ _ w2 nu
    · rw [decide_eq_false d]
      simp -implicitDefEqProofs only [Bool.false_eq_true, if_false, bindE_ok, q2_nil]
      exact q _ _ _ w1 nt
  | false =>
    simp -implicitDefEqProofs only [Bool.false_eq_true, if_false, bindE_ok, q2_nil]
    exact q _ _ _ w0 nt
theorem lt_nat {a b : Nat} {S : Store} : fLt (.int (a : Int)) (.int (b : Int)) S = some (.bl (decide (a < b))) := by
  show some (T.bl (decide ((a : Int) < (b : Int)))) = _
  congr 2
  rw [decide_eq_decide]
  omega
theorem dd7_wp (hn : n < h.length) (e0 : ∃ v, h[n]? = some (.lst [.int v])) (w0 : 0 ≤ w) (nt : NameT t) (q : ∀ t w, 0 ≤ w → DeedOk t → Q t (pst h n w))
    {G : MS} (nx : 9 ≤ r → (G [some (.loc n), some x1, some (dcT l), some (.int (r : Int)), some (.bl o), some t, x6, x7] (pst h n w)).wp (fnP h Q X)) :
    ((sSeq dd7 G) [some (.loc n), some x1, some (dcT l), some (.int (r : Int)), some (.bl o), some t, x6, x7] (pst h n w)).wp (fnP h Q X) := by
  have lt : ∀ S, fLt (.int (r : Int)) (.int 9) S = some (.bl (decide (r < 9))) := fun S => lt_nat (b := 9)
  unfold dd7
  simp -implicitDefEqProofs only [q2_seq, q2_if, q1_tst, q1_bin, q1_var, q1_C, List.getElem?_cons_zero, List.getElem?_cons_succ, bind_ok, lt, ofO_some, asB_bl, bindE_ok]
  by_cases c : r < 9
  · rw [decide_eq_true c]
    obtain ⟨k, k1, e1, w1⟩ := take3 (h := h) (far := 30) hn w0 (by omega) (by omega)
    obtain ⟨j, j1, e2, w2⟩ := take3 (h := h) (far := 4) hn w1 (by omega) (by omega)
    have i4 : ∀ {α : Type} (u v : α), (if 0 + 1 + 1 + 1 + 1 ≤ 10000 then u else v) = u := fun u v => if_pos (by decide)
    have i3 : ∀ {α : Type} (u v : α), (if 0 + 1 + 1 + 1 ≤ 10000 then u else v) = u := fun u v => if_pos (by decide)
    obtain ⟨cnt, ic, cl⟩ : ∃ cnt : Nat, fIdx (.lst [.int 0, .int 1, .int (k : Int), .int 200]) (.int (j : Int)) (pst h n (w / ((30 : Nat) : Int) / ((4 : Nat) : Int))) = some (tN cnt) ∧ cnt ≤ 200 := by
      match j, j1 with
      | 0, _ => exact ⟨0, by rw [q3_idxL]; rfl, by omega⟩
      | 1, _ => exact ⟨1, by rw [q3_idxL]; rfl, by omega⟩
      | 2, _ => exact ⟨k, by rw [q3_idxL]; rfl, by omega⟩
      | 3, _ => exact ⟨200, by rw [q3_idxL]; rfl, by omega⟩
    have dk : DeedOk (.tup [.str "run", t, tN cnt]) := .run nt cl
    simp -implicitDefEqProofs only [if_true, q2_ret, q1_tup, q1_cons, q1_nil, q1_C, q1_var, q1_bin, q1_frz, q1_lst, q1_call, List.getElem?_cons_zero, List.getElem?_cons_succ, bind_ok, show T.int 30 = T.int ((30 : Nat) : Int) from rfl, e1, List.length_cons, List.length_nil, i4, show T.int 4 = T.int ((4 : Nat) : Int) from rfl, e2, ic, ofO_some, i3, bindE_ok, seq_rt]
    have := retP (X := X) (m := mC (.tup [.str "run", t, tN cnt])) (env := []) hn e0 rfl dk.pu (q _ _ w2 dk)
    rw [q2_ret, q1_C, bindE_ok] at this
    exact this
  · rw [decide_eq_false c]
    simp -implicitDefEqProofs only [Bool.false_eq_true, if_false, q2_nil, seq_nx]
    exact nx (by omega)
theorem dd8_wp (hn : n < h.length) (e0 : ∃ v, h[n]? = some (.lst [.int v])) (w0 : 0 ≤ w) (nt : NameT t) (r9 : 9 ≤ r) (r12 : r < 12) (q : ∀ t w, 0 ≤ w → DeedOk t → Q t (pst h n w)) :
    (dd8 [some (.loc n), some x1, some (dcT l), some (.int (r : Int)), some (.bl o), some t, x6, x7] (pst h n w)).wp (fnP h Q X) := by
  have sb : ∀ S, fSub (.int (r : Int)) (.int 9) S = some (.int ((r - 9 : Nat) : Int)) := fun S => by
    rw [q3_sub]
    congr 2
    omega
  have i3 : ∀ {α : Type} (u v : α), (if 0 + 1 + 1 + 1 ≤ 10000 then u else v) = u := fun u v => if_pos (by decide)
  obtain ⟨u, iu, du⟩ : ∃ u, fIdx (.lst [.tup [.str "drop", t, .non], .tup [.str "undo", .non, .non], .tup [.str "undo", .non, .non]]) (.int ((r - 9 : Nat) : Int)) (pst h n w) = some u ∧ DeedOk u := by
    have : r - 9 < 3 := by omega
    match r - 9, this with
    | 0, _ => exact ⟨_, by rw [q3_idxL]; rfl, .drop nt⟩
    | 1, _ => exact ⟨_, by rw [q3_idxL]; rfl, .undo⟩
    | 2, _ => exact ⟨_, by rw [q3_idxL]; rfl, .undo⟩
  unfold dd8
  refine retP hn e0 ?_ du.pu (q _ _ w0 du)
  simp -implicitDefEqProofs only [q1_bin, q1_frz, q1_lst, q1_tup, q1_cons, q1_nil, q1_C, q1_var, List.getElem?_cons_zero, List.getElem?_cons_succ, bind_ok, List.length_cons, List.length_nil, i3, sb, iu, ofO_some]
end
end Gd
namespace Gd
open PySem PySem.Spec PyProof.Rows L2 Sm
structure PowT (t : T) : Prop where
  pl : t.plain = true
  pu : t.pu = true
section
variable {h : Store} {n r : Nat} {w v : Int} {t p x1 : T} {l : List (Str × T)} {P : Pst} {Q : T → Store → Prop} {X : Ex → Store → Prop} {o : Bool} {ps es : List Nat} {x6 x7 : Option T}
theorem nats_ok (es : List Nat) : (∀ x ∈ es.map tN, x.plain = true) ∧ pus (es.map tN) = true := ⟨fun x hx => by
  obtain ⟨e, _, rfl⟩ := List.mem_map.mp hx
  rfl, pus_tN⟩
theorem pus_snoc {xs : List T} {x : T} (a : pus xs = true) (b : x.pu = true) : pus (xs ++ [x]) = true := by
  induction xs with
  | nil =>
    show (x.pu && true) = true
    rw [b]
    rfl
  | cons y r ih =>
    have a : (y.pu && pus r) = true := a
    rw [Bool.and_eq_true] at a
    show (y.pu && pus (r ++ [x])) = true
    rw [a.1, ih a.2]
    rfl
theorem pow_tup (es : List Nat) : PowT (.tup (es.map tN)) := ⟨by rw [plain_tup, plains_iff]; exact (nats_ok es).1, by rw [pu_tup]; exact pus_tN⟩
theorem pow_snoc (es : List Nat) {x : T} (a : x.plain = true) (b : x.pu = true) : PowT (.tup (es.map tN ++ [x])) := ⟨by
  rw [plain_tup, plains_iff]
  intro y hy
  rcases List.mem_append.mp hy with z | z
  · exact (nats_ok es).1 y z
  · rw [List.mem_singleton.mp z]
    exact a, by rw [pu_tup]; exact pus_snoc pus_tN b⟩
theorem pow_lst (es : List Nat) : PowT (.lst (es.map tN)) := ⟨by rw [plain_lst, plains_iff]; exact (nats_ok es).1, by rw [pu_lst]; exact pus_tN⟩
@[irreducible] noncomputable def oddP : MS := (sSeq (sSet 6 (mFrz (mLst (mCons (mSl (mVar 7) (mPart none) (mPart (some (mC (.int 9))))) (mCons (mBin fAdd (mVar 7) (mTup (mCons (mC (.int 0)) mNil))) (mCons (mFrz (mNewA fList (mCons (mVar 7) mNil))) (mCons (mBin fAdd (mSl (mVar 7) (mPart none) (mPart (some (mC (.int 9))))) (mTup (mCons (mBin fAdd (mBin fPow (mC (.int 10)) (mC (.int 6))) (mC (.int 1))) mNil))) (mCons (mBin fAdd (mSl (mVar 7) (mPart none) (mPart (some (mC (.int 9))))) (mTup (mCons (mUn fNeg (mC (.int 1))) mNil))) (mCons (mC .non) (mCons (mC (.int 6)) (mCons mEmp mNil)))))))))))
  (sSet 7 (mBin fIdx (mBin fAdd (mVar 6) (mFrz (mLst (mCons (mBin fAdd (mSl (mVar 7) (mPart none) (mPart (some (mC (.int 9))))) (mTup (mCons (mC (.bl true)) mNil))) (mCons (mBin fAdd (mSl (mVar 7) (mPart none) (mPart (some (mC (.int 9))))) (mTup (mCons (mC (.str "1")) mNil))) mNil))))) (mCall F_law_take (mCons (mVar 0) (mCons (mC (.int 10)) mNil))))))
theorem oddP_wp {x2 x3 x4 x5 : Option T} (hn : n < h.length) (w0 : 0 ≤ w) (l10 : es.length = 10) (q : ∀ p y6 w, 0 ≤ w → PowT p → P.nx [some (.loc n), some x1, x2, x3, x4, x5, y6, some p] (pst h n w)) :
    (oddP [some (.loc n), some x1, x2, x3, x4, x5, x6, some (.tup (es.map tN))] (pst h n w)).wp P := by
  obtain ⟨j, j1, e2, w2⟩ := take3 (h := h) (far := 10) hn w0 (by omega) (by omega)
  have i1 : ∀ {α : Type} (u v : α), (if 0 + 1 ≤ 10000 then u else v) = u := fun u v => if_pos (by decide)
  have i2 : ∀ {α : Type} (u v : α), (if 0 + 1 + 1 ≤ 10000 then u else v) = u := fun u v => if_pos (by decide)
  have i8 : ∀ {α : Type} (u v : α), (if 0 + 1 + 1 + 1 + 1 + 1 + 1 + 1 + 1 ≤ 10000 then u else v) = u := fun u v => if_pos (by decide)
  have sl : ∀ S, fSl (.tup (es.map tN)) none (some 9) S = some (.tup ((es.take 9).map tN)) := fun S => by
    show some (T.tup (cutT _ _ _)) = _
    rw [cut_to (by omega), List.map_take]
    rfl
  have a1 : ∀ (fs : List Nat) (x : T) (S : Store), fs.length ≤ 10 → fAdd (.tup (fs.map tN)) (.tup [x]) S = some (.tup (fs.map tN ++ [x])) := fun fs x S hf => add_tup (by simp; omega)
  have l9 : (es.take 9).length ≤ 10 := by rw [List.length_take]; omega
  have b0 := fun S => a1 es (.int 0) S (by omega)
  have b1 := fun S => a1 (es.take 9) (.int (1000000 + 1)) S l9
  have b2 := fun S => a1 (es.take 9) (.int (-1)) S l9
  have b3 := fun S => a1 (es.take 9) (.bl true) S l9
  have b4 := fun S => a1 (es.take 9) (.str "1") S l9
  have pw : ∀ S, fPow (.int 10) (.int 6) S = some (.int 1000000) := fun S => rfl
  have pw2 : ∀ S, fPow (.int ((10 : Nat) : Int)) (.int 6) S = some (.int 1000000) := fun S => rfl
  have ad : ∀ S, fAdd (.int 1000000) (.int 1) S = some (.int (1000000 + 1)) := fun S => rfl
  have ng : ∀ S, fNeg (.int 1) S = some (.int (-1)) := fun S => rfl
  have li : ∀ S, fList [.tup (es.map tN)] S = some (es.map tN) := fun S => rfl
  have p0 := pow_tup (es.take 9)
  have p1 := pow_snoc es (x := .int 0) rfl rfl
  have p2 := pow_lst es
  have p3 := pow_snoc (es.take 9) (x := .int (1000000 + 1)) rfl rfl
  have p4 := pow_snoc (es.take 9) (x := .int (-1)) rfl rfl
  have p8 := pow_snoc (es.take 9) (x := .bl true) rfl rfl
  have p9 := pow_snoc (es.take 9) (x := .str "1") rfl rfl
  generalize (es.take 9).map tN = A at sl b1 b2 b3 b4 p0 p3 p4 p8 p9
  have cc : ∀ S, fAdd (.lst [.tup A, .tup (es.map tN ++ [.int 0]), .lst (es.map tN), .tup (A ++ [.int (1000000 + 1)]), .tup (A ++ [.int (-1)]), .non, .int 6, .emp]) (.lst [.tup (A ++ [.bl true]), .tup (A ++ [.str "1"])]) S = some (.lst [.tup A, .tup (es.map tN ++ [.int 0]), .lst (es.map tN), .tup (A ++ [.int (1000000 + 1)]), .tup (A ++ [.int (-1)]), .non, .int 6, .emp, .tup (A ++ [.bl true]), .tup (A ++ [.str "1"])]) := fun S => add_lst (by simp)
  obtain ⟨u, iu, nu⟩ : ∃ u, fIdx (.lst [.tup A, .tup (es.map tN ++ [.int 0]), .lst (es.map tN), .tup (A ++ [.int (1000000 + 1)]), .tup (A ++ [.int (-1)]), .non, .int 6, .emp, .tup (A ++ [.bl true]), .tup (A ++ [.str "1"])]) (.int (j : Int)) (pst h n (w / ((10 : Nat) : Int))) = some u ∧ PowT u := by
    match j, j1 with
    | 0, _ => exact ⟨_, by rw [q3_idxL]; rfl, p0⟩
    | 1, _ => exact ⟨_, by rw [q3_idxL]; rfl, p1⟩
    | 2, _ => exact ⟨_, by rw [q3_idxL]; rfl, p2⟩
    | 3, _ => exact ⟨_, by rw [q3_idxL]; rfl, p3⟩
    | 4, _ => exact ⟨_, by rw [q3_idxL]; rfl, p4⟩
    | 5, _ => exact ⟨_, by rw [q3_idxL]; rfl, rfl, rfl⟩
    | 6, _ => exact ⟨_, by rw [q3_idxL]; rfl, rfl, rfl⟩
    | 7, _ => exact ⟨_, by rw [q3_idxL]; rfl, rfl, rfl⟩
    | 8, _ => exact ⟨_, by rw [q3_idxL]; rfl, p8⟩
    | 9, _ => exact ⟨_, by rw [q3_idxL]; rfl, p9⟩
  unfold oddP
  simp -implicitDefEqProofs only [q2_seq, q2_set, q1_frz, q1_lst, q1_cons, q1_nil, q1_sl, q1_part0, q1_part1, asI, q1_var, q1_C, q1_bin, q1_tup, q1_un, q1_newA, q1_emp, List.getElem?_cons_zero, List.getElem?_cons_succ, bind_ok, sl, b0, pw, pw2, ad, b1, ng, b2, li, ofO_some, List.length_cons, List.length_nil, i1, i2, i8, bindE_ok, List.set, seq_nx, b3, b4, cc, q1_call, show T.int 10 = T.int ((10 : Nat) : Int) from rfl, e2, iu]
  exact q _ _ _ w2 nu
theorem dd6_is : dd6 = (sIf (mTst (mBin fLt (mVar 3) (mC (.int 5))))
  (sSeq (sSet 7 (mCall F_law_line (mCons (mVar 0) (mCons (mVar 1) (mCons (mBin fIdx (mFrz (mLst (mCons (mC (.int 3)) (mCons (mC (.int 8)) (mCons (mC (.int 8)) (mCons (mBin fPow (mC (.int 10)) (mC (.int 6))) mNil)))))) (mCall F_law_take (mCons (mVar 0) (mCons (mC (.int 4)) mNil)))) mNil)))))
  (sSeq (sIf (mAndT (mTru (mVar 4)) (mTst (mBin fEq (mCall F_law_take (mCons (mVar 0) (mCons (mC (.int 2)) mNil))) (mC (.int 0)))))
  oddP
  sNil)
  (sRet (mTup (mCons (mC (.str "put")) (mCons (mVar 5) (mCons (mVar 7) mNil)))))))
  sNil) := by
  unfold dd6 oddP
  rfl
theorem dd6_wp {G : MS} (hn : n < h.length) (e0 : ∃ v, h[n]? = some (.lst [.int v])) (w0 : 0 ≤ w) (nt : NameT t) (l9 : ps.length < 1000) (hp : ∀ p ∈ ps, p < 10) (q : ∀ t w, 0 ≤ w → DeedOk t → Q t (pst h n w))
    (nx : (G [some (.loc n), some (.tup (ps.map tN)), some (dcT l), some (.int (r : Int)), some (.bl o), some t, x6, none] (pst h n w)).wp (fnP h Q X)) :
    ((sSeq dd6 G) [some (.loc n), some (.tup (ps.map tN)), some (dcT l), some (.int (r : Int)), some (.bl o), some t, x6, none] (pst h n w)).wp (fnP h Q X) := by
  have lt : ∀ S, fLt (.int (r : Int)) (.int 5) S = some (.bl (decide (r < 5))) := fun S => lt_nat (b := 5)
  rw [dd6_is, q2_seq, q2_if]
  simp -implicitDefEqProofs only [q1_tst, q1_bin, q1_var, q1_C, List.getElem?_cons_zero, List.getElem?_cons_succ, bind_ok, lt, ofO_some, asB_bl, bindE_ok]
  by_cases c : r < 5
  · rw [decide_eq_true c]
    obtain ⟨k, k1, e1, w1⟩ := take3 (h := h) (far := 4) hn w0 (by omega) (by omega)
    have pw : ∀ S, fPow (.int 10) (.int 6) S = some (.int 1000000) := fun S => rfl
    have i4 : ∀ {α : Type} (u v : α), (if 0 + 1 + 1 + 1 + 1 ≤ 10000 then u else v) = u := fun u v => if_pos (by decide)
    have i3 : ∀ {α : Type} (u v : α), (if 0 + 1 + 1 + 1 ≤ 10000 then u else v) = u := fun u v => if_pos (by decide)
    obtain ⟨most, hm, ix⟩ : ∃ most : Nat, most ≤ 1000000 ∧ fIdx (.lst [.int 3, .int 8, .int 8, .int 1000000]) (.int (k : Int)) (pst h n (w / ((4 : Nat) : Int))) = some (tN most) := by
      match k, k1 with
      | 0, _ => exact ⟨3, by omega, by rw [q3_idxL]; rfl⟩
      | 1, _ => exact ⟨8, by omega, by rw [q3_idxL]; rfl⟩
      | 2, _ => exact ⟨8, by omega, by rw [q3_idxL]; rfl⟩
      | 3, _ => exact ⟨1000000, by omega, by rw [q3_idxL]; rfl⟩
    simp -implicitDefEqProofs only [if_true, q2_seq, so_seq, q2_set, so_bindE, q1_call, q1_cons, q1_nil, q1_var, q1_bin, q1_frz, q1_lst, q1_C, List.getElem?_cons_zero, List.getElem?_cons_succ, bind_ok, pw, ofO_some, List.length_cons, List.length_nil, i4, show T.int 4 = T.int ((4 : Nat) : Int) from rfl, e1, ix, wp_bind]
    refine lineB_wp (potAt.old hn w1) l9 hp hm fun es w w0 l1 l2 => ?_
    rw [pst_pst]
    simp -implicitDefEqProofs only [wp_ok, so_nx, List.set]
    have fin : ∀ {y6 : Option T} {p : T} {w : Int}, 0 ≤ w → PowT p → (sRet (mTup (mCons (mC (.str "put")) (mCons (mVar 5) (mCons (mVar 7) mNil)))) [some (.loc n), some (.tup (ps.map tN)), some (dcT l), some (.int (r : Int)), some (.bl o), some t, y6, some p] (pst h n w)).wp (fnP h Q X) := fun {y6 p w} w0 pk => by
      have dk : DeedOk (.tup [.str "put", t, p]) := .put nt pk.pl pk.pu
      refine retP hn e0 ?_ dk.pu (q _ _ w0 dk)
      simp -implicitDefEqProofs only [q1_tup, q1_cons, q1_nil, q1_C, q1_var, List.getElem?_cons_zero, List.getElem?_cons_succ, bind_ok, List.length_cons, List.length_nil, i3]
    simp -implicitDefEqProofs only [q2_if, q1_andT, q1_tru, q1_var, List.getElem?_cons_zero, List.getElem?_cons_succ, bind_ok, truF_bl, ofO_some]
    cases o with
    | true =>
      obtain ⟨k, k1, e1, w1⟩ := take3 (h := h) (far := 2) hn w0 (by omega) (by omega)
      have g2 : ∀ S, fEq (.int (k : Int)) (.int 0) S = some (.bl (decide (k = 0))) := fun S => eq_nat (b := 0)
      simp -implicitDefEqProofs only [if_true, q1_tst, q1_bin, q1_call, q1_cons, q1_nil, q1_var, q1_C, List.getElem?_cons_zero, List.getElem?_cons_succ, bind_ok, show T.int 2 = T.int ((2 : Nat) : Int) from rfl, e1, g2, ofO_some, asB_bl]
      by_cases d : k = 0
      · rw [decide_eq_true d]
        simp -implicitDefEqProofs only [if_true, bindE_ok]
        exact oddP_wp hn w1 l1 fun p y6 w w0 pk => fin (y6 := y6) w0 pk
      · rw [decide_eq_false d]
        simp -implicitDefEqProofs only [Bool.false_eq_true, if_false, bindE_ok, q2_nil]
        exact fin (y6 := x6) w1 (pow_tup es)
    | false =>
      simp -implicitDefEqProofs only [Bool.false_eq_true, if_false, bindE_ok, q2_nil]
      exact fin (y6 := x6) w0 (pow_tup es)
  · rw [decide_eq_false c]
    simp -implicitDefEqProofs only [Bool.false_eq_true, if_false, q2_nil, seq_nx]
    exact nx
theorem deed_wp (p : potAt h n v) (l9 : ps.length < 1000) (hp : ∀ p ∈ ps, p < 10) (hk : ∀ k ∈ l.map (·.1), k.length ≤ 8) (hl : l.length < 64) (q : ∀ t w, 0 ≤ w → DeedOk t → Q t (pst h n w)) : (F_law_bench_deed_v2 [.loc n, .tup (ps.map tN), dcT l] h).wp Q X := by
  obtain ⟨b, hb⟩ : ∃ b, b = b_law_bench_deed_v2 := ⟨_, rfl⟩
  have eb : F_law_bench_deed_v2 = fn 3 8 false b := by rw [hb]; rfl
  rw [eb]
  refine fn_wp rfl ?_
  show (b [some (.loc n), some (.tup (ps.map tN)), some (dcT l), none, none, none, none, none] h).wp _
  rw [hb, dd_is]
  have hn := p.lt
  have e0 : ∃ v, h[n]? = some (.lst [.int v]) := ⟨v, p.1⟩
  obtain ⟨r, r1, e1, w1⟩ := take3 (h := h) (far := 12) hn p.2 (by omega) (by omega)
  rw [pst_self p] at e1
  obtain ⟨a, a1, e2, w2⟩ := take3 (h := h) (far := 6) hn w1 (by omega) (by omega)
  obtain ⟨k, k1, e3, w3⟩ := take3 (h := h) (far := 5) hn w2 (by omega) (by omega)
  have i5 : ∀ {α : Type} (u v : α), (if 0 + 1 + 1 + 1 + 1 + 1 ≤ 10000 then u else v) = u := fun u v => if_pos (by decide)
  have g1 : ∀ S, fEq (.int (a : Int)) (.int 1) S = some (.bl (decide (a = 1))) := fun S => eq_nat (b := 1)
  obtain ⟨u, iu, nu⟩ : ∃ u, fIdx (.lst [.str "one", .str "two", .str "x", .str "abcdefgh", .str "row"]) (.int (k : Int)) (pst h n (v / ((12 : Nat) : Int) / ((6 : Nat) : Int) / ((5 : Nat) : Int))) = some u ∧ NameT u := by
    match k, k1 with
    | 0, _ => exact ⟨_, by rw [q3_idxL]; rfl, name_lit (by decide +kernel)⟩
    | 1, _ => exact ⟨_, by rw [q3_idxL]; rfl, name_lit (by decide +kernel)⟩
    | 2, _ => exact ⟨_, by rw [q3_idxL]; rfl, name_lit (by decide +kernel)⟩
    | 3, _ => exact ⟨_, by rw [q3_idxL]; rfl, name_lit (by decide +kernel)⟩
    | 4, _ => exact ⟨_, by rw [q3_idxL]; rfl, name_lit (by decide +kernel)⟩
  simp -implicitDefEqProofs only [q2_seq, q2_set, q1_call, q1_cons, q1_nil, q1_var, q1_C, q1_bin, q1_frz, q1_lst, List.getElem?_cons_zero, List.getElem?_cons_succ, bind_ok, show T.int 12 = T.int ((12 : Nat) : Int) from rfl, e1, bindE_ok, List.set, seq_nx, show T.int 6 = T.int ((6 : Nat) : Int) from rfl, e2, g1, ofO_some, List.length_cons, List.length_nil, i5, show T.int 5 = T.int ((5 : Nat) : Int) from rfl, e3, iu]
  rw [so_seq]
  refine dd4_wp hn w3 nu hk hl fun t w w0 nt => ?_
  show ((sSeq dd5 _) _ _).wp _
  rw [q2_seq, so_seq]
  refine dd5_wp hn w0 nt fun t x6 w w0 nt => ?_
  show ((sSeq dd6 (sSeq dd7 dd8)) _ _).wp _
  refine dd6_wp hn e0 w0 nt l9 hp q ?_
  exact dd7_wp hn e0 w0 nt q fun r9 => dd8_wp hn e0 w0 nt r9 (by omega) q
end
end Gd
namespace Gd
open PySem PySem.Spec PyProof.Rows L2 Sm
structure Rows (M : Nat) (l : List (Str × T)) : Prop where
  row : ∀ q ∈ l, RowOk M q
  len : l.length ≤ 12
section
variable {h : Store} {n m i cnt M st : Nat} {t p v c dd : T} {l : List (Str × T)} {E : List T} {z : Str} {fr : List Fr} {es : List Nat} {xs : List Int}
theorem Rows.pu (k : Rows M l) : puS l = true := puS_rows k.row
theorem Rows.mono {N : Nat} (k : Rows M l) (h : M ≤ N) : Rows N l := ⟨fun q hq => by
  obtain ⟨es, st, a, b, d⟩ := (k.row q hq).row
  exact ⟨(k.row q hq).nm, es, st, a, b, fun e he => Nat.le_trans (d e he) h⟩, k.len⟩
theorem Rows.keys (k : Rows M l) : ∀ y ∈ l.map (·.1), y.length ≤ 8 := fun y hy => by
  obtain ⟨q, hq, rfl⟩ := List.mem_map.mp hy
  exact nm_len (k.row q hq).nm
theorem Rows.get (k : Rows M l) (g : getS l z = some t) : ∃ (es : List Nat) (st : Nat), t = rowB (iT (nI es)) st ∧ es.length = 10 ∧ ∀ e ∈ es, e ≤ M := (k.row _ (getS_mem g)).row
theorem put_mem {q : Str × T} (hq : q ∈ putS l z t) : q ∈ l ∨ q = (z, t) := by
  unfold putS at hq
  split at hq
  · obtain ⟨p, hp, rfl⟩ := List.mem_map.mp hq
    by_cases c : p.1 = z
    · rw [if_pos c]
      right
      rw [c]
    · rw [if_neg c]
      exact .inl hp
  · rcases List.mem_append.mp hq with y | y
    · exact .inl y
    · exact .inr (List.mem_singleton.mp y)
theorem put_len : (putS l z t).length = if (getS l z).isSome = true then l.length else l.length + 1 := by
  unfold putS
  split
  · rw [List.length_map]
  · simp
theorem Rows.put (k : Rows M l) (hn : nmOk (.str z) = true) (l10 : es.length = 10) (b : ∀ e ∈ es, e ≤ M) (rm : getS l z = none → l.length ≠ 12) : Rows M (putS l z (rowB (iT (nI es)) st)) := ⟨fun q hq => by
  rcases put_mem hq with a | a
  · exact k.row q a
  · rw [a]
    exact ⟨hn, es, st, rfl, l10, b⟩, by
  rw [put_len]
  have := k.len
  cases g : getS l z with
  | none =>
    have := rm g
    simp
    omega
  | some t =>
    simp
    omega⟩
theorem Rows.drop (k : Rows M l) : Rows M (dropS l z) := ⟨fun q hq => k.row q (List.mem_filter.mp hq).1, Nat.le_trans (List.length_filter_le ..) k.len⟩
theorem stop9 (fr : List Fr) (xs : List Int) : ∀ n, ∃ m, m ≤ n ∧ (∀ j, j < m → restP fr xs j = false) ∧ (m = n ∨ restP fr xs m = true)
  | 0 => ⟨0, Nat.le_refl _, fun j hj => absurd hj (Nat.not_lt_zero j), .inl rfl⟩
  | n + 1 => by
    obtain ⟨m, a, b, d⟩ := stop9 fr xs n
    cases r : restP fr xs m with
    | true => exact ⟨m, by omega, b, .inr r⟩
    | false =>
      have e : m = n := d.resolve_right (by rw [r]; exact Bool.false_ne_true)
      subst e
      refine ⟨m + 1, Nat.le_refl _, fun j hj => ?_, .inl rfl⟩
      by_cases c : j = m
      · rw [c]
        exact r
      · exact b j (by omega)
theorem leapt_eq (ok : okP fr) (hl : fr.length < 1000) (l10 : es.length = 10) (b : ∀ e ∈ es, e ≤ M) (hc : cnt ≤ 2000) (m1 : m ≤ cnt) (m2 : ∀ j, j < m → restP fr (nI es) j = false) (m3 : m = cnt ∨ restP fr (nI es) m = true) :
    F_leapt [prT fr, iT (nI es), tN cnt] h = .ok (.tup [tN m, iT (runP fr (nI es) m)]) h := by
  have w := leapt_wp (h := h) (n := cnt) ok hl l10 b (by omega)
  revert w
  cases F_leapt [prT fr, iT (nI es), tN cnt] h with
  | bad => exact fun z => z.elim
  | ex e h2 =>
    rintro ⟨_, _, d, d1, _, d3⟩
    have := cnt_le (fr := fr) (xs := nI es) d
    omega
  | ok t h2 =>
    rintro ⟨d, d1, d2, d3, _, rfl, rfl⟩
    have e : d = m := by
      rcases Nat.lt_trichotomy d m with a | a | a
      · have := m2 d a
        rcases d2 with y | y
        · omega
        · rw [this] at y
          cases y
      · exact a
      · have := d3 m a
        rcases m3 with y | y
        · omega
        · rw [this] at y
          cases y
    rw [e]
def Outc (fr : List Fr) (l : List (Str × T)) (M : Nat) (deed : T) : Prop :=
  (∃ w, w ∈ [12, 16, 18, 20, 21] ∧ (∀ h, F_law_bench_due [tabT fr, dcT l, deed] h = .ok (.lst [wordC w, dcT l]) h) ∧ ∀ h n m E, BnA h n m (prT fr) l E → F_law_bench_told_v2 [.loc n, deed] h = .ok (wordC w) h) ∨
  (∃ v l', (v = .non ∨ ∃ d : Nat, v = tN d) ∧ Rows (M + 8000) l' ∧ (∀ h, F_law_bench_due [tabT fr, dcT l, deed] h = .ok (.lst [v, dcT l']) h) ∧ ∀ h n m E, E.length < 100000 → BnA h n m (prT fr) l E → F_law_bench_told_v2 [.loc n, deed] h = .ok v (bst (h ++ [.dead]) n m (prT fr) l' (E ++ [dcT l])))
theorem thereB_str (b : thereB l t = true) : ∃ z u, t = .str z ∧ nmOk (.str z) = true ∧ getS l z = some u := by
  cases t with
  | str z =>
    have b : (nmOk (.str z) && (getS l z).isSome) = true := b
    rw [Bool.and_eq_true] at b
    obtain ⟨u, hu⟩ := Option.isSome_iff_exists.mp b.2
    exact ⟨z, u, rfl, b.1, hu⟩
  | _ => cases b
theorem nmOk_str (b : nmOk t = true) : ∃ z, t = .str z := by
  cases t with
  | str z => exact ⟨z, rfl⟩
  | _ => cases b
theorem one_deed (ok : okP fr) (hl : fr.length < 1000) (hM : 1000000 ≤ M) (R : Rows M l) (dk : DeedOk dd) (nu : dd ≠ .tup [.str "undo", .non, .non]) : Outc fr l M dd := by
  have l12 := R.len
  cases dk with
  | undo => exact absurd rfl nu
  | @put t p a b c =>
    cases nt : nmOk t with
    | false =>
      exact .inl ⟨20, by simp, fun h => due_name a.pl a.sz R.pu (by rw [if_pos rfl, nt]), fun h n m E k => told_put_no k (by simp) (put_name a.pl a.sz nt)⟩
    | true =>
      obtain ⟨z, rfl⟩ := nmOk_str nt
      have zl := nm_len nt
      have du := fun h => due_put (tab := tabT fr) (h := h) (p := p) nt b c R.pu (l := l) (by omega)
      cases pw : powL p with
      | false =>
        rw [pw] at du
        exact .inl ⟨18, by simp, fun h => du h, fun h n m E k => told_put_no k (by simp) (put_pow a.pl a.sz nt b pw)⟩
      | true =>
        rw [pw] at du
        by_cases q : getS l z = none ∧ l.length = 12
        · simp only [if_true, if_pos q] at du
          exact .inl ⟨12, by simp, fun h => du h, fun h n m E k => told_put_no k (by simp) (put_many k (by omega) nt b pw q.1 q.2)⟩
        · simp only [if_true, if_neg q] at du
          obtain ⟨ns, rfl, l10, nn, mx⟩ := right_pow (powL_nn pw)
          rw [pw] at mx
          have mx := of_decide_eq_true mx.symm
          rw [maxL_le (by intro y; rw [y] at l10; cases l10)] at mx
          obtain ⟨es, rfl, el, eb⟩ : ∃ es : List Nat, ns = nI es ∧ es.length = 10 ∧ ∀ e ∈ es, e ≤ M := by
            refine ⟨ns.map Int.toNat, ?_, by simp [l10], fun e he => ?_⟩
            · unfold nI
              rw [List.map_map]
              conv => lhs; rw [← List.map_id ns]
              refine List.map_congr_left fun x hx => ?_
              have := nn x hx
              show x = Int.ofNat x.toNat
              simp only [Int.ofNat_eq_natCast]
              omega
            · obtain ⟨x, hx, rfl⟩ := List.mem_map.mp he
              have := mx x hx
              omega
          refine .inr ⟨.non, _, .inl rfl, (R.put (st := 0) nt el eb fun g d => q ⟨g, d⟩).mono (by omega), fun h => du h, fun h n m E hE k => told_put k (put_ok k (by omega) nt b c pw (fun g d => q ⟨g, d⟩) R.pu (by omega) hE)⟩
  | @run t cnt a b =>
    cases th : thereB l t with
    | false =>
      exact .inl ⟨20, by simp, fun h => due_name a.pl a.sz R.pu (by rw [if_neg (by decide +kernel), th]), fun h n m E k => told_run_no k (by simp) (run_no k a.pl a.sz th)⟩
    | true =>
      obtain ⟨z, u, rfl, nt, g⟩ := thereB_str th
      obtain ⟨es, st, rfl, l10, eb⟩ := R.get g
      have zl := nm_len nt
      obtain ⟨m, m1, m2, m3⟩ := stop9 fr (nI es) cnt
      obtain ⟨fs, ef, fl, fb⟩ := run_bound ok l10 eb m
      have hx : (nI es).length = 10 := by simp [nI, l10]
      refine .inr ⟨tN m, putS l z (rowB (iT (runP fr (nI es) m)) (st + m)), .inr ⟨m, rfl⟩, ?_, fun h => due_run nt g hx (by omega) m1 m2 m3 R.pu (by omega), fun h n m' E hE k => told_run k (run_ok k (by omega) nt g (leapt_eq ok hl l10 eb (by omega) m1 m2 m3) pu_iT R.pu (by omega) hE)⟩
      rw [ef]
      exact (R.mono (N := M + 8000) (by omega)).put nt fl (fun e he => by have := fb e he; omega) (fun g2 => by rw [g] at g2; cases g2)
  | @drop t a =>
    cases th : thereB l t with
    | false =>
      exact .inl ⟨20, by simp, fun h => due_name a.pl a.sz R.pu (by rw [if_neg (by decide +kernel), th]), fun h n m E k => told_drop_no k (by simp) (drop_no k a.pl a.sz th)⟩
    | true =>
      obtain ⟨z, u, rfl, nt, g⟩ := thereB_str th
      have zl := nm_len nt
      exact .inr ⟨.non, dropS l z, .inl rfl, R.drop.mono (by omega), fun h => due_drop nt g R.pu (by omega), fun h n m E hE k => told_drop k (drop_ok k (by omega) nt g R.pu (by omega) hE)⟩
end
end Gd
namespace Gd
open PySem PySem.Spec PyProof.Rows L2 Sm
def addAt (f : Nat → Int) (l : List (Nat × Int)) : Nat → Int := l.foldl (fun f p => upd f p.1 (f p.1 + p.2)) f
section
variable {h : Store} {l : List (Nat × Int)}
end
end Gd
namespace Gd
open PySem PySem.Spec PyProof.Rows L2 Sm
section
variable {a b c m n : Nat} (ha : a < 10) (hb : b < 10) (hc : c < 10) (ab : a ≠ b) (ac : a ≠ c) (bc : b ≠ c)
include ha hb hc ab ac bc
end
section
variable {b n : Nat} (hb : b < 10)
include hb
end
end Gd
namespace Gd
open PySem PySem.Spec PyProof.Rows L2 Sm
theorem prod_loopG {gs : List (Nat × List T)} {ps es : List Nat} {h : Store} {P : Pst} (go : gsOk h gs) (hp : ∀ p ∈ ps, p < 2 ^ 64) (hl : es.length = ps.length) (he : ∀ e ∈ es, e < 1000)
    (q : P.nx [none, some (tN (prodOf ps es)), none, none, none] h) :
    (forLoop gs (.tup [3, 2]) [0, 2, 3, 4] (sFor (mRange1 (mCons (mVar 2) mNil)) (.one 4) [0, 2, 4] (sSet 1 (mBin fMul (mVar 1) (mVar 3)))) ((ps.zip es).map fun p => T.tup [tN p.1, tN p.2]) [none, some (.int 1), none, none, none] h).wp P := by
  refine forLoop_wp _ (fun i env h' => i ≤ ps.length ∧ h' = h ∧ ∃ k : Nat, env = [none, some (tN k), none, none, none] ∧ k * prodOf (ps.drop i) (es.drop i) = prodOf ps es) ?_ ?_ ⟨Nat.zero_le _, rfl, 1, rfl, by simp⟩
  · rintro i x env h' hx ⟨hi, rfl, k, rfl, ek⟩
    rw [List.getElem?_map, Option.map_eq_some_iff] at hx
    obtain ⟨⟨p, e⟩, hz, rfl⟩ := hx
    rw [List.getElem?_zip_eq_some] at hz
    obtain ⟨h1, h2⟩ := hz
    have il : i < ps.length := (List.getElem?_eq_some_iff.mp h1).1
    have il2 : i < es.length := (List.getElem?_eq_some_iff.mp h2).1
    have pe := hp p (List.mem_of_getElem? h1)
    have ee := he e (List.mem_of_getElem? h2)
    refine ⟨go, _, b_tup, ?_⟩
    have dr : ps.drop i = p :: ps.drop (i + 1) := by rw [List.drop_eq_getElem_cons il]; congr 1; exact (List.getElem?_eq_some_iff.mp h1).2
    have ds : es.drop i = e :: es.drop (i + 1) := by rw [List.drop_eq_getElem_cons il2]; congr 1; exact (List.getElem?_eq_some_iff.mp h2).2
    rw [dr, ds] at ek
    simp only [prodOf] at ek
    have e0 : setT [3, 2] [tN p, tN e] [none, some (tN k), none, none, none] = [none, some (tN k), some (tN e), some (tN p), none] := rfl
    dsimp only
    rw [e0]
    rw [sFor_of (range1_of (r := mCons (mVar 2) mNil) (e := e) rfl ee)]
    simp only [drop_cons, drop_nil, List.set_cons_succ, List.set_cons_zero]
    refine forLoop_wp _ (fun j env h2 => h2 = h' ∧ env = [none, some (tN (k * p ^ j)), none, some (tN p), none]) ?_ ?_ ⟨rfl, by simp⟩
    · rintro j y env h2 hy ⟨rfl, rfl⟩
      obtain ⟨rfl, hj⟩ := range_at hy
      refine ⟨by simp, _, b_one, ?_⟩
      have mb : mulB ((k * p ^ j : Nat) : Int) (p : Int) = true := mulN pe
      obtain ⟨w, hw⟩ : ∃ w, w = k * p ^ j := ⟨_, rfl⟩
      rw [← hw] at mb ⊢
      simp [tN, mb]
      rw [hw]
      simp [Int.pow_succ, Int.mul_assoc]
    · rintro env h2 ⟨rfl, rfl⟩
      refine ⟨by simp, ?_⟩
      rw [Sm.rangeT_length]
      refine ⟨il, rfl, k * p ^ e, by simp [tN], ?_⟩
      rw [Nat.mul_assoc]
      exact ek
  · rintro env h' ⟨hi, rfl, k, rfl, ek⟩
    refine ⟨go, ?_⟩
    rw [List.length_map, List.length_zip, hl, Nat.min_self, List.drop_length] at ek
    rw [show prodOf [] (es.drop ps.length) = 1 from rfl, Nat.mul_one] at ek
    rw [ek]
    exact q
section
variable {a b c x y k u q : Nat} {h : Store} {w : Int} {Q : T → Store → Prop} {X : Ex → Store → Prop}
theorem cell0 {env : Env'} {h : Store} : mCell (mNew2 fRep (mFrz (mLst (mCons (mC (.int 0)) mNil))) (mC (.int 10))) env h = .ok (.loc h.length) (h ++ [.lst ((lnN fun _ => 0).map tN)]) := by
  have r0 : fRep (.lst [.int 0]) (.int 10) h = some ((lnN fun _ => 0).map tN) := rfl
  simp only [q1_cell, q1_new2, q1_frz, q1_lst, q1_cons, q1_C, q1_nil, bind_ok, List.length_cons, List.length_nil, ofO_some]
  rw [if_pos (by decide)]
  simp only [bind_ok, r0, ofO_some, pus_tN, if_true]
end
end Gd
namespace Gd
open PySem PySem.Spec PyProof.Rows L2 Sm
section
variable {h : Store} {n m k a b : Nat} {v : Int} {t u e : Nat → Nat} {Q : T → Store → Prop} {X : Ex → Store → Prop}
theorem sum_mono {f g : Nat → Nat} (k : ∀ i, f i ≤ g i) : ∀ l : List Nat, (l.map f).sum ≤ (l.map g).sum
  | [] => Nat.le_refl _
  | x :: r => by
    have := sum_mono k r
    have := k x
    simp only [List.map_cons, List.sum_cons]
    omega
theorem sub_sum : (lnN fun i => t i - u i).sum ≤ (lnN t).sum := sum_mono (fun i => Nat.sub_le _ _) _
theorem ln_lt (hs : (lnN e).sum ≤ 100) : ∀ x ∈ lnN e, x < 1000 := fun x hx => by
  have := single_le_sum hx
  omega
def frac2 (t u : Nat → Nat) : Fr := (prodOf PR (lnN fun i => t i - u i), prodOf PR (lnN fun i => u i - t i))
theorem frac2_ok (ht : (lnN t).sum ≤ 7) (hu : (lnN u).sum ≤ 7) : okFr (frac2 t u) :=
  okFr_ln (Nat.le_trans sub_sum ht) (Nat.le_trans sub_sum hu) fun i _ => by omega
end
end Gd
namespace Gd
open PySem PySem.Spec PyProof.Rows L2 Sm
section
variable {h : Store} {n m k a b : Nat} {v : Int} {t u e : Nat → Nat} {Q : T → Store → Prop} {X : Ex → Store → Prop}
theorem frT_pu {p : Fr} : (frT p).pu = true := by simp [frT, tN]
theorem frs_pu {fr : List Fr} : pus (fr.map frT) = true := pus_map fun p => frT_pu
end
end Gd
namespace Gd
open PySem PySem.Spec PyProof.Rows L2 Sm
def St (h : Store) (n : Nat) (w : Int) (fr : List Fr) (l : Store) : Store := pst h n w ++ [Cell.lst (fr.map frT)] ++ l
section
variable {h l l1 l2 : Store} {n m k a b p v : Nat} {w w' : Int} {t u e : Nat → Nat} {fr fr' : List Fr} {c c' : Cell} {env : Env'} {Q : T → Store → Prop} {X : Ex → Store → Prop}
theorem St_len : (St h n w fr l).length = h.length + 1 + l.length := by
  simp [St]
  omega
theorem St_app : St h n w fr l ++ l2 = St h n w fr (l ++ l2) := by simp [St]
theorem St_pst (hn : n < h.length) : pst (St h n w fr l) n w' = St h n w' fr l := by
  unfold St
  rw [List.append_assoc, pst_app2 hn, List.append_assoc]
theorem St_lt (hn : n < h.length) : n < (St h n w fr l).length := by
  rw [St_len]
  omega
theorem St_get : (St h n w fr (l1 ++ c :: l2))[h.length + 1 + l1.length]? = some c := by
  have e : h.length + 1 + l1.length = (pst h n w ++ [Cell.lst (fr.map frT)] ++ l1).length := by
    simp
    omega
  rw [St, ← List.append_assoc, e]
  simp
theorem St_put : (St h n w fr (l1 ++ c :: l2)).set (h.length + 1 + l1.length) c' = St h n w fr (l1 ++ c' :: l2) := by
  have e : h.length + 1 + l1.length = (pst h n w ++ [Cell.lst (fr.map frT)] ++ l1).length := by
    simp
    omega
  rw [St, St, ← List.append_assoc, ← List.append_assoc, e, List.set_append_right _ _ (Nat.le_refl _), Nat.sub_self]
  rfl
theorem St_found : (St h n w fr l)[h.length]? = some (.lst (fr.map frT)) := by
  unfold St
  rw [List.getElem?_append_left (by simp)]
  exact at_end pst_len
theorem St_setf : (St h n w fr l).set h.length (.lst (fr'.map frT)) = St h n w fr' l := by
  unfold St
  rw [List.set_append_left _ _ (by simp), set_end pst_len]
theorem St_take (hn : n < h.length) : (St h n w fr l).take h.length = pst h n w := by
  unfold St
  rw [List.append_assoc, take_pst_app]
theorem St_si : sameIns h (St h n w fr l) := by
  unfold St
  rw [List.append_assoc]
  exact si_pst_app
theorem takeS {far : Int} (hn : n < h.length) (w0 : 0 ≤ w) (f0 : 0 < far) (f1 : far < 2 ^ 64) : F_law_take [.loc n, .int far] (St h n w fr l) = .ok (.int (w % far)) (St h n (w / far) fr l) := by
  have := take_1 (h := St h n w fr l) (n := n) (v := w) (far := far) (St_lt hn) w0 f0 f1
  rwa [St_pst hn, St_pst hn] at this
theorem appendS {y : Fr} (fl : fr.length < 1000) : outM (fAppend (.loc h.length) [frT y] (St h n w fr l)) = .ok .non (St h n w (fr ++ [y]) l) := by
  rw [q4_append St_found (by rw [List.length_map]; omega) frT_pu]
  rw [show fr.map frT ++ [frT y] = (fr ++ [y]).map frT by simp, St_setf]
theorem loS : lstOf (St h n w fr l) (.loc h.length) = some (fr.map frT) := by simp only [lstOf, St_found]
theorem upd_up {d : Nat} : (lnN (upd e d (e d + 1))).sum ≤ (lnN e).sum + 1 := by
  by_cases c : d < 10
  · rw [ln_sum, ln_sum]
    have : d = 0 ∨ d = 1 ∨ d = 2 ∨ d = 3 ∨ d = 4 ∨ d = 5 ∨ d = 6 ∨ d = 7 ∨ d = 8 ∨ d = 9 := by omega
    rcases this with rfl | rfl | rfl | rfl | rfl | rfl | rfl | rfl | rfl | rfl <;> simp [upd] <;> omega
  · have : lnN (upd e d (e d + 1)) = lnN e := lnN_ext fun i hi => by
      unfold upd
      rw [if_neg (by omega)]
    rw [this]
    omega
theorem retS {X : Ex → Store → Prop} {env : Env'} {i : Nat} (hn : n < h.length) (e : env[i]? = some (some (.loc h.length))) (q : Q (prT fr) (pst h n w)) : ((sRet (mCallF fTuple (mCons (mVar i) mNil))) env (St h n w fr l)).wp (fnP h Q X) := by
  have tp := tup_loc (St_found (h := h) (n := n) (w := w) (fr := fr) (l := l))
  simp -implicitDefEqProofs only [q2_ret, q1_callF, q1_cons, q1_nil, q1_var, e, bind_ok, tp, ofO_some, bindE_ok, so_rt]
  exact ⟨St_si, .inl ⟨by rw [pu_tup]; exact frs_pu, by rw [St_take hn]; exact q⟩⟩
end
end Gd
namespace Gd
open PySem PySem.Spec PyProof.Rows L2 Sm
@[irreducible] noncomputable def lapC : MS := (sFor (mRange1 (mCons (mBin fAdd (mC (.int 1)) (mCall F_law_take (mCons (mVar 0) (mCons (mC (.int 2)) mNil)))) mNil)) (.one 6) [2, 3, 5, 6, 7, 10, 11]
  (sItemAug (mVar 8) (mBin fIdx (mVar 1) (mCall F_law_take (mCons (mVar 0) (mCons (mCallF fLen (mCons (mVar 1) mNil)) mNil)))) (mC (.int 1))))
@[irreducible] noncomputable def turnC : MS := (sSeq (sSet 8 (mCell (mNew2 fRep (mFrz (mLst (mCons (mC (.int 0)) mNil))) (mC (.int 10)))))
  (sSeq lapC
  (sExp (mMethL fAppend (mVar 9) (mCons (mVar 8) mNil)))))
@[irreducible] noncomputable def restC : MS := (sSeq (sSet 7 (mFrz (mComp (mZip (mCons (mBin fIdx (mVar 9) (mC (.int 0))) (mCons (mBin fIdx (mVar 9) (mC (.int 1))) mNil))) [12, 13] (.tup [12, 13]) mYes (mCallF fMin (mCons (mVar 12) (mCons (mVar 13) mNil))))))
  (sSeq (sSet 10 (mCall F_law_product (mCons (mFrz (mComp (mZip (mCons (mBin fIdx (mVar 9) (mC (.int 0))) (mCons (mVar 7) mNil))) [12, 13] (.tup [12, 13]) mYes (mBin fSub (mVar 12) (mVar 13)))) mNil)))
  (sExp (mMethL fAppend (mVar 4) (mCons (mTup (mCons (mVar 10) (mCons (mCall F_law_product (mCons (mFrz (mComp (mZip (mCons (mBin fIdx (mVar 9) (mC (.int 1))) (mCons (mVar 7) mNil))) [12, 13] (.tup [12, 13]) mYes (mBin fSub (mVar 12) (mVar 13)))) mNil)) mNil))) mNil)))))
@[irreducible] noncomputable def bodyC : MS := (sSeq (sSet 9 (mCell (mLst mNil)))
  (sSeq (sFor (mRange1 (mCons (mC (.int 2)) mNil)) (.one 11) [2, 3, 5, 6, 7, 8, 10, 11]
  turnC)
  restC))
theorem calm_is : b_law_calm_program = (sSeq (sSet 3 (mCall F_law_program (mCons (mVar 0) (mCons (mVar 1) (mCons (mVar 2) mNil)))))
  (sSeq (sIf (mTst (mBin fEq (mCall F_law_take (mCons (mVar 0) (mCons (mC (.int 3)) mNil))) (mC (.int 0))))
  (sRet (mVar 3))
  sNil)
  (sSeq (sSet 4 (mCell (mLst mNil)))
  (sSeq (sFor (mRange1 (mCons (mBin fAdd (mC (.int 1)) (mCall F_law_take (mCons (mVar 0) (mCons (mVar 2) mNil)))) mNil)) (.one 5) [2, 3, 5, 6, 7, 8, 9, 10, 11]
  bodyC)
  (sRet (mCallF fTuple (mCons (mVar 4) mNil))))))) := by
  unfold bodyC restC turnC lapC
  rfl
section
variable {h h1 : Store} {n m k most : Nat} {w w' v : Int} {fr : List Fr} {l l1 l2 : Store} {t u e : Nat → Nat} {ps : List Nat} {env : Env'} {Q : T → Store → Prop} {X : Ex → Store → Prop} {a0 : Option T}
theorem itemAug_ok {mo mi mv : M T} {xs : List T} {i : Nat} {x y : Int} (e1 : mo env h = .ok (.loc m) h) (e2 : mi env h = .ok (tN i) h1) (e3 : h1[m]? = some (.lst xs)) (hi : i < 100000) (e4 : xs[i]? = some (.int x)) (e5 : mv env h1 = .ok (.int y) h1) :
    sItemAug mo mi mv env h = .nx env (h1.set m (.lst (xs.set i (.int (x + y))))) := by
  have lt := (List.getElem?_eq_some_iff.mp e4).1
  have cl : cellL h1 m = some xs := by unfold cellL; rw [e3]
  have c1 : (0 : Int) ≤ (i : Int) ∧ (i : Int) < 100000 := by omega
  have c2 : (0 : Int) ≤ (i : Int) ∧ (i : Int) < (xs.length : Int) := by omega
  unfold sItemAug
  rw [e1, bindE_ok, e2, bindE_ok]
  show (match cellL h1 m with
    | some xs => if 0 ≤ (i : Int) ∧ (i : Int) < 100000 then match xs[(i : Int).toNat]? with
      | some (.int x) => bindE (mv env h1) env fun y h3 => match y with
        | .int y => Sm.addAt m i x y env h3
        | _ => .bad
      | _ => .bad
      else .bad
    | none => .bad) = _
  rw [cl]
  simp only [if_pos c1, Int.toNat_natCast, e4, e5, bindE_ok]
  unfold Sm.addAt
  rw [cl]
  simp only [if_pos c2, Int.toNat_natCast]
theorem product_lst {es : List Nat} (hl : es.length = 10) (he : ∀ e ∈ es, e < 1000) : F_law_product [.lst (es.map tN)] h = .ok (tN (prodOf PR es)) h := by
  refine Out.wp_eq' (fn_wp rfl ?_)
  show (b_law_product [some (.lst (es.map tN)), none, none, none, none] h).wp _
  simp [b_law_product, sFor, so_seq, mZip, primes_eq, seqK, gdOf, zip_pairs2]
  refine prod_loopG (gs := []) (ps := PR) (by simp) (fun p hp => (PR_ok p hp).2) (by rw [hl]; rfl) he ?_
  simp [fnP, tN]
abbrev lnT (e : Nat → Nat) : List T := (lnN e).map tN
theorem lnT_rng : lnT e = (List.range 10).map fun i => tN (e i) := by
  unfold lnT lnN
  rw [List.map_map]
  rfl
theorem lnT_at {d : Nat} (hd : d < 10) : (lnT e)[d]? = some (tN (e d)) := by
  rw [lnT_rng, List.getElem?_map, List.getElem?_range hd]
  rfl
theorem lnT_zip {rr : M (List T)} {g : Nat → Nat} {me : M T} (er : rr env h = .ok [.lst (lnT t), .lst (lnT u)] h) (el : ∀ i : Nat, me (setT [12, 13] [tN (t i), tN (u i)] (dropE [12, 13] env)) h = .ok (tN (g i)) h) :
    mComp (mZip rr) [12, 13] (.tup [12, 13]) mYes me env h = .ok (lnT g) h := by
  have es : mZip rr env h = .ok ⟨(List.range 10).map fun i => pairT (tN (t i)) (tN (u i)), []⟩ h := by
    rw [src_zipA er, lnT_rng, lnT_rng, zw_map]
  rw [comp_map (fun i : Nat => tN (g i)) es (by decide) fun i _ => ⟨_, b_tup, el i⟩, lnT_rng]
theorem minN {i j : Nat} : fMin [tN i, tN j] h = some (tN (min i j)) := by
  show some (T.int (if (j : Int) < (i : Int) then (j : Int) else (i : Int))) = some (T.int _)
  congr 2
  split <;> omega
theorem subMin {i j : Nat} : fSub (tN i) (tN (min i j)) h = some (tN (i - j)) := by
  show some (T.int _) = some (T.int _)
  congr 2
  omega
theorem subMin2 {i j : Nat} : fSub (tN j) (tN (min i j)) h = some (tN (j - i)) := by
  show some (T.int _) = some (T.int _)
  congr 2
  omega
theorem lapC_wp {P : Pst} {b9 b11 : Option T} (hn : n < h.length) (w0 : 0 ≤ w) (h0 : ps ≠ []) (h9 : ps.length < 1000) (hp : ∀ p ∈ ps, p < 10)
    (q : ∀ e w, 0 ≤ w → (lnN e).sum ≤ 2 → P.nx [some (.loc n), some (.tup (ps.map tN)), none, none, some (.loc h.length), none, none, none, some (.loc (h.length + 1 + l.length)), b9, none, none, none, none] (St h n w fr (l ++ [.lst (lnT e)]))) :
    (lapC [some (.loc n), some (.tup (ps.map tN)), none, none, some (.loc h.length), none, none, none, some (.loc (h.length + 1 + l.length)), b9, none, b11, none, none] (St h n w fr (l ++ [.lst (lnT fun _ => 0)]))).wp P := by
  have t1 := takeS (h := h) (n := n) (w := w) (fr := fr) (l := l ++ [.lst (lnT fun _ => 0)]) (far := 2) hn w0 (by omega) (by omega)
  obtain ⟨c, ec, c2⟩ : ∃ c : Nat, (∀ S : Store, fAdd (.int 1) (.int (w % 2)) S = some (tN c)) ∧ c ≤ 2 := ⟨(1 + w % 2).toNat, fun S => by show some (T.int _) = some (T.int _); congr 2; omega, by omega⟩
  have w1 : 0 ≤ w / 2 := by omega
  unfold lapC
  rw [sFor_of (range_of (h1 := St h n (w / 2) fr (l ++ [.lst (lnT fun _ => 0)])) (e := c) (by
    simp -implicitDefEqProofs only [q1_cons, q1_bin, q1_call, q1_C, q1_var, q1_nil, List.getElem?_cons_zero, bind_ok, t1, ec, ofO_some]) (by omega))]
  refine forLoop_wp _ (fun i env h' => ∃ e w, 0 ≤ w ∧ (lnN e).sum ≤ i ∧ env = [some (.loc n), some (.tup (ps.map tN)), none, none, some (.loc h.length), none, none, none, some (.loc (h.length + 1 + l.length)), b9, none, none, none, none] ∧ h' = St h n w fr (l ++ [.lst (lnT e)])) ?_ ?_ ⟨fun _ => 0, w / 2, w1, by decide, by simp, rfl⟩
  · rintro i x env h' hx ⟨e, w, w0, es, rfl, rfl⟩
    obtain ⟨rfl, hi⟩ := range_at hx
    refine ⟨by simp, _, b_one, ?_⟩
    have pl : 0 < ps.length := List.length_pos_iff.mpr h0
    have t2 := takeS (h := h) (n := n) (w := w) (fr := fr) (l := l ++ [.lst (lnT e)]) (far := (ps.length : Int)) hn w0 (by omega) (by omega)
    have b1 := Int.emod_nonneg w (show (ps.length : Int) ≠ 0 by omega)
    have b2 := Int.emod_lt_of_pos w (show (0 : Int) < (ps.length : Int) by omega)
    have w1 : 0 ≤ w / (ps.length : Int) := Int.ediv_nonneg w0 (by omega)
    obtain ⟨j, ej, hj⟩ : ∃ j : Nat, w % (ps.length : Int) = (j : Int) ∧ j < ps.length := ⟨(w % (ps.length : Int)).toNat, by omega, by omega⟩
    rw [ej] at t2
    generalize w / (ps.length : Int) = w2 at t2 w1
    have ln : ∀ S : Store, fLen [.tup (ps.map tN)] S = some (.int (ps.length : Int)) := fun S => by simp
    have ix : ∀ S : Store, fIdx (.tup (ps.map tN)) (.int (j : Int)) S = some (tN ps[j]) := fun S => by
      rw [q3_idx, atI_p (by omega) (by rw [List.length_map]; omega), Int.toNat_natCast, List.getElem?_map, List.getElem?_eq_getElem hj]
      rfl
    have pj := hp ps[j] (List.getElem_mem hj)
    have sa := itemAug_ok (mo := mVar 8) (mi := mBin fIdx (mVar 1) (mCall F_law_take (mCons (mVar 0) (mCons (mCallF fLen (mCons (mVar 1) mNil)) mNil)))) (mv := mC (.int 1)) (env := [some (.loc n), some (.tup (ps.map tN)), none, none, some (.loc h.length), none, some (.int (0 + (i : Int))), none, some (.loc (h.length + 1 + l.length)), b9, none, none, none, none]) (h := St h n w fr (l ++ [.lst (lnT e)])) (h1 := St h n w2 fr (l ++ [.lst (lnT e)])) (m := h.length + 1 + l.length) (xs := lnT e) (i := ps[j]) (x := (e ps[j] : Int)) (y := 1)
      (by simp) (by simp -implicitDefEqProofs only [q1_bin, q1_call, q1_callF, q1_cons, q1_nil, q1_var, List.getElem?_cons_zero, List.getElem?_cons_succ, bind_ok, ln, ofO_some, t2, ix]) St_get (by omega) (lnT_at pj) rfl
    rw [St_put] at sa
    have es2 : (lnT e).set ps[j] (.int ((e ps[j] : Int) + 1)) = lnT (upd e ps[j] (e ps[j] + 1)) := by
      show ((lnN e).map tN).set ps[j] (tN (e ps[j] + 1)) = _
      rw [← List.map_set, lnN_set]
    rw [es2] at sa
    simp -implicitDefEqProofs only [List.set]
    rw [sa]
    refine ⟨_, w2, w1, ?_, rfl, rfl⟩
    have := upd_up (e := e) (d := ps[j])
    omega
  · rintro env h' ⟨e, w, w0, es, rfl, rfl⟩
    rw [Sm.rangeT_length] at es
    exact ⟨by simp, q e w w0 (by omega)⟩
theorem turnC_wp {P : Pst} {b11 : Option T} {sides : List T} (hn : n < h.length) (w0 : 0 ≤ w) (h0 : ps ≠ []) (h9 : ps.length < 1000) (hp : ∀ p ∈ ps, p < 10) (sl : sides.length < 1000)
    (q : ∀ e w b8, 0 ≤ w → (lnN e).sum ≤ 2 → P.nx [some (.loc n), some (.tup (ps.map tN)), none, none, some (.loc h.length), none, none, none, b8, some (.loc (h.length + 1 + l.length)), none, none, none, none] (St h n w fr (l ++ .lst (sides ++ [.lst (lnT e)]) :: (l2 ++ [.dead])))) :
    (turnC [some (.loc n), some (.tup (ps.map tN)), none, none, some (.loc h.length), none, none, none, none, some (.loc (h.length + 1 + l.length)), none, b11, none, none] (St h n w fr (l ++ .lst sides :: l2))).wp P := by
  have c0 := fun env => cell0 (env := env) (h := St h n w fr (l ++ .lst sides :: l2))
  rw [St_len, St_app] at c0
  unfold turnC
  simp -implicitDefEqProofs only [q2_seq, q2_set, c0, bindE_ok, seq_nx, List.set, so_seq]
  refine lapC_wp (l := l ++ .lst sides :: l2) hn w0 h0 h9 hp fun e w w0 es => ?_
  have g1 : (St h n w fr ((l ++ .lst sides :: l2) ++ [.lst (lnT e)]))[h.length + 1 + l.length]? = some (.lst sides) := by
    rw [List.append_assoc, List.cons_append]
    exact St_get
  have g2 : (St h n w fr ((l ++ .lst sides :: l2) ++ [.lst (lnT e)]))[h.length + 1 + (l ++ .lst sides :: l2).length]? = some (.lst (lnT e)) := St_get
  have ne : h.length + 1 + (l ++ Cell.lst sides :: l2).length ≠ h.length + 1 + l.length := by simp
  have ap : fAppend (.loc (h.length + 1 + l.length)) [.loc (h.length + 1 + (l ++ Cell.lst sides :: l2).length)] (St h n w fr ((l ++ .lst sides :: l2) ++ [.lst (lnT e)])) = some (.non, St h n w fr (l ++ .lst (sides ++ [.lst (lnT e)]) :: (l2 ++ [.dead]))) := by
    unfold fAppend cellL
    simp only [g1, T.pu, Bool.false_eq_true, and_false, if_false]
    unfold fMove cellL
    simp only [g2]
    rw [if_pos ⟨ne, by omega⟩, St_put, List.append_assoc, List.cons_append, St_put]
  have lo : lstOf (St h n w fr ((l ++ .lst sides :: l2) ++ [.lst (lnT e)])) (.loc (h.length + 1 + l.length)) = some sides := by simp only [lstOf, g1]
  simp -implicitDefEqProofs only [q2_exp, q1_meth, q1_var, q1_cons, q1_nil, List.getElem?_cons_zero, List.getElem?_cons_succ, bind_ok, lo, ap, outM, bindE_ok, so_nx]
  exact q e w _ w0 es
theorem restC_wp {P : Pst} (hn : n < h.length) (fl : fr.length < 900) (st : (lnN t).sum ≤ 2) (su : (lnN u).sum ≤ 2)
    (q : ∀ b7 b10, P.nx [some (.loc n), some (.tup (ps.map tN)), none, none, some (.loc h.length), none, none, b7, none, some (.loc (h.length + 1 + l.length)), b10, none, none, none] (St h n w (fr ++ [frac2 t u]) (l ++ .lst [.lst (lnT t), .lst (lnT u)] :: l2))) :
    (restC [some (.loc n), some (.tup (ps.map tN)), none, none, some (.loc h.length), none, none, none, none, some (.loc (h.length + 1 + l.length)), none, none, none, none] (St h n w fr (l ++ .lst [.lst (lnT t), .lst (lnT u)] :: l2))).wp P := by
  have g1 : (St h n w fr (l ++ .lst [.lst (lnT t), .lst (lnT u)] :: l2))[h.length + 1 + l.length]? = some (.lst [.lst (lnT t), .lst (lnT u)]) := St_get
  have ap : outM (fAppend (.loc h.length) [frT (frac2 t u)] (St h n w fr (l ++ .lst [.lst (lnT t), .lst (lnT u)] :: l2))) = .ok .non (St h n w (fr ++ [frac2 t u]) (l ++ .lst [.lst (lnT t), .lst (lnT u)] :: l2)) := appendS (by omega)
  have lo : lstOf (St h n w fr (l ++ .lst [.lst (lnT t), .lst (lnT u)] :: l2)) (.loc h.length) = some (fr.map frT) := loS
  generalize St h n w fr (l ++ .lst [.lst (lnT t), .lst (lnT u)] :: l2) = S at g1 ap lo ⊢
  have i0 : fIdx (.loc (h.length + 1 + l.length)) (.int 0) S = some (.lst (lnT t)) := by rw [q3_idxC g1, atI_0]
  have i1 : fIdx (.loc (h.length + 1 + l.length)) (.int 1) S = some (.lst (lnT u)) := by rw [q3_idxC g1, atI_1]
  have i2 : ∀ {α : Type} (u v : α), (if 0 + 1 + 1 ≤ 10000 then u else v) = u := fun u v => if_pos (by decide)
  have p1 := product_lst (h := S) (es := lnN fun i => t i - u i) rfl (ln_lt (Nat.le_trans sub_sum (by omega)))
  have p2 := product_lst (h := S) (es := lnN fun i => u i - t i) rfl (ln_lt (Nat.le_trans sub_sum (by omega)))
  have c7 := lnT_zip (h := S) (t := t) (u := u) (g := fun i => min (t i) (u i)) (me := mCallF fMin (mCons (mVar 12) (mCons (mVar 13) mNil))) (rr := mCons (mBin fIdx (mVar 9) (mC (.int 0))) (mCons (mBin fIdx (mVar 9) (mC (.int 1))) mNil)) (env := [some (.loc n), some (.tup (ps.map tN)), none, none, some (.loc h.length), none, none, none, none, some (.loc (h.length + 1 + l.length)), none, none, none, none])
    (by simp -implicitDefEqProofs only [q1_cons, q1_bin, q1_var, q1_C, q1_nil, List.getElem?_cons_zero, List.getElem?_cons_succ, bind_ok, i0, i1, ofO_some]) fun i => by
      simp -implicitDefEqProofs only [setT, drop_cons, drop_nil, List.set, q1_callF, q1_cons, q1_var, q1_nil, List.getElem?_cons_zero, List.getElem?_cons_succ, bind_ok, minN, ofO_some]
  have c10 := lnT_zip (h := S) (t := t) (u := fun i => min (t i) (u i)) (g := fun i => t i - u i) (me := mBin fSub (mVar 12) (mVar 13)) (rr := mCons (mBin fIdx (mVar 9) (mC (.int 0))) (mCons (mVar 7) mNil)) (env := [some (.loc n), some (.tup (ps.map tN)), none, none, some (.loc h.length), none, none, some (.lst (lnT fun i => min (t i) (u i))), none, some (.loc (h.length + 1 + l.length)), none, none, none, none])
    (by simp -implicitDefEqProofs only [q1_cons, q1_bin, q1_var, q1_C, q1_nil, List.getElem?_cons_zero, List.getElem?_cons_succ, bind_ok, i0, ofO_some]) fun i => by
      simp -implicitDefEqProofs only [setT, drop_cons, drop_nil, List.set, q1_bin, q1_var, List.getElem?_cons_zero, List.getElem?_cons_succ, bind_ok, subMin, ofO_some]
  have c11 := fun b10 => lnT_zip (h := S) (t := u) (u := fun i => min (t i) (u i)) (g := fun i => u i - t i) (me := mBin fSub (mVar 12) (mVar 13)) (rr := mCons (mBin fIdx (mVar 9) (mC (.int 1))) (mCons (mVar 7) mNil)) (env := [some (.loc n), some (.tup (ps.map tN)), none, none, some (.loc h.length), none, none, some (.lst (lnT fun i => min (t i) (u i))), none, some (.loc (h.length + 1 + l.length)), b10, none, none, none])
    (by simp -implicitDefEqProofs only [q1_cons, q1_bin, q1_var, q1_C, q1_nil, List.getElem?_cons_zero, List.getElem?_cons_succ, bind_ok, i1, ofO_some]) fun i => by
      simp -implicitDefEqProofs only [setT, drop_cons, drop_nil, List.set, q1_bin, q1_var, List.getElem?_cons_zero, List.getElem?_cons_succ, bind_ok, subMin2, ofO_some]
  unfold restC
  simp -implicitDefEqProofs only [q2_seq, q2_set, q1_frz, c7, bind_ok, bindE_ok, seq_nx, List.set, q1_call, q1_cons, q1_nil, c10, p1, q2_exp, q1_meth, q1_var, List.getElem?_cons_zero, List.getElem?_cons_succ, lo, q1_tup, c11, p2, List.length_cons, List.length_nil, i2]
  rw [show T.tup [tN (prodOf PR (lnN fun i => t i - u i)), tN (prodOf PR (lnN fun i => u i - t i))] = frT (frac2 t u) from rfl, ap]
  exact q _ _
theorem bodyC_wp {P : Pst} {b5 : Option T} (hn : n < h.length) (w0 : 0 ≤ w) (h0 : ps ≠ []) (h9 : ps.length < 1000) (hp : ∀ p ∈ ps, p < 10) (fl : fr.length < 900)
    (q : ∀ y w l b7 b8 b9 b10, 0 ≤ w → okFr y → P.nx [some (.loc n), some (.tup (ps.map tN)), none, none, some (.loc h.length), none, none, b7, b8, b9, b10, none, none, none] (St h n w (fr ++ [y]) l)) :
    (bodyC [some (.loc n), some (.tup (ps.map tN)), none, none, some (.loc h.length), b5, none, none, none, none, none, none, none, none] (St h n w fr l)).wp P := by
  unfold bodyC
  simp -implicitDefEqProofs only [q2_seq, q2_set, q1_cell, q1_lst, q1_nil, bind_ok, List.length_nil, Nat.zero_le, if_true, pus_nil, bindE_ok, seq_nx, List.set, so_seq, St_len, St_app]
  rw [sFor_of (range_of (h1 := St h n w fr (l ++ [.lst []])) (e := 2) (by simp; rfl) (by omega))]
  refine forLoop_wp _ (fun i env h' => ∃ (es : List (Nat → Nat)) (w : Int) (l2 : Store), 0 ≤ w ∧ es.length = i ∧ (∀ e ∈ es, (lnN e).sum ≤ 2) ∧ env = [some (.loc n), some (.tup (ps.map tN)), none, none, some (.loc h.length), none, none, none, none, some (.loc (h.length + 1 + l.length)), none, none, none, none] ∧ h' = St h n w fr (l ++ .lst (es.map fun e => .lst (lnT e)) :: l2)) ?_ ?_ ⟨[], w, [], w0, rfl, fun e he => absurd he (by simp), by simp, by simp⟩
  · rintro i x env h' hx ⟨es, w, l2, w0, el, eb, rfl, rfl⟩
    obtain ⟨rfl, hi⟩ := range_at hx
    refine ⟨by simp, _, b_one, ?_⟩
    refine turnC_wp (sides := es.map fun e => .lst (lnT e)) hn w0 h0 h9 hp (by rw [List.length_map]; omega) fun e w b8 w0 eb2 => ⟨es ++ [e], w, l2 ++ [.dead], w0, by simp [el], fun f hf => ?_, rfl, by simp⟩
    rcases List.mem_append.mp hf with z | z
    · exact eb f z
    · rw [List.mem_singleton.mp z]
      exact eb2
  · rintro env h' ⟨es, w, l2, w0, el, eb, rfl, rfl⟩
    rw [Sm.rangeT_length] at el
    refine ⟨by simp, ?_⟩
    match es, el, eb with
    | [t, u], _, eb =>
      have st := eb t (by simp)
      have su := eb u (by simp)
      refine restC_wp (t := t) (u := u) hn fl st su fun b7 b10 => ?_
      exact q _ _ _ _ _ _ _ w0 (frac2_ok (by omega) (by omega))
theorem calm_wp (p : potAt h n v) (h0 : ps ≠ []) (h9 : ps.length < 1000) (hp : ∀ p ∈ ps, p < 10) (hm : 1 ≤ most ∧ most ≤ 15) (q : ∀ (fr : List Fr) w, 0 ≤ w → okP fr → 1 ≤ fr.length → fr.length ≤ most → Q (prT fr) (pst h n w)) : (F_law_calm_program [.loc n, .tup (ps.map tN), tN most] h).wp Q X := by
  refine fn_wp rfl ?_
  show (b_law_calm_program [some (.loc n), some (.tup (ps.map tN)), some (tN most), none, none, none, none, none, none, none, none, none, none, none] h).wp _
  have hn := p.lt
  rw [calm_is]
  simp -implicitDefEqProofs only [q2_seq, q2_set, so_seq, so_bindE, q1_call, q1_cons, q1_var, q1_nil, List.getElem?_cons_zero, List.getElem?_cons_succ, bind_ok, wp_bind]
  refine program_wpN (far := (most : Int)) p h0 h9 hp (by omega) (by omega) fun fs w w0 f1 f2 fo => ?_
  obtain ⟨fr, rfl, ok⟩ := okP_of fo
  rw [List.length_map] at f1 f2
  have t1 := take_1 (h := h) (n := n) (v := w) (far := 3) hn w0 (by omega) (by omega)
  have w1 : 0 ≤ w / 3 := by omega
  generalize w / 3 = w2 at t1 w1
  simp -implicitDefEqProofs only [wp_ok, so_nx, List.set, so_bindE, q2_if, q1_tst, q1_bin, q1_call, q1_cons, q1_nil, q1_var, q1_C, List.getElem?_cons_zero, List.getElem?_cons_succ, bind_ok, t1, q3_eq, ofO_some, asB_bl, bindE_ok]
  by_cases z : w % 3 = 0
  · rw [decide_eq_true z]
    simp -implicitDefEqProofs only [if_true, q2_ret, q1_var, List.getElem?_cons_zero, List.getElem?_cons_succ, bindE_ok, so_rt]
    exact ⟨si_pst, .inl ⟨by rw [pu_tup]; exact frs_pu, by rw [take_pst]; exact q fr w2 w1 ok f1 (by omega)⟩⟩
  · rw [decide_eq_false z]
    have t2 := takeS (h := h) (n := n) (w := w2) (fr := []) (l := []) (far := (most : Int)) hn w1 (by omega) (by omega)
    have b1 := Int.emod_nonneg w2 (show (most : Int) ≠ 0 by omega)
    have b2 := Int.emod_lt_of_pos w2 (show (0 : Int) < (most : Int) by omega)
    have w3 : 0 ≤ w2 / (most : Int) := Int.ediv_nonneg w1 (by omega)
    obtain ⟨c, ec, c1, c2⟩ : ∃ c : Nat, (∀ S : Store, fAdd (.int 1) (.int (w2 % (most : Int))) S = some (tN c)) ∧ 1 ≤ c ∧ c ≤ most := ⟨(1 + w2 % (most : Int)).toNat, fun S => by show some (T.int _) = some (T.int _); congr 2; omega, by omega, by omega⟩
    generalize w2 / (most : Int) = w4 at t2 w3
    have e0 : pst h n w2 ++ [Cell.lst []] = St h n w2 [] [] := by simp [St]
    simp -implicitDefEqProofs only [Bool.false_eq_true, if_false, q2_nil, so_nx, so_seq, q2_set, q1_cell, q1_lst, q1_nil, bind_ok, List.length_nil, Nat.zero_le, if_true, pus_nil, bindE_ok, List.set, e0, pst_len, wp_ok]
    rw [sFor_of (range_of (h1 := St h n w4 [] []) (e := c) (by
      simp -implicitDefEqProofs only [q1_cons, q1_bin, q1_call, q1_C, q1_var, q1_nil, List.getElem?_cons_zero, List.getElem?_cons_succ, bind_ok, show tN most = T.int (most : Int) from rfl, t2, ec, ofO_some]) (by omega))]
    refine forLoop_wp _ (fun i env h' => ∃ (fr : List Fr) (w : Int) (l : Store), 0 ≤ w ∧ okP fr ∧ fr.length = i ∧ env = [some (.loc n), some (.tup (ps.map tN)), none, none, some (.loc h.length), none, none, none, none, none, none, none, none, none] ∧ h' = St h n w fr l) ?_ ?_ ⟨[], w4, [], w3, fun x hx => absurd hx (by simp), rfl, by simp, rfl⟩
    · rintro i x env h' hx ⟨fr, w, l, w0, ok, fl, rfl, rfl⟩
      obtain ⟨rfl, hi⟩ := range_at hx
      refine ⟨by simp, _, b_one, ?_⟩
      show (bodyC [some (.loc n), some (.tup (ps.map tN)), none, none, some (.loc h.length), some (.int (0 + (i : Int))), none, none, none, none, none, none, none, none] (St h n w fr l)).wp _
      refine bodyC_wp hn w0 h0 h9 hp (by omega) fun y w l b7 b8 b9 b10 w0 oky => ⟨fr ++ [y], w, l, w0, fun x hx => ?_, by simp [fl], rfl, rfl⟩
      rcases List.mem_append.mp hx with z | z
      · exact ok x z
      · rw [List.mem_singleton.mp z]
        exact oky
    · rintro env h' ⟨fr, w, l, w0, ok, fl, rfl, rfl⟩
      rw [Sm.rangeT_length] at fl
      refine ⟨by simp, ?_⟩
      exact retS (i := 4) hn rfl (q fr w w0 ok (by omega) (by omega))
end
end Gd
namespace Gd
open PySem PySem.Spec PyProof.Rows L2 Sm
@[irreducible] noncomputable def step91 : MS := (sIf (mTst (mBin fNe (mBin fIdx (mVar 7) (mC (.int 0))) (mC (.str "undo"))))
  (sSeq (sAsg (.tup [8, 10]) (mCall F_law_bench_due (mCons (mBin fIdx (mVar 4) (mVar 12)) (mCons (mBin fIdx (mBin fIdx (mVar 6) (mVar 12)) (mUn fNeg (mC (.int 1)))) (mCons (mVar 7) mNil)))))
  (sIf (mNotT (mTru (mUn (fIsi "str") (mVar 8))))
  (sExp (mMethL fAppend (mBin fIdx (mVar 6) (mVar 12)) (mCons (mVar 10) mNil)))
  sNil))
  (sIf (mTst (mBin fGt (mCallF fLen (mCons (mBin fIdx (mVar 6) (mVar 12)) mNil)) (mC (.int 1))))
  (sSeq (sExp (mMethL fPop (mBin fIdx (mVar 6) (mVar 12)) mNil))
  (sSet 8 (mC .non)))
  sNil))
@[irreducible] noncomputable def ask91 : MS := (sIf (mNotT (mTru (mCall (F_law_same 8) (mCons (mCall F_law_bench_told_v2 (mCons (mBin fIdx (mVar 5) (mVar 12)) (mCons (mVar 7) mNil))) (mCons (mVar 8) mNil)))))
  (sRet (mC (.bl false)))
  sNil)
@[irreducible] noncomputable def once91 : MS := (sIf (mOrT (mNotT (mTru (mCall F_law_bench_right (mCons (mBin fIdx (mVar 5) (mC (.int 0))) (mCons (mBin fIdx (mBin fIdx (mVar 6) (mC (.int 0))) (mUn fNeg (mC (.int 1)))) mNil))))) (mNotT (mTru (mCall F_law_bench_right (mCons (mBin fIdx (mVar 5) (mC (.int 1))) (mCons (mBin fIdx (mBin fIdx (mVar 6) (mC (.int 1))) (mUn fNeg (mC (.int 1)))) mNil))))))
  (sRet (mC (.bl false)))
  sNil)
@[irreducible] noncomputable def seen91 : MS := (sFor (mRange1 (mCons (mC (.int 2)) mNil)) (.one 11) [1, 3, 7, 8, 9, 10, 11, 12]
  once91)
@[irreducible] noncomputable def go91 : MS := (sSeq step91
  (sSeq ask91
  seen91))
@[irreducible] noncomputable def body91 : MS := (sSeq (sSet 1 (mCall F_law_pot (mCons (mCall F_law_cell_at (mCons (mVar 0) (mCons (mVar 9) mNil))) mNil)))
  (sSeq (sSet 12 (mCallF fInt (mCons (mBin fEq (mCall F_law_take (mCons (mVar 1) (mCons (mC (.int 4)) mNil))) (mC (.int 0))) mNil)))
  (sSeq (sSet 7 (mCall F_law_bench_deed_v2 (mCons (mVar 1) (mCons (mVar 2) (mCons (mBin fIdx (mBin fIdx (mVar 6) (mVar 12)) (mUn fNeg (mC (.int 1)))) mNil)))))
  (sSeq (sSet 8 (mC (.str "deed")))
  go91))))
@[irreducible] noncomputable def loop91 : MS := (sFor (mRange2 (mCons (mC (.int 1)) (mCons (mCallF fMax (mCons (mC (.int 2)) (mCons (mCallF fMin (mCons (mCallF fLen (mCons (mVar 0) mNil)) (mCons (mC (.int 41)) mNil))) mNil))) mNil))) (.one 9) [1, 3, 7, 8, 9, 10, 11, 12]
  body91)
theorem law91_is : b_law_k91_v2 = (sSeq (sSet 1 (mCall F_law_pot (mCons (mCall F_law_cell_at (mCons (mVar 0) (mCons (mC (.int 0)) mNil))) mNil)))
  (sSeq (sSet 2 (mCall F_law_places (mCons (mVar 1) mNil)))
  (sSeq (sSet 3 (mFrz (mLst (mCons (mCall F_law_calm_program (mCons (mVar 1) (mCons (mVar 2) (mCons (mC (.int 8)) mNil)))) (mCons (mCall F_law_calm_program (mCons (mVar 1) (mCons (mVar 2) (mCons (mC (.int 5)) mNil)))) mNil)))))
  (sSeq (sSet 4 (mFrz (mComp (mSeq (mVar 3)) [13] (.one 13) mYes (mCall F_law_table (mCons (mVar 13) mNil)))))
  (sSeq (sSet 5 (mFrz (mComp (mSeq (mVar 3)) [13] (.one 13) mYes (mNew 2 F_Bench_init_v2 (mCons (mVar 13) mNil)))))
  (sSeq (sSet 6 (mFrz (mLst (mCons (mCell (mLst (mCons mEmpD mNil))) (mCons (mCell (mLst (mCons mEmpD mNil))) mNil)))))
  (sSeq loop91
  (sRet (mC (.bl true)))))))))) := by
  unfold loop91 body91 go91 seen91 once91 ask91 step91
  rfl
structure Sta (M : Nat) (h : Store) (n m k : Nat) (fr : List Fr) (A : List (List (Str × T))) (l : List (Str × T)) : Prop where
  b : BnA h n m (prT fr) l (A.map dcT)
  k : h[k]? = some (.lst ((A ++ [l]).map dcT))
  okA : ∀ r ∈ A, Rows M r
  okl : Rows M l
section
variable {h h' : Store} {n m k i j M : Nat} {t p v dd TB BN KP : T} {l l' : List (Str × T)} {A A' : List (List (Str × T))} {E : List T} {fr : List Fr} {P : Pst} {G : MS} {x0 x1 x2 x3 x8 x9 x10 x11 x13 : Option T}
theorem Sta.frame (S : Sta M h n m k fr A l) (e1 : h'[n]? = h[n]?) (e2 : h'[m]? = h[m]?) (e3 : h'[k]? = h[k]?) : Sta M h' n m k fr A l := ⟨⟨by rw [e1]; exact S.b.b, by rw [e2]; exact S.b.e⟩, by rw [e3]; exact S.k, S.okA, S.okl⟩
theorem Sta.kn (S : Sta M h n m k fr A l) : k ≠ n := fun c => by
  have := S.b.b
  rw [← c, S.k] at this
  cases this
theorem Sta.km (S : Sta M h n m k fr A l) : k ≠ m := fun c => by
  have := S.b.e
  rw [← c, S.k] at this
  have e : (A ++ [l]).map dcT = A.map dcT := Cell.lst.inj (Option.some.inj this)
  have := congrArg List.length e
  simp at this
theorem Sta.lk (S : Sta M h n m k fr A l) : k < h.length := (List.getElem?_eq_some_iff.mp S.k).1
theorem Sta.mono {N : Nat} (S : Sta M h n m k fr A l) (a : M ≤ N) : Sta N h n m k fr A l := ⟨S.b, S.k, fun r hr => (S.okA r hr).mono a, S.okl.mono a⟩
theorem word_str {w : Nat} (hw : w ∈ [12, 16, 18, 20, 21]) : ∃ z, wordC w = .str z := by
  simp only [List.mem_cons, List.not_mem_nil, or_false] at hw
  rcases hw with rfl | rfl | rfl | rfl | rfl
  · exact ⟨_, rfl⟩
  · exact ⟨_, rfl⟩
  · exact ⟨_, rfl⟩
  · exact ⟨_, rfl⟩
  · exact ⟨_, rfl⟩
theorem deed_way (dk : DeedOk dd) (nu : dd ≠ .tup [.str "undo", .non, .non]) : ∃ z a b, dd = .tup [.str z, a, b] ∧ decide (z = Str.ofString "undo") = false := by
  cases dk with
  | undo => exact absurd rfl nu
  | put a b c => exact ⟨_, _, _, rfl, by decide +kernel⟩
  | run a b => exact ⟨_, _, _, rfl, by decide +kernel⟩
  | drop a => exact ⟨_, _, _, rfl, by decide +kernel⟩
theorem last_dct (k : h[i]? = some (.lst ((A ++ [l]).map dcT))) : fIdx (.loc i) (.int (-1)) h = some (dcT l) := by
  rw [q3_idxC k, List.map_append]
  show atI (A.map dcT ++ [dcT l]) (-1) = _
  have e : ixN (A.map dcT ++ [dcT l]).length (-1) = some A.length := by
    rw [List.length_append, List.length_map]
    unfold ixN
    simp
    omega
  unfold atI
  rw [e]
  simp
theorem ask_ok {env : Env'} {S S' : Store} {a : T} (e8 : env[8]? = some (some a)) (e5 : env[5]? = some (some BN)) (e12 : env[12]? = some (some (.int (j : Int)))) (e7 : env[7]? = some (some dd)) (hB : ∀ S, fIdx BN (.int (j : Int)) S = some (.loc n))
    (tl : F_law_bench_told_v2 [.loc n, dd] S = .ok a S') (sa : sameOk 8 a) : ask91 env S = .nx env S' := by
  have sm : F_law_same 8 [a, a] S' = .ok (.bl true) S' := same_eq sa
  unfold ask91
  simp -implicitDefEqProofs only [q2_if, q1_notT, q1_tru, q1_call, q1_cons, q1_nil, q1_bin, q1_var, e5, e12, e7, e8, bind_ok, hB, ofO_some, tl, sm, truF_bl, Bool.not_true, bindE_ok, Bool.false_eq_true, if_false, q2_nil]
theorem step_ask (S : Sta M h n m k fr A l) (ok : okP fr) (hl : fr.length < 1000) (hM : 1000000 ≤ M) (hA : A.length < 90000) (dk : DeedOk dd) (hT : ∀ S, fIdx TB (.int (j : Int)) S = some (tabT fr)) (hB : ∀ S, fIdx BN (.int (j : Int)) S = some (.loc n)) (hK : ∀ S, fIdx KP (.int (j : Int)) S = some (.loc k))
    (q : ∀ y8 y10 h' A' l', Sta (M + 8000) h' n m k fr A' l' → A'.length ≤ A.length + 1 → h.length ≤ h'.length → (∀ i, i < h.length → i ≠ n → i ≠ m → i ≠ k → h'[i]? = h[i]?) → (G [x0, x1, x2, x3, some TB, some BN, some KP, some dd, y8, x9, y10, x11, some (.int (j : Int)), x13] h').wp P) :
    ((sSeq step91 (sSeq ask91 G)) [x0, x1, x2, x3, some TB, some BN, some KP, some dd, some (.str "deed"), x9, x10, x11, some (.int (j : Int)), x13] h).wp P := by
  have lk := S.lk
  have ix1 := last_dct S.k
  have ng : ∀ S, fNeg (.int 1) S = some (.int (-1)) := fun S => rfl
  by_cases nu : dd = .tup [.str "undo", .non, .non]
  · subst nu
    have i0 : ∀ S, fIdx (.tup [.str "undo", .non, .non]) (.int 0) S = some (.str "undo") := fun S => by rw [q3_idx]; rfl
    have ne : ∀ S, fNe (.str "undo") (.str "undo") S = some (.bl false) := fun S => by
      show some (T.bl (!decide (_ = _))) = _
      rw [decide_eq_true rfl]
      rfl
    have ln : fLen [.loc k] h = some (.int ((A.length + 1 : Nat) : Int)) := by
      rw [q3_lenC S.k]
      simp
    have gt : fGt (.int ((A.length + 1 : Nat) : Int)) (.int 1) h = some (.bl (decide (0 < A.length))) := by
      rw [q3_gt]
      congr 2
      rw [decide_eq_decide]
      omega
    rw [q2_seq]
    unfold step91
    simp -implicitDefEqProofs only [q2_if, q1_tst, q1_bin, q1_var, q1_C, List.getElem?_cons_zero, List.getElem?_cons_succ, bind_ok, i0, ofO_some, ne, asB_bl, bindE_ok, Bool.false_eq_true, if_false, q1_callF, q1_cons, q1_nil, hK, ln, gt]
    rcases List.eq_nil_or_concat A with rfl | ⟨B, r, eA⟩
    · have td := told_undo_no (t := .non) (p := .non) (w := 21) S.b (by simp) (undo_no (l := l) S.b)
      have as := ask_ok (env := [x0, x1, x2, x3, some TB, some BN, some KP, some (.tup [.str "undo", .non, .non]), some (.str "deed"), x9, x10, x11, some (.int (j : Int)), x13]) (a := .str "deed") rfl rfl rfl rfl hB td trivial
      simp -implicitDefEqProofs only [List.length_nil, Nat.lt_irrefl, decide_false, Bool.false_eq_true, if_false, q2_nil, seq_nx, q2_seq, as]
      exact q _ _ _ _ _ (S.mono (by omega)) (by simp) (Nat.le_refl _) fun _ _ _ _ _ => rfl
    · rw [List.concat_eq_append] at eA
      subst eA
      have pos : decide (0 < (B ++ [r]).length) = true := decide_eq_true (by simp)
      have lo : lstOf h (.loc k) = some (((B ++ [r]) ++ [l]).map dcT) := by simp only [lstOf, S.k]
      have pp : outM (fPop (.loc k) [] h) = .ok (dcT l) (h.set k (.lst ((B ++ [r]).map dcT))) := by
        have e : ((B ++ [r]) ++ [l]).map dcT = (B ++ [r]).map dcT ++ [dcT l] := by rw [List.map_append]; rfl
        have sk := S.k
        rw [e] at sk
        simp [fPop, cellL, sk, outM]
      have b0 := S.b
      have eE : (B ++ [r]).map dcT = B.map dcT ++ [dcT r] := by rw [List.map_append]; rfl
      rw [eE] at b0
      have b1 : BnA (h.set k (.lst ((B ++ [r]).map dcT))) n m (prT fr) l (B.map dcT ++ [dcT r]) := ⟨by rw [List.getElem?_set_ne S.kn]; exact b0.b, by rw [List.getElem?_set_ne S.km]; exact b0.e⟩
      have td := told_undo (t := .non) (p := .non) b1 (undo_ok b1)
      have as := ask_ok (env := [x0, x1, x2, x3, some TB, some BN, some KP, some (.tup [.str "undo", .non, .non]), some .non, x9, x10, x11, some (.int (j : Int)), x13]) (a := .non) rfl rfl rfl rfl hB td trivial
      simp -implicitDefEqProofs only [pos, if_true, q2_seq, q2_exp, q1_meth, q1_bin, q1_var, List.getElem?_cons_zero, List.getElem?_cons_succ, bind_ok, hK, ofO_some, lo, q1_nil, pp, bindE_ok, seq_nx, q2_set, q1_C, List.set, as]
      refine q _ _ _ B r ⟨bst_at b1, ?_, fun s hs => (S.okA s (List.mem_append_left _ hs)).mono (by omega), (S.okA r (by simp)).mono (by omega)⟩ (by simp; omega) (by simp [bst_len]) fun i hi a b c => ?_
      · rw [bst_get S.kn S.km, List.getElem?_set_self lk]
      · rw [bst_get a b, List.getElem?_set_ne (Ne.symm c)]
  · obtain ⟨z, a, b, ed, zu⟩ := deed_way dk nu
    have i0 : ∀ S, fIdx dd (.int 0) S = some (.str z) := fun S => by rw [ed, q3_idx]; rfl
    have ne : ∀ S, fNe (.str z) (.str "undo") S = some (.bl true) := fun S => by
      show some (T.bl (!decide (_ = _))) = _
      rw [zu]
      rfl
    rw [q2_seq]
    unfold step91
    rcases one_deed ok hl hM S.okl dk nu with ⟨w, hw, du, td⟩ | ⟨v, l', hv, R', du, td⟩
    · obtain ⟨y, ey⟩ := word_str hw
      have bd : bindT (.tup [8, 10]) (.lst [.str y, dcT l]) [x0, x1, x2, x3, some TB, some BN, some KP, some dd, some (.str "deed"), x9, x10, x11, some (.int (j : Int)), x13] = some [x0, x1, x2, x3, some TB, some BN, some KP, some dd, some (.str y), x9, some (dcT l), x11, some (.int (j : Int)), x13] := rfl
      have td := td h n m _ S.b
      rw [ey] at du td
      have is : ∀ S, fIsi "str" (.str y) S = some (.bl true) := fun S => rfl
      have as := ask_ok (env := [x0, x1, x2, x3, some TB, some BN, some KP, some dd, some (.str y), x9, some (dcT l), x11, some (.int (j : Int)), x13]) (a := .str y) rfl rfl rfl rfl hB td trivial
      simp -implicitDefEqProofs only [q2_if, q1_tst, q1_bin, q1_var, q1_C, List.getElem?_cons_zero, List.getElem?_cons_succ, bind_ok, i0, ofO_some, ne, asB_bl, bindE_ok, if_true, q2_seq, q2_asg, q1_call, q1_cons, q1_nil, q1_un, hT, hK, ng, ix1, du, bd, seq_nx, q1_notT, q1_tru, is, truF_bl, Bool.not_true, Bool.false_eq_true, if_false, q2_nil, as]
      exact q _ _ _ _ _ (S.mono (by omega)) (by omega) (Nat.le_refl _) fun _ _ _ _ _ => rfl
    · have bd : bindT (.tup [8, 10]) (.lst [v, dcT l']) [x0, x1, x2, x3, some TB, some BN, some KP, some dd, some (.str "deed"), x9, x10, x11, some (.int (j : Int)), x13] = some [x0, x1, x2, x3, some TB, some BN, some KP, some dd, some v, x9, some (dcT l'), x11, some (.int (j : Int)), x13] := rfl
      have is : ∀ S, fIsi "str" v S = some (.bl false) := fun S => by
        rcases hv with rfl | ⟨d, rfl⟩
        · rfl
        · rfl
      have so : sameOk 8 v := by
        rcases hv with rfl | ⟨d, rfl⟩
        · trivial
        · trivial
      have lo : lstOf h (.loc k) = some ((A ++ [l]).map dcT) := by simp only [lstOf, S.k]
      have ap := q4_append (y := dcT l') S.k (by simp; omega) (by rw [pu_dcT]; exact R'.pu)
      have b1 : BnA (h.set k (.lst ((A ++ [l]).map dcT ++ [dcT l']))) n m (prT fr) l (A.map dcT) := ⟨by rw [List.getElem?_set_ne S.kn]; exact S.b.b, by rw [List.getElem?_set_ne S.km]; exact S.b.e⟩
      have td := td _ n m _ (by simp; omega) b1
      have as := ask_ok (env := [x0, x1, x2, x3, some TB, some BN, some KP, some dd, some v, x9, some (dcT l'), x11, some (.int (j : Int)), x13]) (a := v) rfl rfl rfl rfl hB td so
      simp -implicitDefEqProofs only [q2_if, q1_tst, q1_bin, q1_var, q1_C, List.getElem?_cons_zero, List.getElem?_cons_succ, bind_ok, i0, ofO_some, ne, asB_bl, bindE_ok, if_true, q2_seq, q2_asg, q1_call, q1_cons, q1_nil, q1_un, hT, hK, ng, ix1, du, bd, seq_nx, q1_notT, q1_tru, is, truF_bl, Bool.not_false, q2_exp, q1_meth, lo, ap, as]
      have b2 := b1.app [.dead]
      refine q _ _ _ (A ++ [l]) l' ⟨?_, ?_, fun s hs => ?_, R'⟩ (by simp) (by simp [bst_len]) fun i hi a b c => ?_
      · have := bst_at (l2 := l') (E2 := A.map dcT ++ [dcT l]) b2
        have e : (A ++ [l]).map dcT = A.map dcT ++ [dcT l] := by rw [List.map_append]; rfl
        exact ⟨this.b, this.e.trans (congrArg (fun x => some (Cell.lst x)) e.symm)⟩
      · have e : ((A ++ [l]) ++ [l']).map dcT = (A ++ [l]).map dcT ++ [dcT l'] := by rw [List.map_append]; rfl
        rw [bst_get S.kn S.km, List.getElem?_append_left (by rw [List.length_set]; exact lk), List.getElem?_set_self lk, e]
      · rcases List.mem_append.mp hs with y | y
        · exact (S.okA s y).mono (by omega)
        · rw [List.mem_singleton.mp y]
          exact S.okl.mono (by omega)
      · rw [bst_get a b, List.getElem?_append_left (by rw [List.length_set]; exact hi), List.getElem?_set_ne (Ne.symm c)]
end
structure Two (M : Nat) (h : Store) (L : Nat) (f0 f1 : List Fr) (A0 : List (List (Str × T))) (l0 : List (Str × T)) (A1 : List (List (Str × T))) (l1 : List (Str × T)) : Prop where
  s0 : Sta M h L (L + 1) (L + 4) f0 A0 l0
  s1 : Sta M h (L + 2) (L + 3) (L + 5) f1 A1 l1
def TB9 (f0 f1 : List Fr) : T := .lst [tabT f0, tabT f1]
def BN9 (L : Nat) : T := .lst [.loc L, .loc (L + 2)]
def KP9 (L : Nat) : T := .lst [.loc (L + 4), .loc (L + 5)]
section
variable {h h' : Store} {L M n a0' a1' : Nat} {w : Int} {dd : T} {l0 l1 : List (Str × T)} {A0 A1 : List (List (Str × T))} {f0 f1 : List Fr} {P : Pst} {x0 x1 x2 x3 x4 x7 x8 x9 x10 x11 x12 x13 : Option T}
theorem Two.frame (k : Two M h L f0 f1 A0 l0 A1 l1) (e : ∀ i, i < h.length → h'[i]? = h[i]?) : Two M h' L f0 f1 A0 l0 A1 l1 := ⟨k.s0.frame (e _ k.s0.b.ln) (e _ k.s0.b.lm) (e _ k.s0.lk), k.s1.frame (e _ k.s1.b.ln) (e _ k.s1.b.lm) (e _ k.s1.lk)⟩
theorem b0_ix {S : Store} : fIdx (BN9 L) (.int 0) S = some (.loc L) := by unfold BN9; rw [q3_idxL]; rfl
theorem b1_ix {S : Store} : fIdx (BN9 L) (.int 1) S = some (.loc (L + 2)) := by unfold BN9; rw [q3_idxL]; rfl
theorem k0_ix {S : Store} : fIdx (KP9 L) (.int 0) S = some (.loc (L + 4)) := by unfold KP9; rw [q3_idxL]; rfl
theorem k1_ix {S : Store} : fIdx (KP9 L) (.int 1) S = some (.loc (L + 5)) := by unfold KP9; rw [q3_idxL]; rfl
theorem t0_ix {S : Store} : fIdx (TB9 f0 f1) (.int 0) S = some (tabT f0) := by unfold TB9; rw [q3_idxL]; rfl
theorem t1_ix {S : Store} : fIdx (TB9 f0 f1) (.int 1) S = some (tabT f1) := by unfold TB9; rw [q3_idxL]; rfl
theorem seen_wp (k : Two M h L f0 f1 A0 l0 A1 l1) (q : P.nx [x0, none, x2, none, x4, some (BN9 L), some (KP9 L), none, none, none, none, none, none, none] h) :
    (seen91 [x0, x1, x2, x3, x4, some (BN9 L), some (KP9 L), x7, x8, x9, x10, x11, x12, none] h).wp P := by
  have ng : ∀ S, fNeg (.int 1) S = some (.int (-1)) := fun S => rfl
  have i0 := last_dct k.s0.k
  have i1 := last_dct k.s1.k
  have r0 := right_eq k.s0.b k.s0.okl.row (by have := k.s0.okl.len; omega)
  have r1 := right_eq k.s1.b k.s1.okl.row (by have := k.s1.okl.len; omega)
  unfold seen91
  rw [sFor_of (range_of (h1 := h) (e := 2) (by simp -implicitDefEqProofs only [q1_cons, q1_C, q1_nil, bind_ok]; rfl) (by omega))]
  refine forLoop_wp _ (fun i env h' => env = [x0, none, x2, none, x4, some (BN9 L), some (KP9 L), none, none, none, none, none, none, none] ∧ h' = h) ?_ ?_ ⟨by simp, rfl⟩
  · rintro i y env h' hy ⟨rfl, rfl⟩
    obtain ⟨rfl, hi⟩ := range_at hy
    refine ⟨by simp, _, b_one, ?_⟩
    unfold once91
    simp -implicitDefEqProofs only [List.set, q2_if, q1_orT, q1_notT, q1_tru, q1_call, q1_cons, q1_nil, q1_bin, q1_un, q1_var, q1_C, List.getElem?_cons_zero, List.getElem?_cons_succ, bind_ok, b0_ix, k0_ix, b1_ix, k1_ix, ng, i0, i1, ofO_some, r0, r1, truF_bl, Bool.not_true, Bool.false_eq_true, if_false, bindE_ok, q2_nil]
    exact ⟨rfl, rfl⟩
  · rintro env h' ⟨rfl, rfl⟩
    exact ⟨by simp, q⟩
theorem body_wp {scr : List Int} {ps : List Nat} {v9 : Int} (h9 : 0 ≤ v9) (k : Two M h L f0 f1 A0 l0 A1 l1) (o0 : okP f0) (o1 : okP f1) (n0 : f0.length < 1000) (n1 : f1.length < 1000) (hM : 1000000 ≤ M) (a0 : A0.length < 90000) (a1 : A1.length < 90000) (p9 : ps.length < 1000) (hp : ∀ p ∈ ps, p < 10)
    (q : ∀ h' A0 l0 A1 l1, Two (M + 8000) h' L f0 f1 A0 l0 A1 l1 → A0.length ≤ a0' + 1 → A1.length ≤ a1' + 1 → P.nx [some (.scr scr), none, some (.tup (ps.map tN)), none, some (TB9 f0 f1), some (BN9 L), some (KP9 L), none, none, none, none, none, none, none] h') (b0 : A0.length ≤ a0') (b1 : A1.length ≤ a1') :
    (body91 [some (.scr scr), none, some (.tup (ps.map tN)), none, some (TB9 f0 f1), some (BN9 L), some (KP9 L), none, none, some (.int v9), none, none, none, none] h).wp P := by
  obtain ⟨v, hv⟩ := cell_eq (h := h) (ns := scr) (k := v9) h9
  have ng : ∀ S, fNeg (.int 1) S = some (.int (-1)) := fun S => rfl
  unfold body91
  simp -implicitDefEqProofs only [q2_seq, q2_set, so_seq, so_bindE, q1_call, q1_cons, q1_var, q1_nil, List.getElem?_cons_zero, List.getElem?_cons_succ, bind_ok, hv, wp_bind]
  refine pot_ok fun v v0 => ?_
  have p : potAt (h ++ [.lst [.int v]]) h.length v := ⟨by simp, v0⟩
  have hn := p.lt
  have k1 : Two M (h ++ [.lst [.int v]]) L f0 f1 A0 l0 A1 l1 := k.frame fun i hi => List.getElem?_append_left hi
  have far : ∀ i, i < h.length → i ≠ h.length := fun i hi => by omega
  have lt0 := k.s0.b.ln
  have lt1 := k.s0.b.lm
  have lt2 := k.s0.lk
  have lt3 := k.s1.b.ln
  have lt4 := k.s1.b.lm
  have lt5 := k.s1.lk
  have kp : ∀ u, Two M (pst (h ++ [.lst [.int v]]) h.length u) L f0 f1 A0 l0 A1 l1 := fun u => k.frame fun i hi => by
    unfold pst
    rw [List.getElem?_set_ne (by omega), List.getElem?_append_left hi]
  generalize h ++ [.lst [.int v]] = h1 at p hn kp ⊢
  generalize h.length = n at p hn kp ⊢
  obtain ⟨r, r1, e1, w1⟩ := take3 (h := h1) (far := 4) hn p.2 (by omega) (by omega)
  rw [pst_self p] at e1
  have g0 : ∀ S, fEq (.int (r : Int)) (.int 0) S = some (.bl (decide (r = 0))) := fun S => eq_nat (b := 0)
  simp -implicitDefEqProofs only [wp_ok, so_nx, List.set, q1_callF, q1_cons, q1_nil, q1_bin, q1_call, q1_var, q1_C, List.getElem?_cons_zero, List.getElem?_cons_succ, bind_ok, show T.int 4 = T.int ((4 : Nat) : Int) from rfl, e1, g0, ofO_some, q3_intB]
  have k2 := kp (v / ((4 : Nat) : Int))
  have pp := potAt.old (h := h1) hn w1
  by_cases c : r = 0
  · rw [decide_eq_true c]
    have i1 := last_dct k2.s1.k
    simp -implicitDefEqProofs only [if_true, k1_ix, ng, i1, q1_un, q1_C, bind_ok, ofO_some, wp_ok, wp_bind]
    refine deed_wp pp p9 hp k2.s1.okl.keys (by have := k2.s1.okl.len; omega) fun dd w w0 dk => ?_
    rw [pst_pst]
    have k3 := kp w
    unfold go91
    refine step_ask (j := 1) k3.s1 o1 n1 hM a1 dk (fun S => t1_ix) (fun S => b1_ix) (fun S => k1_ix) fun y8 y10 h' A' l' S' al hl fr => ?_
    refine seen_wp (A0 := A0) (l0 := l0) (A1 := A') (l1 := l') ⟨(k3.s0.frame (fr _ k3.s0.b.ln (by omega) (by omega) (by omega)) (fr _ k3.s0.b.lm (by omega) (by omega) (by omega)) (fr _ k3.s0.lk (by omega) (by omega) (by omega))).mono (by omega), S'⟩ ?_
    exact q _ _ _ _ _ ⟨(k3.s0.frame (fr _ k3.s0.b.ln (by omega) (by omega) (by omega)) (fr _ k3.s0.b.lm (by omega) (by omega) (by omega)) (fr _ k3.s0.lk (by omega) (by omega) (by omega))).mono (by omega), S'⟩ (by omega) (by omega)
  · rw [decide_eq_false c]
    have i1 := last_dct k2.s0.k
    simp -implicitDefEqProofs only [Bool.false_eq_true, if_false, k0_ix, ng, i1, q1_un, q1_C, bind_ok, ofO_some, wp_ok, wp_bind]
    refine deed_wp pp p9 hp k2.s0.okl.keys (by have := k2.s0.okl.len; omega) fun dd w w0 dk => ?_
    rw [pst_pst]
    have k3 := kp w
    unfold go91
    refine step_ask (j := 0) k3.s0 o0 n0 hM a0 dk (fun S => t0_ix) (fun S => b0_ix) (fun S => k0_ix) fun y8 y10 h' A' l' S' al hl fr => ?_
    refine seen_wp (A0 := A') (l0 := l') (A1 := A1) (l1 := l1) ⟨S', (k3.s1.frame (fr _ k3.s1.b.ln (by omega) (by omega) (by omega)) (fr _ k3.s1.b.lm (by omega) (by omega) (by omega)) (fr _ k3.s1.lk (by omega) (by omega) (by omega))).mono (by omega)⟩ ?_
    exact q _ _ _ _ _ ⟨S', (k3.s1.frame (fr _ k3.s1.b.ln (by omega) (by omega) (by omega)) (fr _ k3.s1.b.lm (by omega) (by omega) (by omega)) (fr _ k3.s1.lk (by omega) (by omega) (by omega))).mono (by omega)⟩ (by omega) (by omega)
end
theorem prog_ok {fr : List Fr} (ok : okP fr) (a : 1 ≤ fr.length) (b : fr.length ≤ 16) : progB (prT fr) = true := by
  show (decide (1 ≤ (fr.map frT).length) && decide ((fr.map frT).length ≤ 16) && (fr.map frT).all fracB) = true
  rw [List.length_map, decide_eq_true a, decide_eq_true b, Bool.true_and, Bool.true_and, List.all_eq_true]
  intro f hf
  obtain ⟨p, hp, rfl⟩ := List.mem_map.mp hf
  exact okFr_is (ok p hp)
def six (L : Nat) (f0 f1 : List Fr) : Store := [benchC (prT f0) [] (L + 1), .lst [], benchC (prT f1) [] (L + 3), .lst [], .lst [dcT []], .lst [dcT []]]
theorem two_six {S : Store} {f0 f1 : List Fr} {M : Nat} : Two M (S ++ six S.length f0 f1) S.length f0 f1 [] [] [] [] := by
  have g : ∀ i, (S ++ six S.length f0 f1)[S.length + i]? = (six S.length f0 f1)[i]? := fun i => by
    rw [List.getElem?_append_right (by omega)]
    congr 1
    omega
  have e : Rows M [] := ⟨fun q hq => (by cases hq), by simp⟩
  exact ⟨⟨⟨(g 0).trans rfl, (g 1).trans rfl⟩, (g 4).trans rfl, fun r hr => (by cases hr), e⟩, ⟨⟨(g 2).trans rfl, (g 3).trans rfl⟩, (g 5).trans rfl, fun r hr => (by cases hr), e⟩⟩
theorem benches_eq {S : Store} {env : Env'} {f0 f1 : List Fr} (e3 : env[3]? = some (some (.lst [prT f0, prT f1]))) (l14 : env.length = 14) (o0 : okP f0) (o1 : okP f1) (a0 : 1 ≤ f0.length ∧ f0.length ≤ 16) (a1 : 1 ≤ f1.length ∧ f1.length ≤ 16) :
    mComp (mSeq (mVar 3)) [13] (.one 13) mYes (mNew 2 F_Bench_init_v2 (mCons (mVar 13) mNil)) env S = .ok [.loc S.length, .loc (S.length + 2)] (S ++ [benchC (prT f0) [] (S.length + 1), .lst [], benchC (prT f1) [] (S.length + 3), .lst []]) := by
  refine Out.wp_eq ?_
  unfold mComp
  simp -implicitDefEqProofs only [q1_seqS, q1_var, e3, bind_ok, asS_lst]
  refine compLoop_wp _ (fun i acc h' => (i = 0 → acc = [] ∧ h' = S) ∧ (i = 1 → acc = [.loc S.length] ∧ h' = S ++ [benchC (prT f0) [] (S.length + 1), .lst []]) ∧ (i = 2 → acc = [.loc S.length, .loc (S.length + 2)] ∧ h' = S ++ [benchC (prT f0) [] (S.length + 1), .lst [], benchC (prT f1) [] (S.length + 3), .lst []])) ?_ ?_ (by simp) ⟨fun _ => ⟨rfl, rfl⟩, fun z => (by cases z), fun z => (by cases z)⟩
  · intro i x acc h' hx _ I
    refine ⟨by simp, _, b_one, ?_⟩
    have ev : ∀ x : T, (env.set 13 (some x))[13]? = some (some x) := fun x => List.getElem?_set_self (by omega)
    match i, hx with
    | 0, hx =>
      cases hx
      obtain ⟨rfl, rfl⟩ := I.1 rfl
      have bn := bench_new (env := (dropE [13] env).set 13 (some (prT f0))) (r := mCons (mVar 13) mNil) (h := h') (h1 := h') (t := prT f0) (by
        simp -implicitDefEqProofs only [drop_cons, drop_nil, List.set_set, q1_cons, q1_nil, q1_var, ev, bind_ok]) (plain_prog f0) (prog_ok o0 a0.1 a0.2)
      unfold mYes
      rw [wp_ok, if_pos rfl, bn, wp_ok]
      exact ⟨fun z => (by cases z), fun _ => ⟨rfl, rfl⟩, fun z => (by cases z)⟩
    | 1, hx =>
      cases hx
      obtain ⟨rfl, rfl⟩ := I.2.1 rfl
      have bn := bench_new (env := (dropE [13] env).set 13 (some (prT f1))) (r := mCons (mVar 13) mNil) (h := S ++ [benchC (prT f0) [] (S.length + 1), .lst []]) (h1 := S ++ [benchC (prT f0) [] (S.length + 1), .lst []]) (t := prT f1) (by
        simp -implicitDefEqProofs only [drop_cons, drop_nil, List.set_set, q1_cons, q1_nil, q1_var, ev, bind_ok]) (plain_prog f1) (prog_ok o1 a1.1 a1.2)
      unfold mYes
      rw [wp_ok, if_pos rfl, bn, wp_ok]
      have e2 : (S ++ [benchC (prT f0) [] (S.length + 1), Cell.lst []]).length = S.length + 2 := by simp
      refine ⟨fun z => (by cases z), fun z => (by cases z), fun _ => ?_⟩
      rw [e2]
      exact ⟨rfl, by simp⟩
    | n + 2, hx => cases hx
  · intro acc h' I
    exact ⟨by simp, I.2.2 rfl⟩
theorem loop_wp {ns : List Int} {ps : List Nat} {h : Store} {L : Nat} {f0 f1 : List Fr} {P : Pst} {x1 x3 : Option T} (k : Two 1000000 h L f0 f1 [] [] [] []) (o0 : okP f0) (o1 : okP f1) (n0 : f0.length < 1000) (n1 : f1.length < 1000) (p9 : ps.length < 1000) (hp : ∀ p ∈ ps, p < 10)
    (q : ∀ env h', P.nx env h') : (loop91 [some (.scr ns), x1, some (.tup (ps.map tN)), x3, some (TB9 f0 f1), some (BN9 L), some (KP9 L), none, none, none, none, none, none, none] h).wp P := by
  have lim : ∃ m : Int, 2 ≤ m ∧ m ≤ 41 ∧ (if 2 < (if (41 : Int) < ns.length then 41 else (ns.length : Int)) then (if (41 : Int) < ns.length then 41 else (ns.length : Int)) else 2) = m := ⟨_, by split <;> split <;> omega, by split <;> split <;> omega, rfl⟩
  obtain ⟨m, m1, m2, em⟩ := lim
  have src : mRange2 (mCons (mC (.int 1)) (mCons (mCallF fMax (mCons (mC (.int 2)) (mCons (mCallF fMin (mCons (mCallF fLen (mCons (mVar 0) mNil)) (mCons (mC (.int 41)) mNil))) mNil))) mNil)) [some (.scr ns), x1, some (.tup (ps.map tN)), x3, some (TB9 f0 f1), some (BN9 L), some (KP9 L), none, none, none, none, none, none, none] h = .ok ⟨Sm.rangeT 1 (m - 1).toNat, []⟩ h := by
    simp -implicitDefEqProofs (disch := first | omega | simp)
    rw [em, asR2_ok (by omega) (by omega) (by omega) (by omega), show (m - 1).toNat = m.toNat - 1 by omega]
  unfold loop91
  rw [sFor_of src]
  refine forLoop_wp _ (fun i env h' => ∃ A0 l0 A1 l1, Two (1000000 + 8000 * i) h' L f0 f1 A0 l0 A1 l1 ∧ A0.length ≤ i ∧ A1.length ≤ i ∧ env = [some (.scr ns), none, some (.tup (ps.map tN)), none, some (TB9 f0 f1), some (BN9 L), some (KP9 L), none, none, none, none, none, none, none]) ?_ ?_ ⟨[], [], [], [], k, Nat.le_refl _, Nat.le_refl _, by simp⟩
  · rintro i x env h' hx ⟨A0, l0, A1, l1, k, b0, b1, rfl⟩
    obtain ⟨rfl, hi⟩ := range_at hx
    refine ⟨by simp, _, b_one, ?_⟩
    simp -implicitDefEqProofs only [List.set]
    refine body_wp (v9 := 1 + (i : Int)) (a0' := i) (a1' := i) (by omega) k o0 o1 n0 n1 (by omega) (by omega) (by omega) p9 hp (fun h' A0 l0 A1 l1 k a0 a1 => ?_) b0 b1
    exact ⟨A0, l0, A1, l1, by rw [show 1000000 + 8000 * (i + 1) = 1000000 + 8000 * i + 8000 by omega]; exact k, a0, a1, rfl⟩
  · rintro env h' ⟨A0, l0, A1, l1, k, b0, b1, rfl⟩
    exact ⟨by simp, q _ _⟩
theorem law91 (ns : List Int) : ∃ h', F_law_k91_v2 [.scr ns] [] = .ok (.bl true) h' := by
  have w : (F_law_k91_v2 [.scr ns] []).wp (fun t _ => t = .bl true) (fun _ _ => False) := by
    obtain ⟨b, hb⟩ : ∃ b, b = b_law_k91_v2 := ⟨_, rfl⟩
    have eb : F_law_k91_v2 = fn 1 14 false b := by rw [hb]; rfl
    rw [eb]
    refine fn_wp rfl ?_
    show (b [some (.scr ns), none, none, none, none, none, none, none, none, none, none, none, none, none] []).wp _
    obtain ⟨v, hv⟩ := cell_eq (h := []) (ns := ns) (k := 0) (by omega)
    rw [hb, law91_is]
    simp -implicitDefEqProofs only [q2_seq, q2_set, so_seq, so_bindE, q1_call, q1_cons, q1_var, q1_nil, q1_C, List.getElem?_cons_zero, List.getElem?_cons_succ, bind_ok, hv, wp_bind]
    refine pot_ok fun v v0 => ?_
    have p : potAt ([] ++ [.lst [.int v]]) ([] : Store).length v := ⟨by simp, v0⟩
    have hn := p.lt
    generalize [] ++ [Cell.lst [.int v]] = h1 at p hn ⊢
    generalize ([] : Store).length = n at p hn ⊢
    simp -implicitDefEqProofs only [wp_ok, so_nx, List.set, q1_call, q1_cons, q1_nil, q1_var, List.getElem?_cons_zero, List.getElem?_cons_succ, bind_ok]
    refine places_wp p fun ps w w0 e0 e1 e2 => ?_
    simp -implicitDefEqProofs only [wp_ok, so_nx, List.set, q1_frz, q1_lst, q1_call, q1_cons, q1_nil, q1_var, q1_C, List.getElem?_cons_zero, List.getElem?_cons_succ, bind_ok, wp_bind]
    refine calm_wp (most := 8) (potAt.old hn w0) e0 (by omega) e2 (by omega) fun f0 w w0 o0 a0 c0 => ?_
    rw [pst_pst]
    refine calm_wp (most := 5) (potAt.old hn w0) e0 (by omega) e2 (by omega) fun f1 w w0 o1 a1 c1 => ?_
    rw [pst_pst]
    have i2 : ∀ {α : Type} (u v : α), (if 0 + 1 + 1 ≤ 10000 then u else v) = u := fun u v => if_pos (by decide)
    generalize pst h1 n w = S
    have tb : mComp (mSeq (mVar 3)) [13] (.one 13) mYes (mCall F_law_table (mCons (mVar 13) mNil)) [some (.scr ns), some (.loc n), some (.tup (ps.map tN)), some (.lst [prT f0, prT f1]), none, none, none, none, none, none, none, none, none, none] S = .ok ([f0, f1].map tabT) S := by
      refine comp_map (g := prT) (l := [f0, f1]) tabT (by simp -implicitDefEqProofs only [q1_seqS, q1_var, List.getElem?_cons_zero, List.getElem?_cons_succ, bind_ok]; rfl) (by simp) fun f hf => ⟨_, b_one, ?_⟩
      have := table_eq (h := S) (fr := f) (by
        simp only [List.mem_cons, List.not_mem_nil, or_false] at hf
        rcases hf with rfl | rfl
        · exact o0
        · exact o1) (by
        simp only [List.mem_cons, List.not_mem_nil, or_false] at hf
        rcases hf with rfl | rfl <;> omega)
      simp -implicitDefEqProofs only [List.set, drop_cons, drop_nil, q1_call, q1_cons, q1_nil, q1_var, List.getElem?_cons_zero, List.getElem?_cons_succ, bind_ok, this]
    have bn := benches_eq (S := S) (env := [some (.scr ns), some (.loc n), some (.tup (ps.map tN)), some (.lst [prT f0, prT f1]), some (.lst ([f0, f1].map tabT)), none, none, none, none, none, none, none, none, none]) (f0 := f0) (f1 := f1) rfl rfl o0 o1 (by omega) (by omega)
    have i1 : ∀ {α : Type} (u v : α), (if 0 + 1 ≤ 10000 then u else v) = u := fun u v => if_pos (by decide)
    have em : ∀ (env : Env') (S : Store), mEmpD env S = .ok (dcT []) S := fun env S => rfl
    have pe : pus [dcT []] = true := rfl
    simp -implicitDefEqProofs only [tb, bn, wp_ok, so_nx, List.set, q1_cell, q1_lst, q1_cons, q1_nil, em, bind_ok, List.length_cons, List.length_nil, i1, i2, pe, if_true]
    have l4 : (S ++ [benchC (prT f0) [] (S.length + 1), Cell.lst [], benchC (prT f1) [] (S.length + 3), Cell.lst []]).length = S.length + 4 := by simp
    have l5 : (S ++ [benchC (prT f0) [] (S.length + 1), Cell.lst [], benchC (prT f1) [] (S.length + 3), Cell.lst []] ++ [Cell.lst [dcT []]]).length = S.length + 5 := by simp
    rw [l5, l4]
    have e6 : S ++ [benchC (prT f0) [] (S.length + 1), Cell.lst [], benchC (prT f1) [] (S.length + 3), Cell.lst []] ++ [Cell.lst [dcT []]] ++ [Cell.lst [dcT []]] = S ++ six S.length f0 f1 := by simp [six]
    rw [e6]
    have tw := two_six (S := S) (f0 := f0) (f1 := f1) (M := 1000000)
    refine loop_wp (x1 := some (.loc n)) (x3 := some (.lst [prT f0, prT f1])) tw o0 o1 (by omega) (by omega) (by omega) e2 fun env h' => ?_
    simp -implicitDefEqProofs only [q2_ret, q1_C, bindE_ok, so_rt]
    exact ⟨si_nil, .inl ⟨rfl, rfl⟩⟩
  revert w
  cases F_law_k91_v2 [.scr ns] [] with
  | ok t h' => exact fun e => ⟨h', by rw [show t = _ from e]⟩
  | ex e h' => exact fun z => z.elim
  | bad => exact fun z => z.elim
end Gd
theorem PySem.Challenge.cw_wholefract_k91_benches_and_deeds_holds : PySem.Challenge.rw_wholefract_k91_benches_and_deeds.Holds := by
  exact K91.walk fun ns _ => Gd.law91 ns
