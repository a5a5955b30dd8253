import PyProof.Rows.All
import Wide.All
import OpenK.AllK
import Wide.FinOn
import HandS.ForMost
import HandS.Walk
import HandS.Exc
import HandS.ExcOwn
import HandS.ExcCtx
import HandS.WordsExc
import HandS.HeadHook1
import HandS.IsInst
import HandS.TupLe
import HandS.TupAny
import HandS.TupMul
import HandS.Wide
import HandS.Zip
import KE.GoesMore
import KE.GoesEnum
import KE.GoesZip
import HandS.Codes
import HandS.Deep
import KE.KTupSum
import KE.DatumOrd
import HandS.NoneIn
import HandS.More
import HandS.Head0
import HandS.Head1
import HandS.Head2
import HandS.HeadEnd
import HandS.HeadHook2
import HandS.HeadHook4
import HandS.Conv
import HandS.Dict
import HandS.ExcInit
import HandS.ClsMeth
import HandS.HotCalls
import HandS.ExcIs
import HandS.ExcField
import HandS.SetFor
import KE.KExcIs
import HandS.TupSets
import HandS.Style
import HandS.TupLen
import HandS.SetKeys
import PyProof.DictMoreH
import HandS.Strs
import PyProof.Rows.SetFrom
import KE.KDictWalk
import HandS.RevRange
import HandS.WideBits
import KE.KIndexOf
import PyProof.Rows.Range3
import HandS.Text
import PyProof.StrOps2
import PySem.Challenge.RW_wholefract_k05_texts_of_no_powers
set_option Elab.async false
set_option linter.all false
set_option maxRecDepth 100000
namespace Sm
open PySem PySem.Spec PyProof.Rows L2
inductive T where
  | non | bl (b : Bool) | int (i : Int) | str (x : Str) | tup (xs : List T) | lst (xs : List T) | loc (n : Nat)
  /-- the law's script -/
  | scr (ns : List Int)
  /-- an empty dict that nothing changes -/
  | emp
  /-- the exception in hand: its place, its dict's, with one field (or none) -/
  | adr (a d : Addr) (f : Str) (ts : List T)
  /-- a def of the module, by its name -/
  | fnc (x : Str)
  /-- a dict by texts that nothing changes any more: an empty text and its keys, what stands there; without any key: a tuple that is known to have no dict of its own -/
  | dct (ks : List Str) (ts : List T)
inductive Cell where
  | lst (xs : List T)
  | dK (kvs : List (Key × T))
  /-- a dict by rows of whole numbers -/
  | dT (kvs : List (List Int × T))
  /-- what was a cell and is fixed now -/
  | dead
  | ins (c : Nat) (fs : List (Str × T))
abbrev Store := List Cell
abbrev Env' := List (Option T)
inductive Ex where
  | txt (c : Nat) | fld (c : Nat) (f : Str) (t : T)
inductive Out (α : Type) where
  | ok (a : α) (h : Store) | ex (e : Ex) (h : Store) | bad
abbrev M (α : Type) := Env' → Store → Out α
def Out.bind {α β : Type} : Out α → (α → Store → Out β) → Out β
  | .ok a h, k => k a h
  | .ex e h, _ => .ex e h
  | .bad, _ => .bad
@[simp] theorem bind_ok {α β : Type} (a : α) (h : Store) (k : α → Store → Out β) : (Out.ok a h).bind k = k a h := rfl
@[simp] theorem bind_ex {α β : Type} (e : Ex) (h : Store) (k : α → Store → Out β) : (Out.ex e h).bind k = .ex e h := rfl
@[simp] theorem bind_bad {α β : Type} (k : α → Store → Out β) : Out.bad.bind k = .bad := rfl
def Out.ofO {α : Type} : Option α → Store → Out α
  | some a, h => .ok a h
  | none, _ => .bad
@[simp] theorem ofO_some {α : Type} (a : α) (h : Store) : Out.ofO (some a) h = .ok a h := rfl
@[simp] theorem ofO_none {α : Type} (h : Store) : (Out.ofO none h : Out α) = .bad := rfl
mutual
def T.pu : T → Bool
  | .loc _ => false
  | .adr _ _ _ _ => false
  | .fnc _ => false
  | .tup xs => pus xs
  | .lst xs => pus xs
  | .dct _ ts => pus ts
  | _ => true
def pus : List T → Bool
  | [] => true
  | x :: r => x.pu && pus r
end
structure Wd where
  rho : List Addr
  Phi : Hp
def SqF (K : PySem.W.Frag) (H : Hp) (p : Addr) (vs : List V) : Prop := (∃ o, H p = some (.frz o (.tup vs)) ∧ o.dict = none) ∨
  ∃ (o : Obj) (its : Array Value) (n : Nat), K.lookup p = some o ∧ (o.cls = .type "tuple" ∧ o.dict = none) ∧ o.data = .seq its n ∧ its.size ≤ sizeLine ∧ Vals vs its.toList
def FixR (K : PySem.W.Frag) (H : Hp) (p : Addr) (ks : List Str) (vs : List V) (n : Nat) : Prop := (∃ o, H p = some (.frz o (.dK ((ks.tail.map Sum.inr).zip vs))) ∧ ks.length = n + 1) ∨ (ks = [] ∧ SqF K H p vs)
mutual
def Rep (K : PySem.W.Frag) (ω : Wd) : T → V → Prop
  | .non, v => v = .non
  | .bl b, v => v = .bl b
  | .int i, v => v = .int i
  | .str s, v => v = .str s
  | .tup xs, v => ∃ p vs, v = .ref p ∧ SqT K ω.Phi p vs ∧ Reps K ω xs vs
  | .lst xs, v => ∃ p vs, v = .ref p ∧ ω.Phi p = some (.lst vs) ∧ Reps K ω xs vs
  | .loc n, v => ∃ p, v = .ref p ∧ ω.rho[n]? = some p
  | .scr ns, v => ∃ p, v = .ref p ∧ SqL K ω.Phi p (ns.map V.int)
  | .emp, v => ∃ p, v = .ref p ∧ ω.Phi p = some (.dK [])
  | .adr a d f ts, v => v = .ref a ∧ ∃ ws, (ts ≠ [] → ω.Phi d = some (.xd ([f].zip ws))) ∧ Reps K ω ts ws
  | .fnc x, v => v = .ref (He.ga K x)
  | .dct ks ts, v => ∃ p vs, v = .ref p ∧ FixR K ω.Phi p ks vs ts.length ∧ Reps K ω ts vs
def Reps (K : PySem.W.Frag) (ω : Wd) : List T → List V → Prop
  | [], vs => vs = []
  | x :: r, vs => ∃ v vr, vs = v :: vr ∧ Rep K ω x v ∧ Reps K ω r vr
end
structure Gr (ω ω' : Wd) : Prop where
  pre : ω.rho <+: ω'.rho
  phi : ∀ a o, ω.Phi a = some o → ω'.Phi a = some o
theorem Gr.refl (ω : Wd) : Gr ω ω := ⟨List.prefix_refl _, fun _ _ h => h⟩
theorem Gr.trans {ω ω1 ω2 : Wd} (a : Gr ω ω1) (b : Gr ω1 ω2) : Gr ω ω2 := ⟨a.pre.trans b.pre, fun x o h => b.phi x o (a.phi x o h)⟩
theorem rd_mono {H H' : Hp} {p : Addr} {u : HO} (m : ∀ a o, H a = some o → H' a = some o) (r : Rd H p u) : Rd H' p u := by
  rcases r with r | ⟨o, r⟩
  · exact .inl (m _ _ r)
  · exact .inr ⟨o, m _ _ r⟩
theorem sqT_mono {K : PySem.W.Frag} {H H' : Hp} {p : Addr} {vs : List V} (m : ∀ a o, H a = some o → H' a = some o) (r : SqT K H p vs) : SqT K H' p vs := by
  rcases r with r | r
  · exact .inl (rd_mono m r)
  · exact .inr r
theorem fixR_mono {K : PySem.W.Frag} {H H' : Hp} {p : Addr} {ks : List Str} {vs : List V} {n : Nat} (m : ∀ a o, H a = some o → H' a = some o) (r : FixR K H p ks vs n) : FixR K H' p ks vs n := by
  rcases r with ⟨o, r, l⟩ | ⟨e, ⟨o, r, d⟩ | r⟩
  · exact .inl ⟨o, m _ _ r, l⟩
  · exact .inr ⟨e, .inl ⟨o, m _ _ r, d⟩⟩
  · exact .inr ⟨e, .inr r⟩
theorem sqL_mono {K : PySem.W.Frag} {H H' : Hp} {p : Addr} {vs : List V} (m : ∀ a o, H a = some o → H' a = some o) (r : SqL K H p vs) : SqL K H' p vs := by
  rcases r with r | r
  · exact .inl (rd_mono m r)
  · exact .inr r
section
variable {K : PySem.W.Frag} {ω ω' : Wd}
mutual
theorem Rep.mono (g : Gr ω ω') : ∀ {t : T} {v : V}, Rep K ω t v → Rep K ω' t v
  | .non, _, h => by simpa only [Rep] using h
  | .bl _, _, h => by simpa only [Rep] using h
  | .int _, _, h => by simpa only [Rep] using h
  | .str _, _, h => by simpa only [Rep] using h
  | .tup xs, _, h => by
    simp only [Rep] at h ⊢
    obtain ⟨p, vs, e, s, r⟩ := h
    exact ⟨p, vs, e, sqT_mono g.phi s, Reps.mono g r⟩
  | .lst xs, _, h => by
    simp only [Rep] at h ⊢
    obtain ⟨p, vs, e, s, r⟩ := h
    exact ⟨p, vs, e, g.phi _ _ s, Reps.mono g r⟩
  | .loc n, _, h => by
    simp only [Rep] at h ⊢
    obtain ⟨p, e, s⟩ := h
    obtain ⟨r, q⟩ := g.pre
    refine ⟨p, e, ?_⟩
    rw [← q, List.getElem?_append_left]
    · exact s
    · exact (List.getElem?_eq_some_iff.mp s).1
  | .scr ns, _, h => by
    simp only [Rep] at h ⊢
    obtain ⟨p, e, s⟩ := h
    exact ⟨p, e, sqL_mono g.phi s⟩
  | .fnc _, _, h => by simpa only [Rep] using h
  | .adr a d f ts, _, h => by
    simp only [Rep] at h ⊢
    obtain ⟨e, ws, c, r⟩ := h
    exact ⟨e, ws, fun n => g.phi _ _ (c n), Reps.mono g r⟩
  | .emp, _, h => by
    simp only [Rep] at h ⊢
    obtain ⟨p, e, s⟩ := h
    exact ⟨p, e, g.phi _ _ s⟩
  | .dct ks ts, _, h => by
    simp only [Rep] at h ⊢
    obtain ⟨p, vs, e, s, r⟩ := h
    exact ⟨p, vs, e, fixR_mono g.phi s, Reps.mono g r⟩
theorem Reps.mono (g : Gr ω ω') : ∀ {ts : List T} {vs : List V}, Reps K ω ts vs → Reps K ω' ts vs
  | [], _, h => by simpa only [Reps] using h
  | x :: r, _, h => by
    simp only [Reps] at h ⊢
    obtain ⟨v, vr, e, a, b⟩ := h
    exact ⟨v, vr, e, Rep.mono g a, Reps.mono g b⟩
end
theorem Reps.length : ∀ {ts : List T} {vs : List V}, Reps K ω ts vs → ts.length = vs.length
  | [], _, h => by simp only [Reps] at h; rw [h]; rfl
  | x :: r, _, h => by
    simp only [Reps] at h
    obtain ⟨v, vr, e, a, b⟩ := h
    rw [e, List.length_cons, List.length_cons, Reps.length b]
theorem Reps.get : ∀ {ts : List T} {vs : List V} {i : Nat} {t : T}, Reps K ω ts vs → ts[i]? = some t → ∃ v, vs[i]? = some v ∧ Rep K ω t v
  | [], _, _, _, _, e => by simp at e
  | x :: r, _, i, t, h, e => by
    simp only [Reps] at h
    obtain ⟨v, vr, rfl, a, b⟩ := h
    cases i with
    | zero =>
      have e' : x = t := by simpa using e
      subst e'
      exact ⟨v, rfl, a⟩
    | succ i =>
      have e' : r[i]? = some t := by simpa using e
      obtain ⟨w, h1, h2⟩ := Reps.get b e'
      exact ⟨w, by simpa using h1, h2⟩
theorem Reps.getV : ∀ {ts : List T} {vs : List V} {i : Nat} {v : V}, Reps K ω ts vs → vs[i]? = some v → ∃ t, ts[i]? = some t ∧ Rep K ω t v
  | [], _, _, _, h, e => by simp only [Reps] at h; subst h; simp at e
  | x :: r, _, i, t, h, e => by
    simp only [Reps] at h
    obtain ⟨v, vr, rfl, a, b⟩ := h
    cases i with
    | zero =>
      have e' : v = t := by simpa using e
      subst e'
      exact ⟨x, rfl, a⟩
    | succ i =>
      have e' : vr[i]? = some t := by simpa using e
      obtain ⟨w, h1, h2⟩ := Reps.getV b e'
      exact ⟨w, by simpa using h1, h2⟩
theorem Reps.append : ∀ {ts us : List T} {vs ws : List V}, Reps K ω ts vs → Reps K ω us ws → Reps K ω (ts ++ us) (vs ++ ws)
  | [], _, _, _, h, q => by simp only [Reps] at h; subst h; exact q
  | x :: r, us, _, ws, h, q => by
    simp only [Reps] at h
    obtain ⟨v, vr, rfl, a, b⟩ := h
    show Reps K ω (x :: (r ++ us)) _
    simp only [Reps]
    exact ⟨v, vr ++ ws, rfl, a, Reps.append b q⟩
theorem Reps.one {t : T} {v : V} (h : Rep K ω t v) : Reps K ω [t] [v] := by
  simp only [Reps]
  exact ⟨v, [], rfl, h, rfl⟩
theorem Reps.nil : Reps K ω [] [] := by simp only [Reps]
theorem Reps.cons {t : T} {ts : List T} {v : V} {vs : List V} (h : Rep K ω t v) (q : Reps K ω ts vs) : Reps K ω (t :: ts) (v :: vs) := by
  simp only [Reps]
  exact ⟨v, vs, rfl, h, q⟩
theorem Reps.inv {t : T} {ts : List T} {vs : List V} (h : Reps K ω (t :: ts) vs) : ∃ v vr, vs = v :: vr ∧ Rep K ω t v ∧ Reps K ω ts vr := by
  simpa only [Reps] using h
theorem Reps.nil_inv {vs : List V} (h : Reps K ω [] vs) : vs = [] := by simpa only [Reps] using h
theorem Reps.take (n : Nat) : ∀ {ts : List T} {vs : List V}, Reps K ω ts vs → Reps K ω (ts.take n) (vs.take n) := by
  induction n with
  | zero => intro ts vs _; exact Reps.nil
  | succ n ih =>
    intro ts vs h
    cases ts with
    | nil => simp only [Reps] at h; subst h; exact Reps.nil
    | cons x r =>
      obtain ⟨v, vr, rfl, a, b⟩ := h.inv
      exact Reps.cons a (ih b)
theorem Reps.drop (n : Nat) : ∀ {ts : List T} {vs : List V}, Reps K ω ts vs → Reps K ω (ts.drop n) (vs.drop n) := by
  induction n with
  | zero => intro ts vs h; exact h
  | succ n ih =>
    intro ts vs h
    cases ts with
    | nil => simp only [Reps] at h; subst h; exact Reps.nil
    | cons x r =>
      obtain ⟨v, vr, rfl, a, b⟩ := h.inv
      exact ih b
theorem Reps.set {t : T} {v : V} (h : Rep K ω t v) : ∀ (n : Nat) {ts : List T} {vs : List V}, Reps K ω ts vs → Reps K ω (ts.set n t) (vs.set n v) := by
  intro n
  induction n with
  | zero =>
    intro ts vs q
    cases ts with
    | nil => simp only [Reps] at q; subst q; exact Reps.nil
    | cons x r =>
      obtain ⟨w, vr, rfl, a, b⟩ := q.inv
      exact Reps.cons h b
  | succ n ih =>
    intro ts vs q
    cases ts with
    | nil => simp only [Reps] at q; subst q; exact Reps.nil
    | cons x r =>
      obtain ⟨w, vr, rfl, a, b⟩ := q.inv
      exact Reps.cons a (ih b)
mutual
theorem Rep.pure (m : ∀ a o, ω.Phi a = some o → ω'.Phi a = some o) : ∀ {t : T} {v : V}, t.pu = true → Rep K ω t v → Rep K ω' t v
  | .non, _, _, h => by simpa only [Rep] using h
  | .bl _, _, _, h => by simpa only [Rep] using h
  | .int _, _, _, h => by simpa only [Rep] using h
  | .str _, _, _, h => by simpa only [Rep] using h
  | .tup xs, _, hp, h => by
    simp only [Rep] at h ⊢
    simp only [T.pu] at hp
    obtain ⟨p, vs, e, s, r⟩ := h
    exact ⟨p, vs, e, sqT_mono m s, Reps.pure m hp r⟩
  | .lst xs, _, hp, h => by
    simp only [Rep] at h ⊢
    simp only [T.pu] at hp
    obtain ⟨p, vs, e, s, r⟩ := h
    exact ⟨p, vs, e, m _ _ s, Reps.pure m hp r⟩
  | .loc n, _, hp, h => by simp [T.pu] at hp
  | .scr ns, _, _, h => by
    simp only [Rep] at h ⊢
    obtain ⟨p, e, s⟩ := h
    exact ⟨p, e, sqL_mono m s⟩
  | .adr _ _ _ _, _, hp, h => by simp [T.pu] at hp
  | .fnc _, _, hp, h => by simp [T.pu] at hp
  | .emp, _, _, h => by
    simp only [Rep] at h ⊢
    obtain ⟨p, e, s⟩ := h
    exact ⟨p, e, m _ _ s⟩
  | .dct ks ts, _, hp, h => by
    simp only [Rep] at h ⊢
    simp only [T.pu] at hp
    obtain ⟨p, vs, e, s, r⟩ := h
    exact ⟨p, vs, e, fixR_mono m s, Reps.pure m hp r⟩
theorem Reps.pure (m : ∀ a o, ω.Phi a = some o → ω'.Phi a = some o) : ∀ {ts : List T} {vs : List V}, pus ts = true → Reps K ω ts vs → Reps K ω' ts vs
  | [], _, _, h => by simpa only [Reps] using h
  | x :: r, _, hp, h => by
    simp only [Reps] at h ⊢
    simp only [pus, Bool.and_eq_true] at hp
    obtain ⟨v, vr, e, a, b⟩ := h
    exact ⟨v, vr, e, Rep.pure m hp.1 a, Reps.pure m hp.2 b⟩
end
end
theorem nodup_at {α : Type} {N : List α} (hN : N.Nodup) {i j : Nat} {x : α} (a : N[i]? = some x) (b : N[j]? = some x) : i = j := by
  exact (List.getElem?_inj (List.getElem?_eq_some_iff.mp a).1 hN).mp (a.trans b.symm)
def RepKV {κ : Type} (K : PySem.W.Frag) (ω : Wd) : List (κ × T) → List (κ × V) → Prop
  | [], l => l = []
  | (k, t) :: r, l => ∃ v lr, l = (k, v) :: lr ∧ Rep K ω t v ∧ RepKV K ω r lr
theorem RepKV.mono {κ : Type} {K : PySem.W.Frag} {ω ω' : Wd} (g : Gr ω ω') : ∀ {a : List (κ × T)} {b : List (κ × V)}, RepKV K ω a b → RepKV K ω' a b
  | [], _, h => h
  | (k, t) :: r, _, ⟨v, lr, e, h1, h2⟩ => ⟨v, lr, e, h1.mono g, RepKV.mono g h2⟩
def puKV {κ : Type} (l : List (κ × T)) : Bool := l.all fun p => p.2.pu
theorem RepKV.pure {κ : Type} {K : PySem.W.Frag} {ω ω' : Wd} (m : ∀ a o, ω.Phi a = some o → ω'.Phi a = some o) : ∀ {a : List (κ × T)} {b : List (κ × V)}, puKV a = true → RepKV K ω a b → RepKV K ω' a b
  | [], _, _, h => h
  | (k, t) :: r, _, hp, ⟨v, lr, e, h1, h2⟩ => by
    simp only [puKV, List.all_cons, Bool.and_eq_true] at hp
    exact ⟨v, lr, e, h1.pure m hp.1, RepKV.pure m hp.2 h2⟩
abbrev DRow := List Int × Addr × V
def entI (x : List Int × Addr × Value) : DictEntry := ⟨reduceHash (Builtin.Tuple.tupleHashOf (x.1.map hashInt)), .ref x.2.1, x.2.2⟩
def DXp (a : Addr) (l : List DRow) (h : Heap) : Prop := ∃ xs : List (List Int × Addr × Value), Paired (fun (p : DRow) (q : List Int × Addr × Value) => p.1 = q.1 ∧ p.2.1 = q.2.1 ∧ RelV p.2.2 q.2.2) l xs ∧
  ∃ o es ep, h.get? a = some o ∧ o.ExactDict ∧ o.data = .dict es ep ∧ es.toList = xs.map entI ∧ (xs.map (·.1)).Nodup
def DX (a : Addr) (l : List DRow) : HO := .ext (DXp a l)
def RepKT (K : PySem.W.Frag) (ω : Wd) : List (List Int × T) → List DRow → Prop
  | [], l => l = []
  | (k, t) :: r, l => ∃ b v lr, l = (k, b, v) :: lr ∧ SqT K ω.Phi b (k.map V.int) ∧ Rep K ω t v ∧ RepKT K ω r lr
theorem RepKT.mono {K : PySem.W.Frag} {ω ω' : Wd} (g : Gr ω ω') : ∀ {a : List (List Int × T)} {b : List DRow}, RepKT K ω a b → RepKT K ω' a b
  | [], _, h => h
  | (k, t) :: r, _, ⟨b, v, lr, e, h1, h2, h3⟩ => ⟨b, v, lr, e, sqT_mono g.phi h1, h2.mono g, RepKT.mono g h3⟩
theorem RepKT.pure {K : PySem.W.Frag} {ω ω' : Wd} (m : ∀ a o, ω.Phi a = some o → ω'.Phi a = some o) : ∀ {a : List (List Int × T)} {b : List DRow}, puKV a = true → RepKT K ω a b → RepKT K ω' a b
  | [], _, _, h => h
  | (k, t) :: r, _, hp, ⟨b, v, lr, e, h1, h2, h3⟩ => by
    simp only [puKV, List.all_cons, Bool.and_eq_true] at hp
    exact ⟨b, v, lr, e, sqT_mono m h1, h2.pure m hp.1, RepKT.pure m hp.2 h3⟩
def CellOk (K : PySem.W.Frag) (cl : Nat → Addr) (ω : Wd) (H : Hp) (p : Addr) : Cell → Prop
  | .lst xs => pus xs = true ∧ ∃ vs, H p = some (.lst vs) ∧ Reps K ω xs vs
  | .dK kvs => puKV kvs = true ∧ ∃ l, H p = some (.dK l) ∧ RepKV K ω kvs l
  | .dT kvs => (puKV kvs = true ∧ kvs.length ≤ 100000) ∧ ∃ l, ((H p = some (DX p l) ∧ (p == sysModules) = false) ∨ (l = [] ∧ H p = some (.dT []))) ∧ RepKT K ω kvs l
  | .dead => ∃ o, H p = some o ∧ ∀ fs, o ≠ .xd fs
  | .ins c fs => ∃ dx l, H p = some (.ins (cl c) dx l) ∧ RepKV K ω fs l
structure StOk (K : PySem.W.Frag) (cl : Nat → Addr) (ω : Wd) (h : Store) (H : Hp) : Prop where
  len : ω.rho.length = h.length
  nd : ω.rho.Nodup
  cells : ∀ (i : Nat) (c : Cell) (p : Addr), h[i]? = some c → ω.rho[i]? = some p → CellOk K cl ω H p c
  phi : ∀ a o, ω.Phi a = some o → H a = some o
  dis : ∀ (i : Nat) (p : Addr), ω.rho[i]? = some p → h[i]? = some .dead ∨ ω.Phi p = none
structure Nx (ω : Wd) (H : Hp) (ω' : Wd) (H' : Hp) : Prop extends Gr ω ω' where
  newR : ∀ p ∈ ω'.rho, p ∈ ω.rho ∨ H p = none
  /-- an exception's dict may be fixed when it is in hand -/
  newF : ∀ a o, ω'.Phi a = some o → ω.Phi a = some o ∨ H a = none ∨ (∃ fs, o = .xd fs) ∨ a ∈ ω.rho
  fr : ∀ a o, H a = some o → a ∉ ω.rho → H' a = some o
  dom : ∀ a, H' a = none → H a = none
theorem Nx.refl (ω : Wd) (H : Hp) : Nx ω H ω H := ⟨Gr.refl ω, fun _ h => .inl h, fun _ _ h => .inl h, fun _ _ h _ => h, fun _ h => h⟩
theorem Nx.trans {ω ω1 ω2 : Wd} {H H1 H2 : Hp} (a : Nx ω H ω1 H1) (b : Nx ω1 H1 ω2 H2) : Nx ω H ω2 H2 where
  toGr := a.toGr.trans b.toGr
  newR := fun p hp => (b.newR p hp).elim (fun q => a.newR p q) fun q => .inr (a.dom p q)
  newF := fun x o h => (b.newF x o h).elim (fun q => a.newF x o q) fun q => q.elim (fun q => .inr (.inl (a.dom x q))) fun q => q.elim (fun q => .inr (.inr (.inl q))) fun q => (a.newR x q).elim (fun q => .inr (.inr (.inr q))) fun q => .inr (.inl q)
  fr := fun x o h n => b.fr x o (a.fr x o h n) fun m => (a.newR x m).elim n fun q => by rw [q] at h; cases h
  dom := fun x h => a.dom x (b.dom x h)
section
variable {K : PySem.W.Frag} {cl : Nat → Addr} {ω : Wd} {h : Store} {H : Hp}
theorem StOk.at_ (S : StOk K cl ω h H) {i : Nat} {c : Cell} (e : h[i]? = some c) : ∃ p, ω.rho[i]? = some p ∧ CellOk K cl ω H p c := by
  have hl : i < ω.rho.length := by rw [S.len]; exact (List.getElem?_eq_some_iff.mp e).1
  exact ⟨ω.rho[i], List.getElem?_eq_getElem hl, S.cells i c _ e (List.getElem?_eq_getElem hl)⟩
theorem CellOk.hit {p : Addr} {c : Cell} (k : CellOk K cl ω H p c) : ∃ o, H p = some o := by
  cases c with
  | lst xs => obtain ⟨_, vs, e, _⟩ := k; exact ⟨_, e⟩
  | dK xs => obtain ⟨_, vs, e, _⟩ := k; exact ⟨_, e⟩
  | dT xs =>
    obtain ⟨_, vs, e, _⟩ := k
    rcases e with ⟨e, _⟩ | ⟨_, e⟩
    · exact ⟨_, e⟩
    · exact ⟨_, e⟩
  | dead => obtain ⟨o, e, _⟩ := k; exact ⟨o, e⟩
  | ins c xs => obtain ⟨dx, vs, e, _⟩ := k; exact ⟨_, e⟩
theorem StOk.somR (S : StOk K cl ω h H) {p : Addr} (hp : p ∈ ω.rho) : ∃ o, H p = some o := by
  obtain ⟨i, hi, e⟩ := List.getElem_of_mem hp
  have hi' : i < h.length := by rw [← S.len]; exact hi
  exact (S.cells i h[i] p (List.getElem?_eq_getElem hi') (by rw [List.getElem?_eq_getElem hi, e])).hit
theorem CellOk.move {ω' : Wd} {H' : Hp} {p : Addr} {c : Cell} (k : CellOk K cl ω H p c) (g : Gr ω ω') (e : ∀ o, H p = some o → H' p = some o) : CellOk K cl ω' H' p c := by
  cases c with
  | lst xs => obtain ⟨a, vs, q, r⟩ := k; exact ⟨a, vs, e _ q, r.mono g⟩
  | dK xs => obtain ⟨a, vs, q, r⟩ := k; exact ⟨a, vs, e _ q, r.mono g⟩
  | dT xs => obtain ⟨a, vs, q, r⟩ := k; exact ⟨a, vs, q.elim (fun z => .inl ⟨e _ z.1, z.2⟩) (fun z => .inr ⟨z.1, e _ z.2⟩), r.mono g⟩
  | dead => obtain ⟨o, q, n⟩ := k; exact ⟨o, e _ q, n⟩
  | ins c xs => obtain ⟨dx, vs, q, r⟩ := k; exact ⟨dx, vs, e _ q, r.mono g⟩
def Wd.fix (ω : Wd) (p : Addr) (o : HO) : Wd := ⟨ω.rho, upd ω.Phi p o⟩
def Wd.cell (ω : Wd) (p : Addr) : Wd := ⟨ω.rho ++ [p], ω.Phi⟩
theorem gr_fix {p : Addr} {o : HO} (n : ω.Phi p = none) : Gr ω (ω.fix p o) := ⟨List.prefix_refl _, fun a u e => by
  show upd ω.Phi p o a = _
  rw [upd_ne (ne_of_none e n)]
  exact e⟩
theorem gr_cell {p : Addr} : Gr ω (ω.cell p) := ⟨List.prefix_append _ _, fun _ _ e => e⟩
theorem StOk.fixIt (S : StOk K cl ω h H) {p : Addr} {o : HO} (e : H p = some o) (n : ω.Phi p = none) (nr : p ∉ ω.rho) : StOk K cl (ω.fix p o) h H where
  len := S.len
  nd := S.nd
  cells := fun i c q a b => (S.cells i c q a b).move (gr_fix n) fun _ z => z
  phi := fun a u z => by
    have z' : upd ω.Phi p o a = some u := z
    by_cases q : a = p
    · subst q; rw [upd_same] at z'; cases z'; exact e
    · rw [upd_ne q] at z'; exact S.phi a u z'
  dis := fun i q hq => (S.dis i q hq).imp id fun z => by
    show upd ω.Phi p o q = none
    rw [upd_ne (fun z : q = p => nr (by rw [← z]; exact List.mem_of_getElem? hq))]
    exact z
theorem Nx.fixIt {ω0 : Wd} {H0 : Hp} (N : Nx ω0 H0 ω H) {p : Addr} {o : HO} (n : ω.Phi p = none) (f : H0 p = none) : Nx ω0 H0 (ω.fix p o) H where
  toGr := N.toGr.trans (gr_fix n)
  newR := N.newR
  newF := fun a u z => by
    have z' : upd ω.Phi p o a = some u := z
    by_cases q : a = p
    · subst q; exact .inr (.inl f)
    · rw [upd_ne q] at z'; exact N.newF a u z'
  fr := N.fr
  dom := N.dom
theorem Nx.fixX {p : Addr} {fs : List (Str × V)} (n : ω.Phi p = none) : Nx ω H (ω.fix p (.xd fs)) H where
  toGr := gr_fix n
  newR := fun _ h => .inl h
  newF := fun a u z => by
    have z' : upd ω.Phi p (.xd fs) a = some u := z
    by_cases q : a = p
    · subst q; rw [upd_same] at z'; cases z'; exact .inr (.inr (.inl ⟨fs, rfl⟩))
    · rw [upd_ne q] at z'; exact .inl z'
  fr := fun _ _ h _ => h
  dom := fun _ h => h
theorem StOk.cellIt (S : StOk K cl ω h H) {p : Addr} {c : Cell} (k : CellOk K cl ω H p c) (n : ω.Phi p = none) (nr : p ∉ ω.rho) : StOk K cl (ω.cell p) (h ++ [c]) H where
  len := by show (ω.rho ++ [p]).length = _; simp [S.len]
  nd := by
    show (ω.rho ++ [p]).Nodup
    rw [List.nodup_append]
    refine ⟨S.nd, by simp, fun a ha b hb z => ?_⟩
    have : b = p := by simpa using hb
    subst this; subst z
    exact nr ha
  cells := fun i c' q a b => by
    have b' : (ω.rho ++ [p])[i]? = some q := b
    by_cases hi : i < h.length
    · rw [List.getElem?_append_left hi] at a
      rw [List.getElem?_append_left (by rw [S.len]; exact hi)] at b'
      exact (S.cells i c' q a b').move gr_cell fun _ z => z
    · have hi2 : i = h.length := by
        have := (List.getElem?_eq_some_iff.mp a).1
        simp at this; omega
      subst hi2
      rw [List.getElem?_append_right (Nat.le_refl _)] at a
      rw [List.getElem?_append_right (by rw [S.len]; exact Nat.le_refl _), S.len] at b'
      simp at a b'
      subst a; subst b'
      exact k.move gr_cell fun _ z => z
  phi := S.phi
  dis := fun i q hq => by
    have b : (ω.rho ++ [p])[i]? = some q := hq
    by_cases hi : i < h.length
    · rw [List.getElem?_append_left (by rw [S.len]; exact hi)] at b
      rw [List.getElem?_append_left hi]
      exact S.dis i q b
    · have lt := (List.getElem?_eq_some_iff.mp b).1
      rw [List.length_append, S.len] at lt
      have hi2 : i = h.length := by
        have : i < h.length + 1 := lt
        omega
      subst hi2
      rw [List.getElem?_append_right (by rw [S.len]; exact Nat.le_refl _), S.len] at b
      simp at b
      rw [← b]
      exact .inr n
theorem Nx.cellIt {ω0 : Wd} {H0 : Hp} (N : Nx ω0 H0 ω H) {p : Addr} (f : H0 p = none) : Nx ω0 H0 (ω.cell p) H where
  toGr := N.toGr.trans gr_cell
  newR := fun q hq => by
    have : q ∈ ω.rho ++ [p] := hq
    rcases List.mem_append.mp this with z | z
    · exact N.newR q z
    · have : q = p := by simpa using z
      rw [this]; exact .inr f
  newF := N.newF
  fr := N.fr
  dom := N.dom
theorem StOk.freshF (S : StOk K cl ω h H) {p : Addr} (n : H p = none) : ω.Phi p = none := by
  cases e : ω.Phi p with
  | none => rfl
  | some o => rw [S.phi p o e] at n; cases n
theorem StOk.freshR (S : StOk K cl ω h H) {p : Addr} (n : H p = none) : p ∉ ω.rho := fun m => by
  obtain ⟨o, e⟩ := S.somR m
  rw [n] at e; cases e
theorem StOk.lay (S : StOk K cl ω h H) {p : Addr} {o : HO} (n : H p = none) : StOk K cl ω h (upd H p o) where
  len := S.len
  nd := S.nd
  cells := fun i c q a b => (S.cells i c q a b).move (Gr.refl _) fun u z => by rw [upd_ne (ne_of_none z n)]; exact z
  phi := fun a u z => by rw [upd_ne (ne_of_none (S.phi a u z) n)]; exact S.phi a u z
  dis := S.dis
theorem nx_lay {p : Addr} {o : HO} (n : H p = none) : Nx ω H ω (upd H p o) where
  toGr := Gr.refl _
  newR := fun _ h => .inl h
  newF := fun _ _ h => .inl h
  fr := fun a u z _ => by rw [upd_ne (ne_of_none z n)]; exact z
  dom := fun a z => by
    by_cases q : a = p
    · rw [q]; exact n
    · rw [upd_ne q] at z; exact z
theorem StOk.newF (S : StOk K cl ω h H) {p : Addr} {o : HO} (n : H p = none) : StOk K cl (ω.fix p o) h (upd H p o) :=
  (S.lay n).fixIt upd_same (S.freshF n) (S.freshR n)
theorem nx_newF (S : StOk K cl ω h H) {p : Addr} {o : HO} (n : H p = none) : Nx ω H (ω.fix p o) (upd H p o) := (nx_lay n).fixIt (S.freshF n) n
theorem StOk.put (S : StOk K cl ω h H) {i : Nat} {p : Addr} {c c0 : Cell} {o : HO} (e0 : h[i]? = some c0) (nd0 : c0 ≠ .dead) (e : ω.rho[i]? = some p) (k : CellOk K cl ω (upd H p o) p c) : StOk K cl ω (h.set i c) (upd H p o) where
  len := by rw [List.length_set]; exact S.len
  nd := S.nd
  cells := fun j d q a b => by
    by_cases hij : i = j
    · subst hij
      have hi : i < h.length := by rw [← S.len]; exact (List.getElem?_eq_some_iff.mp e).1
      rw [List.getElem?_set_self hi] at a
      cases a
      rw [e] at b; cases b
      exact k
    · rw [List.getElem?_set_ne hij] at a
      refine (S.cells j d q a b).move (Gr.refl _) fun u z => ?_
      rw [upd_ne ?_]
      · exact z
      · intro z; subst z
        exact hij (nodup_at S.nd e b)
  phi := fun a u z => by
    rw [upd_ne ?_]
    · exact S.phi a u z
    · intro q; subst q
      rcases S.dis i _ e with w | w
      · rw [e0] at w
        cases w
        exact nd0 rfl
      · rw [w] at z; cases z
  dis := fun j q hq => by
    by_cases hij : i = j
    · subst hij
      rw [e] at hq
      cases hq
      rcases S.dis i _ e with w | w
      · rw [e0] at w
        cases w
        exact absurd rfl nd0
      · exact .inr w
    · rw [List.getElem?_set_ne hij]
      exact S.dis j q hq
theorem nx_put (S : StOk K cl ω h H) {i : Nat} {p : Addr} {o : HO} (e : ω.rho[i]? = some p) : Nx ω H ω (upd H p o) where
  toGr := Gr.refl _
  newR := fun _ h => .inl h
  newF := fun _ _ h => .inl h
  fr := fun a u z n => by rw [upd_ne (fun q : a = p => n (by rw [q]; exact List.mem_of_getElem? e))]; exact z
  dom := fun a z => by
    by_cases q : a = p
    · rw [q, upd_same] at z; cases z
    · rw [upd_ne q] at z; exact z
end
def XOk (K : PySem.W.Frag) (cl : Nat → Addr) (ω : Wd) (H : Hp) : Ex → Value → Option Addr → Prop
  | .txt c, cls, d => cls = .ref (cl c) ∧ d = none
  | .fld c f t, cls, d => cls = .ref (cl c) ∧ t.pu = true ∧ ∃ dx v, d = some dx ∧ H dx = some (.xd [(f, v)]) ∧ Rep K ω t v
def PostG (K : PySem.W.Frag) (cl : Nat → Addr) (W : WX) (ω : Wd) (H : Hp) (σ : L2.St) {α : Type} (o : Out α) (R : α → Store → Wd → Hp → Prop) : Prop :=
  match o with
  | .ok a h' => ∀ ω' H', Nx ω H ω' H' → StOk K cl ω' h' H' → R a h' ω' H'
  | .ex e h' => ∀ ω' H' cls d, Nx ω H ω' H' → StOk K cl ω' h' H' → XOk K cl ω' H' e cls d → W cls d σ H'
  | .bad => False
section
variable {K : PySem.W.Frag} {cl : Nat → Addr} {W : WX} {ω : Wd} {H : Hp} {σ : L2.St} {α β : Type}
theorem PostG.bind {o : Out α} {k : α → Store → Out β} {R : β → Store → Wd → Hp → Prop} (h : PostG K cl W ω H σ (o.bind k) R) :
    PostG K cl W ω H σ o fun a h1 ω1 H1 => PostG K cl W ω1 H1 σ (k a h1) R := by
  cases o with
  | bad => exact h
  | ex e h' => exact h
  | ok a h' =>
    intro ω1 H1 N1 S1
    have q : PostG K cl W ω H σ (k a h') R := h
    revert q
    cases k a h' with
    | bad => exact fun q => q
    | ex e h2 => exact fun q ω2 H2 cls d N2 S2 x => q ω2 H2 cls d (N1.trans N2) S2 x
    | ok b h2 => exact fun q ω2 H2 N2 S2 => q ω2 H2 (N1.trans N2) S2
theorem PostG.mono {o : Out α} {R R' : α → Store → Wd → Hp → Prop} (h : PostG K cl W ω H σ o R) (m : ∀ a h' ω' H', Nx ω H ω' H' → StOk K cl ω' h' H' → R a h' ω' H' → R' a h' ω' H') : PostG K cl W ω H σ o R' := by
  cases o with
  | bad => exact h
  | ex e h' => exact h
  | ok a h' => exact fun ω' H' N S => m a h' ω' H' N S (h ω' H' N S)
theorem PostG.ofO {o : Option α} {h : Store} {R : α → Store → Wd → Hp → Prop} (q : PostG K cl W ω H σ (Out.ofO o h) R) : ∃ a, o = some a ∧ ∀ ω' H', Nx ω H ω' H' → StOk K cl ω' h H' → R a h ω' H' := by
  cases o with
  | none => exact q.elim
  | some a => exact ⟨a, rfl, q⟩
end
def EnvOk (K : PySem.W.Frag) (ω : Wd) (env : Env') (σ : L2.St) : Prop := env.length = σ.length ∧ ∀ (i : Nat) (t : T), env[i]? = some (some t) → ∃ v : V, σ[i]? = some (some v) ∧ Rep K ω t v
theorem EnvOk.mono {K : PySem.W.Frag} {ω ω' : Wd} {env : Env'} {σ : L2.St} (e : EnvOk K ω env σ) (g : Gr ω ω') : EnvOk K ω' env σ :=
  ⟨e.1, fun i t h => let ⟨v, a, b⟩ := e.2 i t h; ⟨v, a, b.mono g⟩⟩
theorem EnvOk.set {K : PySem.W.Frag} {ω : Wd} {env : Env'} {σ : L2.St} (e : EnvOk K ω env σ) (i : Nat) {t : T} {v : V} (r : Rep K ω t v) : EnvOk K ω (env.set i (some t)) (σ.set i (some v)) := by
  refine ⟨by simp [e.1], fun j u h => ?_⟩
  by_cases q : i = j
  · subst q
    have hi : i < env.length := by
      have := (List.getElem?_eq_some_iff.mp h).1
      simpa using this
    rw [List.getElem?_set_self hi] at h
    cases h
    exact ⟨v, by rw [List.getElem?_set_self (by rw [← e.1]; exact hi)], r⟩
  · rw [List.getElem?_set_ne q] at h
    obtain ⟨w, a, b⟩ := e.2 j u h
    exact ⟨w, by rw [List.getElem?_set_ne q]; exact a, b⟩
theorem EnvOk.drop {K : PySem.W.Frag} {ω : Wd} {env : Env'} {σ : L2.St} (e : EnvOk K ω env σ) (i : Nat) : EnvOk K ω (env.set i none) σ := by
  refine ⟨by simp [e.1], fun j u h => ?_⟩
  by_cases q : i = j
  · subst q
    have hi : i < env.length := by
      have := (List.getElem?_eq_some_iff.mp h).1
      simpa using this
    rw [List.getElem?_set_self hi] at h
    cases h
  · rw [List.getElem?_set_ne q] at h
    exact e.2 j u h
variable (K : PySem.W.Frag) (cl : Nat → Addr) (W : WX)
def tE (m : M T) : TE := fun σ H Q => ∃ env h ω, EnvOk K ω env σ ∧ StOk K cl ω h H ∧ PostG K cl W ω H σ (m env h) fun t _ ω' H' => ∀ v, Rep K ω' t v → Q v H'
def tA (m : M (List T)) : TA := fun σ H Q => ∃ env h ω, EnvOk K ω env σ ∧ StOk K cl ω h H ∧ PostG K cl W ω H σ (m env h) fun ts _ ω' H' => ∀ vs, Reps K ω' ts vs → Q vs H'
def tT (m : M Bool) : TT := fun σ H Q => ∃ env h ω, EnvOk K ω env σ ∧ StOk K cl ω h H ∧ PostG K cl W ω H σ (m env h) fun b _ _ H' => Q b H'
def tN (m : M (List T)) : TE := fun σ H Q => ∃ env h ω, EnvOk K ω env σ ∧ StOk K cl ω h H ∧ PostG K cl W ω H σ (m env h) fun ts _ ω' H' => ∀ l vs, Reps K ω' ts vs → H' l = some (.lst vs) → ω'.Phi l = none → l ∉ ω'.rho → H l = none → Q (.ref l) H'
end Sm
namespace Sm
open PySem PySem.Spec PyProof.Rows L2
section
variable {X : Cx}
theorem _root_.L2.PE.weak {e : Expr} {t t' : TE} (h : PE X e t) (m : ∀ σ H Q, t' σ H Q → t σ H Q) : PE X e t' := ⟨fun pins s σ H Q I q => h.run pins s σ H Q I (m σ H Q q)⟩
theorem _root_.L2.PT.weak {e : Expr} {t t' : TT} (h : PT X e t) (m : ∀ σ H Q, t' σ H Q → t σ H Q) : PT X e t' := ⟨fun pins s σ H Q I q => h.run pins s σ H Q I (m σ H Q q)⟩
theorem _root_.L2.PW.weak {e : Expr} {t t' : TT} (h : PW X e t) (m : ∀ σ H Q, t' σ H Q → t σ H Q) : PW X e t' := ⟨fun wh pins s σ H Q I q => h.run wh pins s σ H Q I (m σ H Q q)⟩
theorem _root_.L2.PA.weak {e : List Expr} {t t' : TA} (h : PA X e t) (m : ∀ σ H Q, t' σ H Q → t σ H Q) : PA X e t' := ⟨fun pos pins s σ H Q I q => h.run pos pins s σ H Q I (m σ H Q q)⟩
theorem _root_.L2.PS.weak {e : Stmt} {t t' : TS} (h : PS X e t) (m : ∀ D σ H, t' D σ H → t D σ H) : PS X e t' := ⟨fun pins s σ H D I q => h.run pins s σ H D I (m D σ H q)⟩
theorem _root_.L2.PSs.weak {e : List Stmt} {t t' : TS} (h : PSs X e t) (m : ∀ D σ H, t' D σ H → t D σ H) : PSs X e t' := ⟨fun pins s σ H D I q => h.run pins s σ H D I (m D σ H q)⟩
end
@[simp] def lstOf (h : Store) : T → Option (List T)
  | .lst xs => some xs
  | .loc n => match h[n]? with
    | some (.lst xs) => some xs
    | _ => none
  | _ => none
@[simp] def tupOf : T → Option (List T)
  | .tup xs => some xs
  | _ => none
@[simp] def seqOf (h : Store) : T → Option (List T)
  | .tup xs => some xs
  | .scr ns => some (ns.map .int)
  | t => lstOf h t
section
variable {K : PySem.W.Frag} {cl : Nat → Addr} {ω : Wd} {h : Store} {H : Hp}
theorem lstOf_ok (S : StOk K cl ω h H) {t : T} {v : V} {xs : List T} (r : Rep K ω t v) (e : lstOf h t = some xs) : ∃ p vs, v = .ref p ∧ H p = some (.lst vs) ∧ Reps K ω xs vs := by
  cases t with
  | lst ys =>
    simp only [lstOf, Option.some.injEq] at e
    subst e
    simp only [Rep] at r
    obtain ⟨p, vs, a, b, c⟩ := r
    exact ⟨p, vs, a, S.phi _ _ b, c⟩
  | loc n =>
    simp only [Rep] at r
    obtain ⟨p, rfl, q⟩ := r
    simp only [lstOf] at e
    cases hn : h[n]? with
    | none => rw [hn] at e; cases e
    | some c =>
      rw [hn] at e
      cases c with
      | lst ys =>
        cases e
        obtain ⟨_, vs, a, b⟩ := S.cells n _ p hn q
        exact ⟨p, vs, rfl, a, b⟩
      | _ => cases e
  | _ => simp [lstOf] at e
theorem tupOf_ok (S : StOk K cl ω h H) {t : T} {v : V} {xs : List T} (r : Rep K ω t v) (e : tupOf t = some xs) : ∃ p vs, v = .ref p ∧ SqT K H p vs ∧ Reps K ω xs vs := by
  cases t with
  | tup ys =>
    simp only [tupOf, Option.some.injEq] at e
    subst e
    simp only [Rep] at r
    obtain ⟨p, vs, a, b, c⟩ := r
    exact ⟨p, vs, a, sqT_mono S.phi b, c⟩
  | _ => simp [tupOf] at e
theorem reps_ints : ∀ ns : List Int, Reps K ω (ns.map T.int) (ns.map V.int)
  | [] => by simp only [List.map_nil, Reps]
  | n :: r => by
    simp only [List.map_cons, Reps, Rep]
    exact ⟨_, _, rfl, rfl, reps_ints r⟩
theorem seqOf_ok (S : StOk K cl ω h H) {t : T} {v : V} {xs : List T} (r : Rep K ω t v) (e : seqOf h t = some xs) : ∃ p vs, v = .ref p ∧ (SqL K H p vs ∨ SqT K H p vs) ∧ Reps K ω xs vs := by
  cases t with
  | tup ys =>
    obtain ⟨p, vs, a, b, c⟩ := tupOf_ok (xs := xs) S r (by simpa [seqOf] using e)
    exact ⟨p, vs, a, .inr b, c⟩
  | scr ns =>
    simp only [seqOf, Option.some.injEq] at e
    subst e
    simp only [Rep] at r
    obtain ⟨p, a, b⟩ := r
    exact ⟨p, ns.map V.int, a, .inl (sqL_mono S.phi b), reps_ints ns⟩
  | _ =>
    obtain ⟨p, vs, a, b, c⟩ := lstOf_ok (xs := xs) S r e
    exact ⟨p, vs, a, .inl (SqL.of b), c⟩
theorem lst_at (S : StOk K cl ω h H) {n : Nat} {v : V} {xs : List T} (r : Rep K ω (.loc n) v) (e : h[n]? = some (.lst xs)) : ∃ p vs, v = .ref p ∧ ω.rho[n]? = some p ∧ H p = some (.lst vs) ∧ Reps K ω xs vs ∧ pus xs = true := by
  simp only [Rep] at r
  obtain ⟨p, rfl, q⟩ := r
  obtain ⟨a, vs, b, c⟩ := S.cells n _ p e q
  exact ⟨p, vs, rfl, q, b, c, a⟩
end
section
variable {X : Cx} {cl : Nat → Addr} {W : WX}
def mVar (i : Nat) : M T := fun env h => match env[i]? with
  | some (some t) => .ok t h
  | _ => .bad
def mC (t : T) : M T := fun _ h => .ok t h
theorem k_var {e : Expr} {i : Nat} (hp : PE X e (tVar i)) : PE X e (tE X.K cl W (mVar i)) := by
  refine hp.weak fun σ H Q ⟨env, h, ω, he, hs, q⟩ => ?_
  unfold mVar at q
  cases hi : env[i]? with
  | none => rw [hi] at q; exact q.elim
  | some o =>
    rw [hi] at q
    cases o with
    | none => exact q.elim
    | some t =>
      obtain ⟨v, e1, r⟩ := he.2 i t hi
      exact ⟨v, e1, q ω H (Nx.refl _ _) hs v r⟩
theorem k_const {e : Expr} {t : T} {v : V} (hp : PE X e (tC v)) (r : ∀ ω, Rep X.K ω t v) : PE X e (tE X.K cl W (mC t)) :=
  hp.weak fun σ H Q ⟨env, h, ω, he, hs, q⟩ => q ω H (Nx.refl _ _) hs v (r ω)
theorem k_int {i : Int} {j pos} : PE X (.Constant (.int i) j pos) (tE X.K cl W (mC (.int i))) := k_const pe_int fun _ => by simp only [Rep]
theorem k_bl {b : Bool} {j pos} : PE X (.Constant (.bool b) j pos) (tE X.K cl W (mC (.bl b))) := k_const pe_bl fun _ => by simp only [Rep]
theorem k_non {j pos} : PE X (.Constant .none j pos) (tE X.K cl W (mC .non)) := k_const pe_non fun _ => by simp only [Rep]
theorem k_str {x : Str} {j pos} : PE X (.Constant (.str x) j pos) (tE X.K cl W (mC (.str x))) := k_const pe_str fun _ => by simp only [Rep]
end
abbrev F2 := T → T → Store → Option T
abbrev F1 := T → Store → Option T
abbrev FA := List T → Store → Option T
def rV2 (K : PySem.W.Frag) (cl : Nat → Addr) (f : F2) : R2 := fun x y H Q => ∃ a b h ω t, StOk K cl ω h H ∧ Rep K ω a x ∧ Rep K ω b y ∧ f a b h = some t ∧ ∀ ω' H' v, Nx ω H ω' H' → StOk K cl ω' h H' → Rep K ω' t v → Q v H'
def rVA (K : PySem.W.Frag) (cl : Nat → Addr) (f : FA) : List V → Hp → VK → Prop := fun xs H Q => ∃ as h ω t, StOk K cl ω h H ∧ Reps K ω as xs ∧ f as h = some t ∧ ∀ ω' H' v, Nx ω H ω' H' → StOk K cl ω' h H' → Rep K ω' t v → Q v H'
def mBin (f : F2) (m n : M T) : M T := fun env h => (m env h).bind fun a h1 => (n env h1).bind fun b h2 => Out.ofO (f a b h2) h2
def mUn (f : F1) (m : M T) : M T := fun env h => (m env h).bind fun a h1 => Out.ofO (f a h1) h1
def mTst (m : M T) : M Bool := fun env h => (m env h).bind fun a h1 => match a with
  | .bl b => .ok b h1
  | _ => .bad
section
variable {X : Cx} {cl : Nat → Addr} {W : WX} {a b : Expr} {m n : M T} {f : F2} {pos : Pos}
theorem two_step {K : PySem.W.Frag} {σ : L2.St} {H : Hp} {Q : VK} (h : tE K cl W (mBin f m n) σ H Q) : tE K cl W m σ H fun x H1 => tE K cl W n σ H1 fun y H2 => rV2 K cl f x y H2 Q := by
  obtain ⟨env, h, ω, he, hs, q⟩ := h
  refine ⟨env, h, ω, he, hs, (PostG.bind q).mono fun tx h1 ω1 H1 N1 S1 q1 vx rx => ⟨env, h1, ω1, he.mono N1.toGr, S1, (PostG.bind q1).mono fun ty h2 ω2 H2 N2 S2 q2 vy ry => ?_⟩⟩
  obtain ⟨t, e, q3⟩ := q2.ofO
  exact ⟨tx, ty, h2, ω2, t, S2, rx.mono N2.toGr, ry, e, fun ω' H' v N S r => q3 ω' H' N S v r⟩
theorem k_bin {op : Operator} (ho : OpR X (binaryOp op) (rV2 X.K cl f)) (ha : PE X a (tE X.K cl W m)) (hb : PE X b (tE X.K cl W n)) : PE X (.BinOp a op b pos) (tE X.K cl W (mBin f m n)) :=
  (pe_op ho ha hb).weak fun _ _ _ h => two_step h
theorem k_cmp {op : CmpOp} (ho : OpR X (compareOp op) (rV2 X.K cl f)) (hm : behindInMarks op b = false) (ha : PE X a (tE X.K cl W m)) (hb : PE X b (tE X.K cl W n)) : PE X (.Compare a [op] [b] pos) (tE X.K cl W (mBin f m n)) :=
  (pe_cmpR ho ha hb hm).weak fun _ _ _ h => two_step h
theorem tst_step {K : PySem.W.Frag} {σ : L2.St} {H : Hp} {Q : Bool → Hp → Prop} (h : tT K cl W (mTst m) σ H Q) : tE K cl W m σ H fun x H' => ∃ k, x = .bl k ∧ Q k H' := by
  obtain ⟨env, h, ω, he, hs, q⟩ := h
  refine ⟨env, h, ω, he, hs, (PostG.bind q).mono fun tx h1 ω1 H1 N1 S1 q1 vx rx => ?_⟩
  cases tx with
  | bl b =>
    simp only [Rep] at rx
    exact ⟨b, rx, q1 ω1 H1 (Nx.refl _ _) S1⟩
  | _ => exact q1.elim
theorem kt_cmp {op : CmpOp} (ho : OpR X (compareOp op) (rV2 X.K cl f)) (hm : behindInMarks op b = false) (ha : PE X a (tE X.K cl W m)) (hb : PE X b (tE X.K cl W n)) : PT X (.Compare a [op] [b] pos) (tT X.K cl W (mTst (mBin f m n))) := by
  refine (pt_cmpR ho ha hb hm).weak fun σ H Q h => ?_
  exact two_step (tst_step h)
def truF : T → Store → Option Bool
  | .non, _ => some false
  | .bl b, _ => some b
  | .int i, _ => some (i != 0)
  | .str y, _ => if y.length ≤ sizeLine then some ((y.length : Int) != 0) else none
  | .tup xs, _ => some (!xs.isEmpty)
  | .lst xs, _ => some (!xs.isEmpty)
  | .loc n, h => match h[n]? with
    | some (.lst xs) => some (!xs.isEmpty)
    | _ => none
  | .scr _, _ => none
  | .emp, _ => none
  | .adr _ _ _ _, _ => none
  | .fnc _, _ => none
  | .dct _ _, _ => none
def mTru (m : M T) : M Bool := fun env h => (m env h).bind fun a h1 => Out.ofO (truF a h1) h1
theorem Reps.empty {K : PySem.W.Frag} {ω : Wd} {xs : List T} {vs : List V} (r : Reps K ω xs vs) : (!xs.isEmpty) = !vs.isEmpty := by
  have := r.length
  cases xs <;> cases vs <;> simp_all
theorem truF_ok {K : PySem.W.Frag} {ω : Wd} {h : Store} {H : Hp} (S : StOk K cl ω h H) {t : T} {v : V} {k : Bool} (r : Rep K ω t v) (e : truF t h = some k) : TruV K v H k := by
  cases t with
  | non => simp only [Rep] at r; subst r; simp only [truF, Option.some.injEq] at e; exact e.symm
  | bl b => simp only [Rep] at r; subst r; simp only [truF, Option.some.injEq] at e; exact e.symm
  | int b => simp only [Rep] at r; subst r; simp only [truF, Option.some.injEq] at e; exact e.symm
  | str b =>
    simp only [Rep] at r; subst r
    simp only [truF] at e
    split at e
    · exact ⟨by assumption, by simpa using e.symm⟩
    · cases e
  | tup xs =>
    obtain ⟨p, vs, rfl, a, b⟩ := tupOf_ok (xs := xs) S r rfl
    simp only [truF, Option.some.injEq] at e
    exact .inr (.inl ⟨vs, a, by rw [← e]; exact b.empty⟩)
  | lst xs =>
    obtain ⟨p, vs, rfl, a, b⟩ := lstOf_ok (xs := xs) S r rfl
    simp only [truF, Option.some.injEq] at e
    exact .inl ⟨vs, SqL.of a, by rw [← e]; exact b.empty⟩
  | loc n =>
    simp only [truF] at e
    cases hn : h[n]? with
    | none => rw [hn] at e; cases e
    | some c =>
      rw [hn] at e
      cases c with
      | lst xs =>
        obtain ⟨p, vs, rfl, a, b⟩ := lstOf_ok (xs := xs) S r (by simp [lstOf, hn])
        simp only [Option.some.injEq] at e
        exact .inl ⟨vs, SqL.of a, by rw [← e]; exact b.empty⟩
      | _ => cases e
  | scr ns => simp [truF] at e
  | emp => simp [truF] at e
  | adr a d f ts => simp [truF] at e
  | fnc x => simp [truF] at e
  | dct ks ts => simp [truF] at e
theorem kt_tru {e : Expr} (h : PE X e (tE X.K cl W m)) (he : ∀ whole, isTrue e X.env whole = (do let v ← whole; standAt e.pos; holding [v] (truthy v)) := by intro _; rfl) : PT X e (tT X.K cl W (mTru m)) := by
  refine (pt_truth h he).weak fun σ H Q ⟨env, h, ω, he, hs, q⟩ => ?_
  refine ⟨env, h, ω, he, hs, (PostG.bind q).mono fun tx h1 ω1 H1 N1 S1 q1 vx rx => ?_⟩
  obtain ⟨k, e, q2⟩ := q1.ofO
  exact ⟨k, truF_ok S1 rx e, q2 ω1 H1 (Nx.refl _ _) S1⟩
def mAndT (m n : M Bool) : M Bool := fun env h => (m env h).bind fun a h1 => if a = true then n env h1 else .ok false h1
def mOrT (m n : M Bool) : M Bool := fun env h => (m env h).bind fun a h1 => if a = true then .ok true h1 else n env h1
def mNotT (m : M Bool) : M Bool := fun env h => (m env h).bind fun a h1 => .ok (!a) h1
variable {mb nb : M Bool} {rest : List Expr}
theorem kw_and1 (ha : PT X a (tT X.K cl W mb)) : PW X (.BoolOp .And [a] pos) (tT X.K cl W mb) := pw_and1 ha
theorem kw_or1 (ha : PT X a (tT X.K cl W mb)) : PW X (.BoolOp .Or [a] pos) (tT X.K cl W mb) := pw_or1 ha
theorem kw_and (ha : PT X a (tT X.K cl W mb)) (hb : PW X (.BoolOp .And (b :: rest) pos) (tT X.K cl W nb)) : PW X (.BoolOp .And (a :: b :: rest) pos) (tT X.K cl W (mAndT mb nb)) := by
  refine (pw_and ha hb).weak fun σ H Q ⟨env, h, ω, he, hs, q⟩ => ⟨env, h, ω, he, hs, (PostG.bind q).mono fun x h1 ω1 H1 N1 S1 q1 => ?_⟩
  cases x with
  | true => rw [if_pos rfl] at q1 ⊢; exact ⟨env, h1, ω1, he.mono N1.toGr, S1, q1⟩
  | false => rw [if_neg Bool.false_ne_true] at q1 ⊢; exact q1 ω1 H1 (Nx.refl _ _) S1
theorem kw_or (ha : PT X a (tT X.K cl W mb)) (hb : PW X (.BoolOp .Or (b :: rest) pos) (tT X.K cl W nb)) : PW X (.BoolOp .Or (a :: b :: rest) pos) (tT X.K cl W (mOrT mb nb)) := by
  refine (pw_or ha hb).weak fun σ H Q ⟨env, h, ω, he, hs, q⟩ => ⟨env, h, ω, he, hs, (PostG.bind q).mono fun x h1 ω1 H1 N1 S1 q1 => ?_⟩
  cases x with
  | true => rw [if_pos rfl] at q1 ⊢; exact q1 ω1 H1 (Nx.refl _ _) S1
  | false => rw [if_neg Bool.false_ne_true] at q1 ⊢; exact ⟨env, h1, ω1, he.mono N1.toGr, S1, q1⟩
theorem kt_bool (h : PW X a (tT X.K cl W mb)) : PT X a (tT X.K cl W mb) := h.pt
theorem kt_not (ha : PT X a (tT X.K cl W mb)) : PT X (.UnaryOp .Not a pos) (tT X.K cl W (mNotT mb)) := by
  refine (pt_not ha).weak fun σ H Q ⟨env, h, ω, he, hs, q⟩ => ⟨env, h, ω, he, hs, (PostG.bind q).mono fun x h1 ω1 H1 N1 S1 q1 => q1 ω1 H1 (Nx.refl _ _) S1⟩
def mAndV (m n : M T) : M T := fun env h => (m env h).bind fun a h1 => match a with
  | .bl c => if c = true then n env h1 else .ok (.bl false) h1
  | _ => .bad
def mOrV (m n : M T) : M T := fun env h => (m env h).bind fun a h1 => match a with
  | .bl c => if c = true then .ok (.bl true) h1 else n env h1
  | _ => .bad
def mNotV (m : M T) : M T := fun env h => (m env h).bind fun a h1 => match a with
  | .bl c => .ok (.bl (!c)) h1
  | _ => .bad
theorem k_one {op} (h : PE X a (tE X.K cl W m)) : PE X (.BoolOp op [a] pos) (tE X.K cl W m) := pe_one h
theorem k_and (ha : PE X a (tE X.K cl W m)) (hb : PE X (.BoolOp .And (b :: rest) pos) (tE X.K cl W n)) : PE X (.BoolOp .And (a :: b :: rest) pos) (tE X.K cl W (mAndV m n)) := by
  refine (pe_and ha hb).weak fun σ H Q ⟨env, h, ω, he, hs, q⟩ => ⟨env, h, ω, he, hs, (PostG.bind q).mono fun x h1 ω1 H1 N1 S1 q1 v r => ?_⟩
  cases x with
  | bl c =>
    simp only [Rep] at r
    refine ⟨c, r, ?_⟩
    cases c with
    | true => exact ⟨env, h1, ω1, he.mono N1.toGr, S1, q1⟩
    | false => exact q1 ω1 H1 (Nx.refl _ _) S1 _ (by simp only [Rep])
  | _ => exact q1.elim
theorem k_not (ha : PE X a (tE X.K cl W m)) : PE X (.UnaryOp .Not a pos) (tE X.K cl W (mNotV m)) := by
  refine (pe_not ha).weak fun σ H Q ⟨env, h, ω, he, hs, q⟩ => ⟨env, h, ω, he, hs, (PostG.bind q).mono fun x h1 ω1 H1 N1 S1 q1 v r => ?_⟩
  cases x with
  | bl c =>
    simp only [Rep] at r
    exact ⟨c, r, q1 ω1 H1 (Nx.refl _ _) S1 _ (by simp only [Rep])⟩
  | _ => exact q1.elim
def mIf (c : M Bool) (m n : M T) : M T := fun env h => (c env h).bind fun a h1 => if a = true then m env h1 else n env h1
def mChain (f g : F2) (m n p : M T) : M T := fun env h => (m env h).bind fun a h1 => (n env h1).bind fun b h2 => (Out.ofO (f a b h2) h2).bind fun k h3 => match k with
  | .bl c => if c = true then (p env h3).bind fun d h4 => Out.ofO (g b d h4) h4 else .ok (.bl false) h3
  | _ => .bad
variable {g : F2} {p : M T} {c : Expr}
theorem chain_step {K : PySem.W.Frag} {σ : L2.St} {H : Hp} {Q : VK} (h : tE K cl W (mChain f g m n p) σ H Q) : tChain (rV2 K cl f) (rV2 K cl g) (tE K cl W m) (tE K cl W n) (tE K cl W p) σ H Q := by
  obtain ⟨env, h, ω, he, hs, q⟩ := h
  refine ⟨env, h, ω, he, hs, (PostG.bind q).mono fun tx h1 ω1 H1 N1 S1 q1 vx rx => ⟨env, h1, ω1, he.mono N1.toGr, S1, (PostG.bind q1).mono fun ty h2 ω2 H2 N2 S2 q2 vy ry => ?_⟩⟩
  obtain ⟨t, e, q3⟩ := (PostG.bind q2).ofO
  refine ⟨tx, ty, h2, ω2, t, S2, rx.mono N2.toGr, ry, e, fun ω3 H3 v N3 S3 r3 => ?_⟩
  have q4 := q3 ω3 H3 N3 S3
  cases t with
  | bl k =>
    simp only [Rep] at r3
    refine ⟨k, r3, ?_⟩
    cases k with
    | false => exact q4 ω3 H3 (Nx.refl _ _) S3 _ (by simp only [Rep])
    | true =>
      rw [if_pos rfl]
      refine ⟨env, h2, ω3, ((he.mono N1.toGr).mono N2.toGr).mono N3.toGr, S3, (PostG.bind q4).mono fun td h4 ω4 H4 N4 S4 q5 vd rd => ?_⟩
      obtain ⟨t', e', q6⟩ := q5.ofO
      exact ⟨ty, td, h4, ω4, t', S4, (ry.mono N3.toGr).mono N4.toGr, rd, e', fun ω' H' v N S r => q6 ω' H' N S v r⟩
  | _ => exact q4.elim
theorem kt_chain {op op' : CmpOp} (ho : OpR X (compareOp op) (rV2 X.K cl f)) (ho' : OpR X (compareOp op') (rV2 X.K cl g)) (ha : PE X a (tE X.K cl W m)) (hb : PE X b (tE X.K cl W n)) (hc : PE X c (tE X.K cl W p))
    (hm : lastMarks [op, op'] [b, c] = false := by with_unfolding_all rfl) : PT X (.Compare a [op, op'] [b, c] pos) (tT X.K cl W (mTst (mChain f g m n p))) :=
  (pt_chain ho ho' ha hb hc hm).weak fun _ _ _ h => chain_step (tst_step h)
def mNil : M (List T) := fun _ h => .ok [] h
def mCons (m : M T) (r : M (List T)) : M (List T) := fun env h => (m env h).bind fun a h1 => (r env h1).bind fun as h2 => .ok (a :: as) h2
variable {e : Expr} {es : List Expr} {r : M (List T)}
theorem ka_nil : PA X [] (tA X.K cl W mNil) := pa_nil.weak fun σ H Q ⟨env, h, ω, he, hs, q⟩ => q ω H (Nx.refl _ _) hs [] Reps.nil
theorem ka_cons (ha : PE X e (tE X.K cl W m)) (hr : PA X es (tA X.K cl W r)) (hs : starEach (e :: es) X.env = (false, eval e X.env) :: starEach es X.env := by rfl) : PA X (e :: es) (tA X.K cl W (mCons m r)) := by
  refine (pa_cons ha hr hs).weak fun σ H Q ⟨env, h, ω, he, hs, q⟩ => ⟨env, h, ω, he, hs, (PostG.bind q).mono fun x h1 ω1 H1 N1 S1 q1 v rv => ⟨env, h1, ω1, he.mono N1.toGr, S1, (PostG.bind q1).mono fun xs h2 ω2 H2 N2 S2 q2 vs rvs => ?_⟩⟩
  exact q2 ω2 H2 (Nx.refl _ _) S2 _ (Reps.cons (rv.mono N2.toGr) rvs)
def mTup (r : M (List T)) : M T := fun env h => (r env h).bind fun ts h1 => if ts.length ≤ 10000 then .ok (.tup ts) h1 else .bad
theorem le_line {n : Nat} (h : n ≤ 10000) : n ≤ sizeLine := by rw [sizeLine_eq]; omega
theorem k_tup {x1} (hr : PA X es (tA X.K cl W r)) : PE X (.Tuple es x1 pos) (tE X.K cl W (mTup r)) := by
  refine (pe_tup hr).weak fun σ H Q ⟨env, h, ω, he, hs, q⟩ => ⟨env, h, ω, he, hs, (PostG.bind q).mono fun ts h1 ω1 H1 N1 S1 q1 vs rvs => ?_⟩
  split at q1
  · rename_i hl
    refine ⟨by rw [← rvs.length]; exact le_line hl, fun p hp => ?_⟩
    refine q1 _ _ (nx_newF S1 hp) (S1.newF hp) _ ?_
    simp only [Rep]
    exact ⟨p, vs, rfl, SqT.of upd_same, rvs.mono (gr_fix (S1.freshF hp))⟩
  · exact q1.elim
def mLst (r : M (List T)) : M (List T) := fun env h => (r env h).bind fun ts h1 => if ts.length ≤ 10000 then .ok ts h1 else .bad
theorem kn_lst (hr : PA X es (tA X.K cl W r)) : PE X (.List es pos) (tN X.K cl W (mLst r)) := by
  refine (pe_lst hr).weak fun σ H Q ⟨env, h, ω, he, hs, q⟩ => ⟨env, h, ω, he, hs, (((PostG.bind q).mono fun ts h1 ω1 H1 N1 S1 q1 vs rvs => ?_))⟩
  split at q1
  · rename_i hl
    refine ⟨by rw [← rvs.length]; exact le_line hl, fun p hp => ?_⟩
    exact q1 _ _ (nx_lay hp) (S1.lay hp) p vs rvs upd_same (S1.freshF hp) (S1.freshR hp) (N1.dom p hp)
  · exact q1.elim
def mFrz (r : M (List T)) : M T := fun env h => (r env h).bind fun ts h1 => .ok (.lst ts) h1
def mCell (r : M (List T)) : M T := fun env h => (r env h).bind fun ts h1 => if pus ts = true then .ok (.loc h1.length) (h1 ++ [.lst ts]) else .bad
theorem k_frz (h : PE X e (tN X.K cl W r)) : PE X e (tE X.K cl W (mFrz r)) := by
  refine h.weak fun σ H Q ⟨env, h, ω, he, hs, q⟩ => ⟨env, h, ω, he, hs, ?_⟩
  unfold mFrz at q
  revert q
  cases r env h with
  | bad => exact fun z => z
  | ex x h1 => exact fun z => z
  | ok ts h1 =>
    intro q ω1 H1 N1 S1 l vs rvs e1 n1 n2 f1
    refine q _ H1 (N1.fixIt (o := .lst vs) n1 f1) (S1.fixIt e1 n1 n2) _ ?_
    simp only [Rep]
    exact ⟨l, vs, rfl, upd_same, rvs.mono (gr_fix n1)⟩
theorem k_cell (h : PE X e (tN X.K cl W r)) : PE X e (tE X.K cl W (mCell r)) := by
  refine h.weak fun σ H Q ⟨env, h, ω, he, hs, q⟩ => ⟨env, h, ω, he, hs, ?_⟩
  unfold mCell at q
  revert q
  cases r env h with
  | bad => exact fun z => z
  | ex x h1 => exact fun z => z
  | ok ts h1 =>
    intro q ω1 H1 N1 S1 l vs rvs e1 n1 n2 f1
    simp only [Out.bind] at q
    split at q
    · rename_i hp
      refine q _ H1 (N1.cellIt f1) (S1.cellIt (c := .lst ts) ⟨hp, vs, e1, rvs⟩ n1 n2) _ ?_
      simp only [Rep]
      refine ⟨l, rfl, ?_⟩
      show (ω1.rho ++ [l])[h1.length]? = some l
      rw [List.getElem?_append_right (by rw [S1.len]; exact Nat.le_refl _), S1.len]
      simp
    · exact q.elim
end
end Sm
namespace Sm
open PySem PySem.Spec PyProof.Rows L2
def SqX (K : PySem.W.Frag) (H : Hp) (t : Bool) (a : Addr) (xs : List V) : Prop := cond t (SqT K H a xs) (SqL K H a xs)
def ItX (h : Heap) (t : Bool) (j a : Addr) (i : Nat) : Prop := cond t (h.IsTupleIter j a i) (h.IsListIter j a i)
def CtX (h : Heap) (t : Bool) (a : Addr) (us : Array Value) : Prop := cond t (h.IsTuple a us) (h.IsList a us)
def objX (t : Bool) (a : Addr) : Obj := { cls := .type (cond t "tuple_iterator" "list_iterator"), data := .fields #[.ref a, .int 0 0] }
section
variable {X : Cx} {pins : List (Addr × Obj)} {σ : L2.St} {H : Hp} {s : Shared} {t : Bool} {a j : Addr} {xs ys : List V} {h h' : Heap} {i : Nat}
theorem sqx_get (I : Inv X pins σ H s) : SqX X.K H t a xs → ∃ us : List Value, Vals xs us ∧ CtX s.heap t a us.toArray ∧ a < s.heap.objs.size := by
  intro q
  cases t
  · have ⟨us, r, p, _⟩ := I.list (show SqL X.K H a xs from q)
    exact ⟨us, r, p.isList, p.lt⟩
  · have ⟨us, r, p, _⟩ := I.tuple (show SqT X.K H a xs from q)
    have ⟨o, ho, _⟩ := p
    exact ⟨us, r, ⟨o, ho, ‹_›⟩, Heap.lt_size ho⟩
theorem sqx_inj (I : Inv X pins σ H s) : SqX X.K H t a xs → SqX X.K H t a ys → xs = ys := by
  cases t
  · exact fun q r => I.list_inj q r
  · exact fun q r => I.tuple_inj q r
theorem itx_at (q : ItX h t j a i) (k : ∀ o, h.get? j = some o → h'.get? j = some o) : ItX h' t j a i := by
  cases t
  · exact Heap.IsListIter.at q k
  · exact Heap.IsTupleIter.at q k
theorem itx_obj (q : ItX h t j a i) : ∃ o, h.get? j = some o ∧ ∀ v, o.data ≠ .cell v := by
  cases t <;> exact (let ⟨o, ho, _, hd⟩ := q; ⟨o, ho, fun v e => by rw [hd] at e; cases e⟩)
theorem drx (hh : X.A.handled = none) (hne : a ≠ j) (us : Array Value) : Draws X.prog X.w X.A.in1 j [j, a] us.size (fun i v => us[i]? = some v) (fun i h => ItX h t j a i ∧ CtX h t a us) := by
  cases t
  · exact Draws.list (A := X.A.in1) hh j a hne us
  · exact Draws.tuple (A := X.A.in1) hh j a hne us
theorem begx (us : Array Value) : Begins (.ref a) (objX t a) (fun h => CtX h t a us) := by
  cases t
  · exact begins_list a us
  · exact begins_tuple a us
theorem itx_new (e : h.get? j = some (objX t a)) : ItX h t j a 0 := by
  cases t <;> exact ⟨_, e, rfl, rfl⟩
theorem vals_at {us : List Value} (r : Vals xs us) {y : Value} (e : us.toArray[i]? = some y) : ∃ x, xs[i]? = some x ∧ RelV x y := by
  have hi : i < us.length := by
    have := (Array.getElem?_eq_some_iff.mp e).1
    simpa using this
  have hx : xs[i]? = some (xs[i]'(by rw [r.length]; exact hi)) := List.getElem?_eq_getElem _
  have ⟨u, hu, ru⟩ := r.get hx
  refine ⟨_, hx, ?_⟩
  have : us[i]? = some y := by simpa using e
  rw [hu] at this
  cases this
  exact ru
end
structure Tab where
  n : Nat
  row : Nat → List V → Prop
def rowIt (Rw : Hp → Tab → Prop) : It :=
  ⟨fun i H => ∃ b, Rw H b ∧ i < b.n, fun i H v H' => ∃ T xs, v = .ref T ∧ H T = none ∧ H' = upd H T (.tup xs) ∧ ∀ b, Rw H b → b.row i xs, fun i H => ∃ b, Rw H b ∧ i = b.n⟩
structure Giver (P : Program) (w : World) (K : PySem.W.Frag) (Rw : Hp → Tab → Prop) (fp : List Addr) (it : Addr) (tn : Nat → Heap → Prop) : Prop where
  mem : it ∈ fp
  obj : ∀ i h, tn i h → ∀ c ∈ fp, ∃ o, h.get? c = some o ∧ ∀ v, o.data ≠ .cell v
  keep : ∀ i h h', tn i h → (∀ c ∈ fp, ∀ o, h.get? c = some o → h'.get? c = some o) → tn i h'
  self : ∀ A i s Q E, tn i s.heap → Q (.ref it) s → wpAny (model P w) A (pyIter (.ref it)) Q E s
  uni : ∀ (X : Cx) pins σ H s b b', X.K = K → Inv X pins σ H s → Rw H b → Rw H b' → b = b'
  give : ∀ (X : Cx) pins σ H s b i, X.prog = P → X.w = w → X.K = K → X.A.handled = none → Inv X pins σ H s → tn i s.heap → Rw H b → ∃ fp' wr Pt St Mid, WalksT P w X.A it fp' wr b.n Pt St Mid ∧
    (∀ c ∈ wr, c ∈ fp) ∧ St i s.heap ∧ (∀ j h, St j h → tn j h) ∧ ∀ us, Pt i us → ∃ xs, Vals xs us.toList ∧ xs.length ≤ 3 ∧ b.row i xs
section
variable {P : Program} {w : World} {K : PySem.W.Frag} {Rw : Hp → Tab → Prop} {fp : List Addr} {it : Addr} {tn : Nat → Heap → Prop} {elts : List Expr} {kk : Nat} {tpos : Pos}
theorem Giver.turn (G : Giver P w K Rw fp it tn) : Turn P w K (.Tuple elts kk tpos) (rowIt Rw) fp it tn where
  mem := G.mem
  obj := G.obj
  keep := G.keep
  self := fun A i s Q E st h => G.self A i s Q E st h
  item := by
    intro X e1 e2 e3 hc i pins s σ H E I hf st ⟨b, hb, hi⟩
    have ⟨fp', wr, Pt, Sx, Mid, W, hw, st', back, hrow⟩ := G.give X pins σ H s b i e1 e2 e3 (I.ok.hd hc) I st hb
    refine W.item i s _ E hi st' fun T us h1 tk hP hT ht hm k1 => ⟨_, rfl, W.go elts kk tpos i T { s with heap := h1, toks := tk } _ E hm fun h2 st2 k2 => ?_⟩
    have ⟨xs, rx, hx, hr⟩ := hrow us hP
    have ⟨o, ho, hcl, m, hd⟩ := ht
    have ho2 := k2 T o (W.apart i T h1 hm) ho
    subst e1 e2
    refine ⟨.ref T, upd H T (.tup xs), I.turnedNew (t' := tk) (ch := fp) (fun c oc n e => k2 c oc (fun z => n (hw c z)) (k1 c oc (fun z => n (hw c z)) e)) hf hT ⟨Nat.le_trans hx (by decide), us.toList, rx, ⟨o, ho2, hcl, m, by rw [hd]⟩⟩, rfl, ⟨T, xs, rfl, I.hok.fresh hT, rfl, fun b' hb' => ?_⟩, back _ _ st2, fun c hcm => ?_⟩
    · rw [← G.uni X pins σ H s b b' e3 I hb hb']
      exact hr
    · have ⟨oc, hoc, _⟩ := G.obj i s.heap st c hcm
      rw [upd_ne (fun e => by rw [e] at hoc; exact absurd (Heap.lt_size hoc) (Nat.not_lt.mpr hT))]
      exact (hf c hcm).1
  done := by
    intro X e1 e2 e3 hc i pins s σ H E I hf st ⟨b, hb, hi⟩
    have ⟨fp', wr, Pt, Sx, Mid, W, hw, st', _⟩ := G.give X pins σ H s b i e1 e2 e3 (I.ok.hd hc) I st hb
    subst hi
    exact W.done s _ E st' fun h1 tk k1 => ⟨rfl, I.turnedL (t' := tk) (ch := fp) (fun c oc n e => k1 c oc (fun z => n (hw c z)) e) hf⟩
theorem Giver.begun {X : Cx} {pins : List (Addr × Obj)} {σ : L2.St} {H : Hp} {s : Shared} {h' : Heap} {R : It → Hp → Prop} (G : Giver X.prog X.w X.K Rw fp it tn) (I : Inv X pins σ H s) (k : ∀ c o, s.heap.get? c = some o → h'.get? c = some o)
    (st : tn 0 h') (hfp : ∀ c ∈ fp, s.heap.objs.size ≤ c) (q : R (rowIt Rw) H) : PIE X pins σ (.Tuple elts kk tpos) R (.ref it) { s with heap := h' } :=
  ⟨it, fp, tn, rowIt Rw, H, rfl, I.kept (t' := s.toks) k, G.turn, st, fun c m => I.fpOk (hfp c m) (I.hok.fresh (hfp c m)), q⟩
end
set_option maxHeartbeats 1000000 in
def rwZ (K : PySem.W.Frag) (t1 t2 : Bool) (a b : Addr) (H : Hp) (B : Tab) : Prop :=
  ∃ xs ys, SqX K H t1 a xs ∧ SqX K H t2 b ys ∧ B = ⟨min xs.length ys.length, fun i r => ∃ x y, xs[i]? = some x ∧ ys[i]? = some y ∧ r = [x, y]⟩
theorem zip_giver {P : Program} {w : World} {K : PySem.W.Frag} {t1 t2 : Bool} {a b z TI TO j1 j2 : Addr} (D : ZipSep2 z TI TO j1 j2 [j1, a] [j2, b]) (n1 : a ≠ j1) (n2 : b ≠ j2) :
    Giver P w K (rwZ K t1 t2 a b) [z, TI, TO, j1, j2] z (fun i h => IsZip h z TI TO .none ∧ IsTupOf2 h TI (.ref j1) (.ref j2) ∧ (∃ x y, IsTupOf2 h TO x y) ∧ ItX h t1 j1 a i ∧ ItX h t2 j2 b i) where
  mem := List.mem_cons_self ..
  obj := by
    intro i h ⟨hz, hI, ⟨x, y, hO⟩, h1, h2⟩
    simp only [List.forall_mem_cons]
    exact ⟨⟨_, hz, nofun⟩, ⟨_, hI, nofun⟩, ⟨_, hO, nofun⟩, itx_obj h1, itx_obj h2, nofun⟩
  keep := by
    intro i h h' ⟨hz, hI, ⟨x, y, hO⟩, h1, h2⟩ k
    simp only [List.forall_mem_cons] at k
    have ⟨kz, kI, kO, k1, k2, _⟩ := k
    exact ⟨kz _ hz, kI _ hI, ⟨x, y, kO _ hO⟩, itx_at h1 k1, itx_at h2 k2⟩
  self := fun A i s Q E st q => wpAny_pyIter_zip st.1 q
  uni := by
    rintro X pins σ H s _ _ rfl I ⟨xs, ys, q1, q2, rfl⟩ ⟨xs', ys', r1, r2, rfl⟩
    rw [sqx_inj I q1 r1, sqx_inj I q2 r2]
  give := by
    rintro X pins σ H s _ i rfl rfl rfl hh I ⟨hz, hI, hO, h1, h2⟩ ⟨xs, ys, q1, q2, rfl⟩
    have ⟨us, r1, c1, _⟩ := sqx_get I q1
    have ⟨ws, r2, c2, _⟩ := sqx_get I q2
    have W := WalksT.zipD2 (A := X.A) D (drx (X := X) (t := t1) hh n1 us.toArray) (drx (X := X) (t := t2) hh n2 ws.toArray)
    rw [show min us.toArray.size ws.toArray.size = min xs.length ys.length by rw [r1.length, r2.length]; rfl] at W
    refine ⟨_, _, _, _, _, W, ?_, ⟨hz, hI, hO, ⟨h1, c1⟩, h2, c2⟩, fun k h st => ⟨st.1, st.2.1, st.2.2.1, st.2.2.2.1.1, st.2.2.2.2.1⟩, fun vs ⟨y1, y2, e1, e2, e3⟩ => ?_⟩
    · simp only [List.forall_mem_cons]
      simp
    · have ⟨x1, hx1, rx1⟩ := vals_at r1 e1
      have ⟨x2, hx2, rx2⟩ := vals_at r2 e2
      subst e3
      exact ⟨[x1, x2], .cons rx1 (.cons rx2 .nil), by simp, x1, x2, hx1, hx2, rfl⟩
theorem lt_of_one {N : Nat} {a : Addr} (h : a < N) : ∀ c ∈ [a], c < N := List.forall_mem_cons.mpr ⟨h, nofun⟩
def iZipX (K : PySem.W.Frag) (ta : TA) : TI := fun σ H R => ta σ H fun vs H1 => ∃ t1 t2 a b xs ys, vs = [.ref a, .ref b] ∧ SqX K H1 t1 a xs ∧ SqX K H1 t2 b ys ∧ R (rowIt (rwZ K t1 t2 a b)) H1
theorem pi_zipX {X : Cx} {e e2 : Expr} {ta : TA} {p pos tpos : Pos} {elts : List Expr} {kk : Nat} (hg : Gl X "zip") (hm : X.mg "zip" = none) (ha : PA X [e, e2] ta)
    (hst : starEach [e, e2] X.env = (false, eval e X.env) :: starEach [e2] X.env := by rfl) (hpl : (backTo pos (starEach [e2] X.env)).any (·.1) = false := by rfl) :
    PI X (.Tuple elts kk tpos) (.Call (.Name "zip" p) [e, e2] [] pos) (iZipX X.K ta) := by
  constructor
  intro pins s σ H R I q0
  refine Call_ (ld_blt I hg hm PyProof.Rows.boot_zip (PyProof.Rows.callWith_type1 (thn (ha.run pos pins s σ H _ I q0) fun us s1 ⟨vs, H1, I1, rr, t1, t2, a, b, xs, ys, ex, d1, d2, q⟩ => ?_) hst hpl))
  subst ex
  obtain _ | ⟨ra, _ | ⟨rb, _ | _⟩⟩ := rr
  cases ra
  cases rb
  have ⟨us, r1, c1, la⟩ := sqx_get I1 d1
  have ⟨ws, r2, c2, lb⟩ := sqx_get I1 d2
  refine zip_begins2 (begx us.toArray) (begx ws.toArray) c1 c2 fun h' hz hI hO g1 g2 _ k => wpAny_pyIter_zip hz ?_
  refine (zip_giver (zip_sep2 (lt_of_one la) (lt_of_one lb)) (Nat.ne_of_lt la) (Nat.ne_of_lt (Nat.lt_succ_of_lt lb))).begun I1 k ⟨hz, hI, ⟨_, _, hO⟩, itx_new g1, itx_new g2⟩ ?_ q
  simp only [List.forall_mem_cons]
  exact ⟨Nat.le_add_right _ _, Nat.le_add_right _ _, Nat.le_add_right _ _, Nat.le_refl _, Nat.le_add_right _ _, nofun⟩
end Sm
namespace Sm
open PySem PySem.Spec PyProof.Rows L2
section
variable {K : PySem.W.Frag} {cl : Nat → Addr} {ω : Wd} {h : Store} {H : Hp}
theorem rep_int {i : Int} : Rep K ω (.int i) (.int i) := by simp only [Rep]
theorem rep_bl {i : Bool} : Rep K ω (.bl i) (.bl i) := by simp only [Rep]
theorem rep_str {i : Str} : Rep K ω (.str i) (.str i) := by simp only [Rep]
theorem rep_non : Rep K ω .non .non := by simp only [Rep]
theorem Rep.int_inv {i : Int} {v : V} (r : Rep K ω (.int i) v) : v = .int i := by simpa only [Rep] using r
theorem Rep.bl_inv {i : Bool} {v : V} (r : Rep K ω (.bl i) v) : v = .bl i := by simpa only [Rep] using r
theorem Rep.str_inv {i : Str} {v : V} (r : Rep K ω (.str i) v) : v = .str i := by simpa only [Rep] using r
theorem Rep.non_inv {v : V} (r : Rep K ω .non v) : v = .non := by simpa only [Rep] using r
theorem give_tup {Q : VK} {ts : List T} {vs : List V} (S : StOk K cl ω h H) (r : Reps K ω ts vs) (q : ∀ ω' H' v, Nx ω H ω' H' → StOk K cl ω' h H' → Rep K ω' (.tup ts) v → Q v H') {p : Addr} (hp : H p = none) : Q (.ref p) (upd H p (.tup vs)) := by
  refine q _ _ _ (nx_newF S hp) (S.newF hp) ?_
  simp only [Rep]
  exact ⟨p, vs, rfl, SqT.of upd_same, r.mono (gr_fix (S.freshF hp))⟩
theorem give_lst {Q : VK} {ts : List T} {vs : List V} (S : StOk K cl ω h H) (r : Reps K ω ts vs) (q : ∀ ω' H' v, Nx ω H ω' H' → StOk K cl ω' h H' → Rep K ω' (.lst ts) v → Q v H') {p : Addr} (hp : H p = none) : Q (.ref p) (upd H p (.lst vs)) := by
  refine q _ _ _ (nx_newF S hp) (S.newF hp) ?_
  simp only [Rep]
  exact ⟨p, vs, rfl, upd_same, r.mono (gr_fix (S.freshF hp))⟩
theorem Reps.flat {xs : List T} {vs : List V} (r : Reps K ω xs vs) (k : Nat) : Reps K ω (List.replicate k xs).flatten (List.replicate k vs).flatten := by
  induction k with
  | zero => exact Reps.nil
  | succ k ih =>
    rw [List.replicate_succ, List.replicate_succ, List.flatten_cons, List.flatten_cons]
    exact r.append ih
end
def mulB (i j : Int) : Bool := !(decide (Builtin.Int.intBits i > shortFactorBits) && decide (Builtin.Int.intBits j > shortFactorBits) && Builtin.Int.intTooBig (Builtin.Int.intBits i + Builtin.Int.intBits j))
theorem mulB_ok {i j : Int} (h : mulB i j = true) : IntMulOk i j := by
  unfold mulB at h
  unfold IntMulOk
  intro z
  rw [z] at h
  cases h
def intsOf? : List T → Option (List Int)
  | [] => some []
  | .int i :: r => (intsOf? r).map (i :: ·)
  | _ => none
def fAdd : F2
  | .int i, .int j, _ => some (.int (i + j))
  | .str i, .str j, _ => if i.length + j.length ≤ 100000 then some (.str (i ++ j)) else none
  | .tup xs, .tup ys, _ => if xs.length + ys.length ≤ 100000 then some (.tup (xs ++ ys)) else none
  | a, b, h => match lstOf h a, lstOf h b with
    | some xs, some ys => if xs.length + ys.length ≤ 100000 then some (.lst (xs ++ ys)) else none
    | _, _ => none
def fSub : F2
  | .int i, .int j, _ => some (.int (i - j))
  | _, _, _ => none
def fMul : F2
  | .int i, .int j, _ => if mulB i j = true then some (.int (i * j)) else none
  | .tup xs, .int k, _ => if xs ≠ [] ∧ 2 ≤ k ∧ k ≤ 100000 ∧ xs.length ≤ 40 then some (.tup (List.replicate k.toNat xs).flatten) else none
  | a, .int k, h => match lstOf h a with
    | some xs => if k < 100000 ∧ -100000 < k ∧ xs.length ≤ 100 then some (.lst (List.replicate k.toNat xs).flatten) else none
    | none => none
  | _, _, _ => none
def divB (j : Int) : Bool := decide (j ≠ 0) && decide (j.natAbs.log2 < 9000)
def fFdiv : F2
  | .int i, .int j, _ => if divB j = true then some (.int (i.fdiv j)) else none
  | _, _, _ => none
def fMod : F2
  | .int i, .int j, _ => if j ≠ 0 then some (.int (i.fmod j)) else none
  | _, _, _ => none
def fPow : F2
  | .int i, .int j, _ => if 0 ≤ j ∧ j ≤ 100000 ∧ i.natAbs < 2 ^ 64 then some (.int (i ^ j.toNat)) else none
  | _, _, _ => none
theorem line5 {n : Nat} (h : n ≤ 100000) : n ≤ sizeLine := by rw [sizeLine_eq]; omega
theorem ne_ite {α : Type} {c : Prop} [Decidable c] {x t : α} (h : (if c then some x else none) = some t) : c ∧ x = t := by
  split at h
  · exact ⟨by assumption, Option.some.inj h⟩
  · cases h
section
variable {X : Cx} {cl : Nat → Addr}
theorem o_sub : OpR X (binaryOp .Sub) (rV2 X.K cl fSub) := by
  intro pins s σ H x y v u Q I rx ry ⟨a, b, h, ω, t, S, ra, rb, e, q⟩
  unfold fSub at e
  split at e
  · rw [ra.int_inv] at rx; rw [rb.int_inv] at ry; cases e
    exact op_sub pins s σ H _ _ v u Q I rx ry ⟨_, _, rfl, rfl, q _ _ _ (Nx.refl _ _) S rep_int⟩
  · cases e
theorem o_mod : OpR X (binaryOp .Mod) (rV2 X.K cl fMod) := by
  intro pins s σ H x y v u Q I rx ry ⟨a, b, h, ω, t, S, ra, rb, e, q⟩
  unfold fMod at e
  split at e
  · rw [ra.int_inv] at rx; rw [rb.int_inv] at ry
    obtain ⟨c, rfl⟩ := ne_ite e
    exact op_modN pins s σ H _ _ v u Q I rx ry ⟨_, _, rfl, rfl, c, q _ _ _ (Nx.refl _ _) S rep_int⟩
  · cases e
theorem o_fdiv : OpR X (binaryOp .FloorDiv) (rV2 X.K cl fFdiv) := by
  intro pins s σ H x y v u Q I rx ry ⟨a, b, h, ω, t, S, ra, rb, e, q⟩
  unfold fFdiv at e
  split at e
  · rw [ra.int_inv] at rx; rw [rb.int_inv] at ry
    obtain ⟨c, rfl⟩ := ne_ite e
    obtain ⟨t1, rfl⟩ := rx
    obtain ⟨t2, rfl⟩ := ry
    simp only [divB, Bool.and_eq_true, decide_eq_true_eq] at c
    exact floordiv_int c.1 ⟨.int _, H, I.tok _, ⟨_, rfl⟩, q _ _ _ (Nx.refl _ _) S rep_int⟩ (.inl (PyProof.noPylong_of_log2 c.2))
  · cases e
theorem o_pow : OpR X (binaryOp .Pow) (rV2 X.K cl fPow) := by
  intro pins s σ H x y v u Q I rx ry ⟨a, b, h, ω, t, S, ra, rb, e, q⟩
  unfold fPow at e
  split at e
  · rw [ra.int_inv] at rx; rw [rb.int_inv] at ry
    obtain ⟨c, rfl⟩ := ne_ite e
    exact op_pow pins s σ H _ _ v u Q I rx ry ⟨_, _, rfl, rfl, ⟨c.1, by omega, c.2.2⟩, q _ _ _ (Nx.refl _ _) S rep_int⟩
  · cases e
theorem o_add : OpR X (binaryOp .Add) (rV2 X.K cl fAdd) := by
  intro pins s σ H x y v u Q I rx ry ⟨a, b, h, ω, t, S, ra, rb, e, q⟩
  unfold fAdd at e
  split at e
  · rw [ra.int_inv] at rx; rw [rb.int_inv] at ry; cases e
    exact op_add pins s σ H _ _ v u Q I rx ry ⟨_, _, rfl, rfl, q _ _ _ (Nx.refl _ _) S rep_int⟩
  · rw [ra.str_inv] at rx; rw [rb.str_inv] at ry
    obtain ⟨c, rfl⟩ := ne_ite e
    exact op_add_str pins s σ H _ _ v u Q I rx ry ⟨_, _, rfl, rfl, line5 c, q _ _ _ (Nx.refl _ _) S rep_str⟩
  · rename_i xs ys
    obtain ⟨c, rfl⟩ := ne_ite e
    obtain ⟨p, vs, rfl, b1, c1⟩ := tupOf_ok (xs := xs) S ra rfl
    obtain ⟨p2, vs2, rfl, b2, c2⟩ := tupOf_ok (xs := ys) S rb rfl
    have l1 := c1.length
    have l2 := c2.length
    refine op_catA pins s σ H _ _ v u Q I rx ry ⟨p, p2, vs, vs2, rfl, rfl, b1, b2, by rw [← l1, ← l2]; exact line5 c, fun e1 => ?_, fun n1 e2 => ?_, fun n1 n2 p hp => ?_⟩
    · have : xs = [] := by cases xs with | nil => rfl | cons _ _ => rw [e1] at l1; simp at l1
      subst this
      exact q _ _ _ (Nx.refl _ _) S rb
    · have : ys = [] := by cases ys with | nil => rfl | cons _ _ => rw [e2] at l2; simp at l2
      subst this
      refine q _ _ _ (Nx.refl _ _) S ?_
      rw [List.append_nil]
      exact ra
    · exact give_tup S (c1.append c2) q hp
  · split at e
    · rename_i xs ys ea eb
      obtain ⟨c, rfl⟩ := ne_ite e
      obtain ⟨p, vs, rfl, b1, c1⟩ := lstOf_ok S ra ea
      obtain ⟨p2, vs2, rfl, b2, c2⟩ := lstOf_ok S rb eb
      exact op_cat pins s σ H _ _ v u Q I rx ry ⟨p, p2, vs, vs2, rfl, rfl, b1, b2, by rw [← c1.length, ← c2.length]; exact line5 c, fun p hp => give_lst S (c1.append c2) q hp⟩
    · cases e
theorem op_many : OpR X (binaryOp .Mult) (fun x y H Q => ∃ l k xs, x = .ref l ∧ y = .int k ∧ SqT X.K H l xs ∧ xs ≠ [] ∧ 2 ≤ k ∧ k ≤ 100000 ∧ xs.length ≤ 40 ∧ ∀ p, H p = none → Q (.ref p) (upd H p (.tup (List.replicate k.toNat xs).flatten))) := by
  rintro pins s σ H _ _ v u Q I rx ry ⟨l, k, xs, rfl, rfl, tp, ne, k2, k5, few, q⟩
  cases rx
  have ⟨tk, ek⟩ := ry
  subst ek
  have ⟨its, r, ⟨o, at_l, cls_l, n, dat_l⟩, _⟩ := I.tuple tp
  rcases o with ⟨cls, dd, dat, sl⟩
  cases (show cls = _ from cls_l)
  cases (show dat = _ from dat_l)
  have lens := r.length
  have full : its ≠ [] := fun z => ne (List.length_eq_zero_iff.mp (by rw [lens, z]; rfl))
  have some_ : its.toArray.isEmpty = false := by
    rcases its with _ | ⟨a, b⟩
    · exact absurd rfl full
    · rfl
  have room : k.toNat * its.length ≤ 4000000 := by
    have a := Nat.mul_le_mul (show k.toNat ≤ 100000 by omega) (show its.length ≤ 40 by omega)
    omega
  have prod : ((its.toArray.size : Nat) : Int) * k = ((k.toNat * its.length : Nat) : Int) := by
    rw [List.size_toArray, Int.natCast_mul, Int.toNat_of_nonneg (by omega), Int.mul_comm]
  have e0 : (decide (k < -(2 ^ 63)) || decide (k ≥ 2 ^ 63)) = false := by simp; omega
  have e1 : (its.toArray.isEmpty || k == 1) = false := by rw [some_]; simp; omega
  have e2 : (decide (k ≤ 0) || its.toArray.isEmpty) = false := by rw [some_]; simp; omega
  have e3 : ¬ ((its.toArray.size : Nat) : Int) * k > (2 ^ 63 - 1) / 8 := by rw [prod]; omega
  have e4 : Builtin.Tuple.tupleTooMany (((its.toArray.size : Nat) : Int) * k) = false := by
    rw [prod]
    unfold Builtin.Tuple.tupleTooMany
    simp only [sizeLine_eq, decide_eq_false_iff_not]
    omega
  have flat : (List.replicate k.toNat its).flatten.length ≤ sizeLine := by rw [PyProof.Rows.lm_len_rep_flat, sizeLine_eq]; omega
  refine wpAny_binaryOp_repeat_ref (T := "tuple") (U := "int") (by decide) ⟨_, at_l, rfl⟩ (fun _ => typeIs_int _ k tk) noFill_tuple_mul F.fills_int_mul F.slot_int_rmul repeat_tuple F.slot_int_index.lookup ?_
  refine call_meets F.slot_int_rmul (typeIs_int s k tk) F.entry_int_rmul (F.args_int_rmul_2 _ _) (int_rmul_tuple k tk l its.toArray n dd sl) ⟨at_l, rfl, ⟨_, at_l, rfl⟩, ?_⟩
  refine call_meets F.slot_tuple_mul ⟨_, at_l, rfl⟩ F.entry_tuple_mul (F.args_tuple_mul_2 _ _) (tuple_mulW l its.toArray n dd sl k tk e0 e1 e2 e3 e4 (by rw [size_rep, List.size_toArray]; exact flat)) ⟨at_l, ?_⟩
  rw [size_rep]
  have laid : ObjOk X.prog X.w (upd H s.heap.objs.size (.tup (List.replicate k.toNat xs).flatten)) (s.heap.push { cls := .type "tuple", data := .seq (List.replicate k.toNat its).flatten.toArray }) s.heap.objs.size (.tup (List.replicate k.toNat xs).flatten) :=
    ⟨by rw [PyProof.Rows.lm_len_rep_flat, lens, sizeLine_eq]; omega, _, r.rep k.toNat, IsTup.new _ _⟩
  exact ⟨.ref s.heap.objs.size, _, I.laid (t' := s.toks) (fun _ _ z => Heap.get?_push_of_some _ z) (Nat.le_refl _) laid, rfl, q _ (I.hok.fresh (Nat.le_refl _))⟩
theorem o_mul : OpR X (binaryOp .Mult) (rV2 X.K cl fMul) := by
  intro pins s σ H x y v u Q I rx ry ⟨a, b, h, ω, t, S, ra, rb, e, q⟩
  unfold fMul at e
  split at e
  · rw [ra.int_inv] at rx; rw [rb.int_inv] at ry
    obtain ⟨c, rfl⟩ := ne_ite e
    obtain ⟨t1, rfl⟩ := rx
    obtain ⟨t2, rfl⟩ := ry
    exact mul_int ⟨.int _, H, I.tok _, ⟨_, rfl⟩, q _ _ _ (Nx.refl _ _) S rep_int⟩ (mulB_ok c)
  · rename_i xs k
    obtain ⟨c, rfl⟩ := ne_ite e
    rw [rb.int_inv] at ry
    obtain ⟨p, vs, rfl, b1, c1⟩ := tupOf_ok (xs := xs) S ra rfl
    have l1 := c1.length
    refine op_many pins s σ H _ _ v u Q I rx ry ⟨p, k, vs, rfl, rfl, b1, fun e => ?_, c.2.1, c.2.2.1, by rw [← l1]; exact c.2.2.2, fun p hp => give_tup S (c1.flat _) q hp⟩
    subst e
    exact c.1 (List.eq_nil_of_length_eq_zero (by rw [l1]; rfl))
  · split at e
    · rename_i k _ _ _ xs ea
      obtain ⟨c, rfl⟩ := ne_ite e
      rw [rb.int_inv] at ry
      obtain ⟨p, vs, rfl, b1, c1⟩ := lstOf_ok S ra ea
      refine op_rep pins s σ H _ _ v u Q I rx ry ⟨p, k, vs, rfl, rfl, b1, by omega, by omega, ?_, fun p hp => give_lst S (c1.flat _) q hp⟩
      rw [← c1.length, sizeLine_eq]
      have h1 : k.toNat ≤ 100000 := by omega
      have h2 : xs.length ≤ 100 := c.2.2
      have := Nat.mul_le_mul h2 h1
      omega
    · cases e
  · cases e
def rNew2 (K : PySem.W.Frag) (cl : Nat → Addr) (f : T → T → Store → Option (List T)) : R2 := fun x y H Q => ∃ a b h ω ts, StOk K cl ω h H ∧ Rep K ω a x ∧ Rep K ω b y ∧ f a b h = some ts ∧ ∀ p vs, Reps K ω ts vs → H p = none → Q (.ref p) (upd H p (.lst vs))
def fRep (a b : T) (h : Store) : Option (List T) := match b with
  | .int k => match lstOf h a with
    | some xs => if k < 100000 ∧ -100000 < k ∧ xs.length ≤ 100 then some (List.replicate k.toNat xs).flatten else none
    | none => none
  | _ => none
theorem n_rep : OpR X (binaryOp .Mult) (rNew2 X.K cl fRep) := by
  intro pins s σ H x y v u Q I rx ry ⟨a, b, h, ω, t, S, ra, rb, e, q⟩
  unfold fRep at e
  split at e
  · rename_i k
    split at e
    · rename_i xs ea
      obtain ⟨c, rfl⟩ := ne_ite e
      rw [rb.int_inv] at ry
      obtain ⟨p, vs, rfl, b1, c1⟩ := lstOf_ok S ra ea
      refine op_rep pins s σ H _ _ v u Q I rx ry ⟨p, k, vs, rfl, rfl, b1, by omega, by omega, ?_, fun p hp => q p _ (c1.flat _) hp⟩
      rw [← c1.length, sizeLine_eq]
      have h1 : k.toNat ≤ 100000 := by omega
      have h2 : xs.length ≤ 100 := c.2.2
      have := Nat.mul_le_mul h2 h1
      omega
    · cases e
  · cases e
def mNew2 (f : T → T → Store → Option (List T)) (m n : M T) : M (List T) := fun env h => (m env h).bind fun a h1 => (n env h1).bind fun b h2 => Out.ofO (f a b h2) h2
theorem new2_step {K : PySem.W.Frag} {W : WX} {m n : M T} {f : T → T → Store → Option (List T)} {σ : L2.St} {H : Hp} {Q : VK} (h : tN K cl W (mNew2 f m n) σ H Q) : tE K cl W m σ H fun x H1 => tE K cl W n σ H1 fun y H2 => rNew2 K cl f x y H2 Q := by
  obtain ⟨env, h, ω, he, hs, q⟩ := h
  unfold mNew2 at q
  refine ⟨env, h, ω, he, hs, ?_⟩
  revert q
  cases m env h with
  | bad => exact fun z => z
  | ex x h1 => exact fun z => z
  | ok tx h1 =>
    intro q ω1 H1 N1 S1 vx rx
    refine ⟨env, h1, ω1, he.mono N1.toGr, S1, ?_⟩
    simp only [Out.bind] at q
    revert q
    cases n env h1 with
    | bad => exact fun z => z
    | ex x h1 => exact fun z ω2 H2 cls d N2 S2 x => z ω2 H2 cls d (N1.trans N2) S2 x
    | ok ty h2 =>
      intro q ω2 H2 N2 S2 vy ry
      simp only at q
      cases e : f tx ty h2 with
      | none => rw [e] at q; exact q.elim
      | some ts =>
        rw [e] at q
        refine ⟨tx, ty, h2, ω2, ts, S2, rx.mono N2.toGr, ry, e, fun p vs rv hp => ?_⟩
        exact q ω2 _ ((N1.trans N2).trans (nx_lay hp)) (S2.lay hp) p vs rv upd_same (S2.freshF hp) (S2.freshR hp) ((N1.trans N2).dom p hp)
theorem kn_bin {W : WX} {a b : Expr} {m n : M T} {pos : Pos} {op : Operator} {f : T → T → Store → Option (List T)} (ho : OpR X (binaryOp op) (rNew2 X.K cl f)) (ha : PE X a (tE X.K cl W m)) (hb : PE X b (tE X.K cl W n)) : PE X (.BinOp a op b pos) (tN X.K cl W (mNew2 f m n)) :=
  (pe_op ho ha hb).weak fun _ _ _ h => new2_step h
end
end Sm
namespace Sm
open PySem PySem.Spec PyProof.Rows L2
mutual
def dat : T → Option PyData
  | .non => some .none
  | .bl b => some (.bool b)
  | .int i => some (.int i)
  | .str s => some (.str s)
  | .tup xs => (dats xs).map .tuple
  | .lst xs => (dats xs).map .list
  | .loc _ => none
  | .scr _ => none
  | .emp => none
  | .adr _ _ _ _ => none
  | .fnc _ => none
  | .dct _ _ => none
def dats : List T → Option (List PyData)
  | [] => some []
  | x :: r => match dat x, dats r with
    | some d, some l => some (d :: l)
    | _, _ => none
end
def datS (h : Store) : T → Option PyData
  | .loc n => match h[n]? with
    | some (.lst xs) => (dats xs).map .list
    | _ => none
  | t => dat t
section
variable {K : PySem.W.Frag} {cl : Nat → Addr} {ω : Wd} {h : Store} {H : Hp}
mutual
theorem dat_ok (S : StOk K cl ω h H) : ∀ {t : T} {v : V} {d : PyData}, Rep K ω t v → dat t = some d → Dp K H v d
  | .non, v, d, r, e => by simp only [dat, Option.some.injEq] at e; subst e; rw [r.non_inv]; exact .non
  | .bl b, v, d, r, e => by simp only [dat, Option.some.injEq] at e; subst e; rw [r.bl_inv]; exact .bl b
  | .int i, v, d, r, e => by simp only [dat, Option.some.injEq] at e; subst e; rw [r.int_inv]; exact .int i
  | .str s, v, d, r, e => by simp only [dat, Option.some.injEq] at e; subst e; rw [r.str_inv]; exact .str s
  | .tup xs, v, d, r, e => by
    simp only [dat, Option.map_eq_some_iff] at e
    obtain ⟨ds, e1, rfl⟩ := e
    simp only [Rep] at r
    obtain ⟨p, vs, rfl, b, c⟩ := r
    exact .tup (sqT_mono S.phi b) (dats_ok S c e1)
  | .lst xs, v, d, r, e => by
    simp only [dat, Option.map_eq_some_iff] at e
    obtain ⟨ds, e1, rfl⟩ := e
    simp only [Rep] at r
    obtain ⟨p, vs, rfl, b, c⟩ := r
    exact .lst (SqL.of (S.phi _ _ b)) (dats_ok S c e1)
  | .loc n, v, d, r, e => by simp [dat] at e
  | .scr n, v, d, r, e => by simp [dat] at e
  | .emp, v, d, r, e => by simp [dat] at e
  | .adr _ _ _ _, v, d, r, e => by simp [dat] at e
  | .dct _ _, v, d, r, e => by simp [dat] at e
  | .fnc _, v, d, r, e => by simp [dat] at e
theorem dats_ok (S : StOk K cl ω h H) : ∀ {ts : List T} {vs : List V} {ds : List PyData}, Reps K ω ts vs → dats ts = some ds → DpAll K H vs ds
  | [], vs, ds, r, e => by
    simp only [dats, Option.some.injEq] at e
    subst e
    rw [r.nil_inv]
    exact .nil
  | x :: xs, vs, ds, r, e => by
    simp only [dats] at e
    split at e
    · rename_i d ds' e1 e2
      cases e
      obtain ⟨v, vr, rfl, a, b⟩ := r.inv
      exact .cons (dat_ok S a e1) (dats_ok S b e2)
    · cases e
end
theorem datS_ok (S : StOk K cl ω h H) {t : T} {v : V} {d : PyData} (r : Rep K ω t v) (e : datS h t = some d) : Dp K H v d := by
  cases t with
  | loc n =>
    simp only [datS] at e
    split at e
    · rename_i xs hn
      rw [Option.map_eq_some_iff] at e
      obtain ⟨ds, e1, rfl⟩ := e
      obtain ⟨p, vs, rfl, _, b, c, _⟩ := lst_at S r hn
      exact .lst (SqL.of b) (dats_ok S c e1)
    · cases e
  | _ => exact dat_ok S r (by simpa only [datS] using e)
end
def eqG (a b : T) (h : Store) : Option Bool := match datS h a, datS h b with
  | some d, some e => if SeqAt.shaped d = true ∧ SeqAt.shaped e = true then some (PyData.eqv d e) else none
  | _, _ => none
def eqB (a b : T) (h : Store) : Option Bool := match a, b with
  | .int i, .int j => some (decide (i = j))
  | .bl i, .bl j => some (decide (i = j))
  | .str i, .str j => some (decide (i = j))
  | a, b => eqG a b h
def fEq : F2 := fun a b h => (eqB a b h).map .bl
def fNe : F2 := fun a b h => (eqB a b h).map fun c => .bl (!c)
def cmpI (p : Int → Int → Bool) : F2
  | .int i, .int j, _ => some (.bl (p i j))
  | _, _, _ => none
def fLt : F2
  | .int i, .int j, _ => some (.bl (decide (i < j)))
  | .str i, .str j, _ => some (.bl (decide (i.cps.toList < j.cps.toList)))
  | .tup xs, .tup ys, _ => match intsOf? xs, intsOf? ys with
    | some ns, some ms => some (.bl (HT.lexLt ns ms))
    | _, _ => none
  | _, _, _ => none
def fLe : F2 := cmpI fun i j => decide (i ≤ j)
def fGt : F2 := cmpI fun i j => decide (j < i)
def fGe : F2 := cmpI fun i j => decide (j ≤ i)
def isNon : T → Bool
  | .non => true
  | _ => false
def fIs : F2
  | a, .non, _ => some (.bl (isNon a))
  | .bl a, .bl b, _ => some (.bl (decide (a = b)))
  | _, _, _ => none
def fIsNot : F2
  | a, .non, _ => some (.bl (!isNon a))
  | .bl a, .bl b, _ => some (.bl (!decide (a = b)))
  | _, _, _ => none
def flatT : T → Bool
  | .non => true
  | .bl _ => true
  | .int _ => true
  | .str _ => true
  | _ => false
def eqT : T → T → Bool
  | .non, .non => true
  | .bl a, .bl b => a == b
  | .bl c, .int i => (if c then 1 else 0) == i
  | .int i, .bl c => i == (if c then 1 else 0)
  | .int a, .int b => a == b
  | .str a, .str b => a == b
  | _, _ => false
def inT (x : T) (xs : List T) : Bool := xs.any fun y => eqT y x
def inG (a b : T) (h : Store) : Option Bool := match datS h a, datS h b with
  | some d, some (.list ds) => if SeqAt.shaped d = true ∧ SeqAt.shaped (.list ds) = true then some (ds.any fun z => PyData.eqv z d) else none
  | _, _ => none
def fIn : F2 := fun a b h => match b with
  | .str z => match a with
    | .str w => match w.cps.toList with
      | [c] => some (.bl (decide (c ∈ z.cps.toList)))
      | _ => none
    | _ => none
  | b => match seqOf h b with
    | some xs => if flatT a = true ∧ xs.all flatT = true then some (.bl (inT a xs)) else (inG a b h).map .bl
    | none => none
def fNotIn : F2 := fun a b h => match b with
  | .str z => match a with
    | .str w => match w.cps.toList with
      | [c] => some (.bl (!decide (c ∈ z.cps.toList)))
      | _ => none
    | _ => none
  | b => match seqOf h b with
    | some xs => if flatT a = true ∧ xs.all flatT = true then some (.bl (!inT a xs)) else (inG a b h).map fun c => .bl (!c)
    | none => none
section
variable {K : PySem.W.Frag} {ω : Wd}
theorem Rep.nonIff {t : T} {v : V} (r : Rep K ω t v) : decide (v = .non) = isNon t := by
  cases t with
  | non => rw [r.non_inv]; rfl
  | bl b => rw [r.bl_inv]; rfl
  | int b => rw [r.int_inv]; rfl
  | str b => rw [r.str_inv]; rfl
  | tup xs => simp only [Rep] at r; obtain ⟨p, vs, rfl, _⟩ := r; rfl
  | lst xs => simp only [Rep] at r; obtain ⟨p, vs, rfl, _⟩ := r; rfl
  | loc n => simp only [Rep] at r; obtain ⟨p, rfl, _⟩ := r; rfl
  | scr n => simp only [Rep] at r; obtain ⟨p, rfl, _⟩ := r; rfl
  | emp => simp only [Rep] at r; obtain ⟨p, rfl, _⟩ := r; rfl
  | adr a d f ts => simp only [Rep] at r; obtain ⟨rfl, _⟩ := r; rfl
  | fnc x => simp only [Rep] at r; subst r; rfl
  | dct ks ts => simp only [Rep] at r; obtain ⟨p, vs, rfl, _⟩ := r; rfl
theorem Rep.flat {t : T} {v : V} (r : Rep K ω t v) : flatV v = flatT t := by
  cases t with
  | non => rw [r.non_inv]; rfl
  | bl b => rw [r.bl_inv]; rfl
  | int b => rw [r.int_inv]; rfl
  | str b => rw [r.str_inv]; rfl
  | tup xs => simp only [Rep] at r; obtain ⟨p, vs, rfl, _⟩ := r; rfl
  | lst xs => simp only [Rep] at r; obtain ⟨p, vs, rfl, _⟩ := r; rfl
  | loc n => simp only [Rep] at r; obtain ⟨p, rfl, _⟩ := r; rfl
  | scr n => simp only [Rep] at r; obtain ⟨p, rfl, _⟩ := r; rfl
  | emp => simp only [Rep] at r; obtain ⟨p, rfl, _⟩ := r; rfl
  | adr a d f ts => simp only [Rep] at r; obtain ⟨rfl, _⟩ := r; rfl
  | fnc x => simp only [Rep] at r; subst r; rfl
  | dct ks ts => simp only [Rep] at r; obtain ⟨p, vs, rfl, _⟩ := r; rfl
theorem Rep.eqv {t u : T} {v w : V} (r : Rep K ω t v) (q : Rep K ω u w) (f : flatT t = true) (g : flatT u = true) : eqV v w = eqT t u := by
  cases t <;> simp only [flatT, Bool.false_eq_true] at f <;> cases u <;> simp only [flatT, Bool.false_eq_true] at g <;>
    simp only [Rep] at r q <;> subst r <;> subst q <;> rfl
theorem Reps.allFlat : ∀ {ts : List T} {vs : List V}, Reps K ω ts vs → vs.all flatV = ts.all flatT
  | [], _, r => by rw [r.nil_inv]; rfl
  | t :: ts, _, r => by
    obtain ⟨v, vr, rfl, a, b⟩ := r.inv
    rw [List.all_cons, List.all_cons, a.flat, Reps.allFlat b]
theorem Reps.inV {t : T} {v : V} (q : Rep K ω t v) (f : flatT t = true) : ∀ {ts : List T} {vs : List V}, Reps K ω ts vs → ts.all flatT = true → L2.inV v vs = inT t ts
  | [], _, r, _ => by rw [r.nil_inv]; rfl
  | u :: ts, _, r, g => by
    obtain ⟨w, vr, rfl, a, b⟩ := r.inv
    rw [List.all_cons, Bool.and_eq_true] at g
    have ih := Reps.inV q f b g.2
    unfold L2.inV inT at ih ⊢
    rw [List.any_cons, List.any_cons, a.eqv q g.1 f, ih]
theorem Reps.ints : ∀ {ts : List T} {vs : List V} {ns : List Int}, Reps K ω ts vs → intsOf? ts = some ns → vs = ns.map V.int
  | [], _, ns, r, e => by
    simp only [intsOf?, Option.some.injEq] at e
    subst e
    exact r.nil_inv
  | t :: ts, _, ns, r, e => by
    obtain ⟨v, vr, rfl, a, b⟩ := r.inv
    cases t with
    | int i =>
      simp only [intsOf?, Option.map_eq_some_iff] at e
      obtain ⟨ms, e1, rfl⟩ := e
      rw [a.int_inv, Reps.ints b e1]
      rfl
    | _ => simp [intsOf?] at e
end
section
variable {X : Cx} {cl : Nat → Addr}
theorem eqB_ok (hu : X.A.units + 64 < cLine) {pins : List (Addr × Obj)} {s : Shared} {σ : L2.St} {H : Hp} {x y : V} {v u : Value} {Q : VK} {a b : T} {h : Store} {ω : Wd} {c : Bool} (I : Inv X pins σ H s) (rx : RelV x v) (ry : RelV y u)
    (S : StOk X.K cl ω h H) (ra : Rep X.K ω a x) (rb : Rep X.K ω b y) (e : eqB a b h = some c) (q : Q (.bl c) H) : wpAny (model X.prog X.w) X.A (compareOp .Eq v u) (EP X pins σ Q) X.xe s := by
  unfold eqB at e
  split at e
  · rw [ra.int_inv] at rx; rw [rb.int_inv] at ry; cases e
    exact op_eq pins s σ H _ _ v u Q I rx ry ⟨rfl, by simpa using q⟩
  · rw [ra.bl_inv] at rx; rw [rb.bl_inv] at ry; cases e
    exact op_eq pins s σ H _ _ v u Q I rx ry ⟨rfl, by simpa using q⟩
  · rw [ra.str_inv] at rx; rw [rb.str_inv] at ry; cases e
    exact op_eq pins s σ H _ _ v u Q I rx ry ⟨rfl, by simpa using q⟩
  · unfold eqG at e
    split at e
    · rename_i d d' e1 e2
      obtain ⟨c, rfl⟩ := ne_ite e
      exact op_eqD hu pins s σ H _ _ v u Q I rx ry ⟨d, d', datS_ok S ra e1, datS_ok S rb e2, c.1, c.2, q⟩
    · cases e
theorem neB_ok (hu : X.A.units + 64 < cLine) {pins : List (Addr × Obj)} {s : Shared} {σ : L2.St} {H : Hp} {x y : V} {v u : Value} {Q : VK} {a b : T} {h : Store} {ω : Wd} {c : Bool} (I : Inv X pins σ H s) (rx : RelV x v) (ry : RelV y u)
    (S : StOk X.K cl ω h H) (ra : Rep X.K ω a x) (rb : Rep X.K ω b y) (e : eqB a b h = some c) (q : Q (.bl (!c)) H) : wpAny (model X.prog X.w) X.A (compareOp .NotEq v u) (EP X pins σ Q) X.xe s := by
  unfold eqB at e
  split at e
  · rw [ra.int_inv] at rx; rw [rb.int_inv] at ry; cases e
    exact op_ne pins s σ H _ _ v u Q I rx ry ⟨rfl, by simpa using q⟩
  · rw [ra.bl_inv] at rx; rw [rb.bl_inv] at ry; cases e
    exact op_ne pins s σ H _ _ v u Q I rx ry ⟨rfl, by simpa using q⟩
  · rw [ra.str_inv] at rx; rw [rb.str_inv] at ry; cases e
    exact op_ne pins s σ H _ _ v u Q I rx ry ⟨rfl, by simpa using q⟩
  · unfold eqG at e
    split at e
    · rename_i d d' e1 e2
      obtain ⟨c, rfl⟩ := ne_ite e
      exact op_neD hu pins s σ H _ _ v u Q I rx ry ⟨d, d', datS_ok S ra e1, datS_ok S rb e2, c.1, c.2, q⟩
    · cases e
theorem o_eq (hu : X.A.units + 64 < cLine) : OpR X (compareOp .Eq) (rV2 X.K cl fEq) := by
  intro pins s σ H x y v u Q I rx ry ⟨a, b, h, ω, t, S, ra, rb, e, q⟩
  unfold fEq at e
  rw [Option.map_eq_some_iff] at e
  obtain ⟨c, e1, rfl⟩ := e
  exact eqB_ok hu I rx ry S ra rb e1 (q _ _ _ (Nx.refl _ _) S rep_bl)
theorem o_ne (hu : X.A.units + 64 < cLine) : OpR X (compareOp .NotEq) (rV2 X.K cl fNe) := by
  intro pins s σ H x y v u Q I rx ry ⟨a, b, h, ω, t, S, ra, rb, e, q⟩
  unfold fNe at e
  rw [Option.map_eq_some_iff] at e
  obtain ⟨c, e1, rfl⟩ := e
  exact neB_ok hu I rx ry S ra rb e1 (q _ _ _ (Nx.refl _ _) S rep_bl)
theorem o_cmpI {op : CmpOp} {p : Int → Int → Bool} (ho : OpR X (compareOp op) (rI0 fun i j => .bl (p i j))) : OpR X (compareOp op) (rV2 X.K cl (cmpI p)) := by
  intro pins s σ H x y v u Q I rx ry ⟨a, b, h, ω, t, S, ra, rb, e, q⟩
  unfold cmpI at e
  split at e
  · rw [ra.int_inv] at rx; rw [rb.int_inv] at ry; cases e
    exact ho pins s σ H _ _ v u Q I rx ry ⟨_, _, rfl, rfl, q _ _ _ (Nx.refl _ _) S rep_bl⟩
  · cases e
theorem o_le : OpR X (compareOp .LtE) (rV2 X.K cl fLe) := o_cmpI op_le
theorem o_gt : OpR X (compareOp .Gt) (rV2 X.K cl fGt) := o_cmpI op_gt
theorem o_ge : OpR X (compareOp .GtE) (rV2 X.K cl fGe) := o_cmpI op_ge
theorem o_lt (hu : X.A.units < cLine) : OpR X (compareOp .Lt) (rV2 X.K cl fLt) := by
  intro pins s σ H x y v u Q I rx ry ⟨a, b, h, ω, t, S, ra, rb, e, q⟩
  unfold fLt at e
  split at e
  · rw [ra.int_inv] at rx; rw [rb.int_inv] at ry; cases e
    exact op_lt pins s σ H _ _ v u Q I rx ry ⟨_, _, rfl, rfl, q _ _ _ (Nx.refl _ _) S rep_bl⟩
  · rw [ra.str_inv] at rx; rw [rb.str_inv] at ry; cases e
    exact op_lt_str pins s σ H _ _ v u Q I rx ry ⟨_, _, rfl, rfl, q _ _ _ (Nx.refl _ _) S rep_bl⟩
  · rename_i xs ys
    split at e
    · rename_i ns ms e1 e2
      cases e
      obtain ⟨p, vs, rfl, b1, c1⟩ := tupOf_ok (xs := xs) S ra rfl
      obtain ⟨p2, vs2, rfl, b2, c2⟩ := tupOf_ok (xs := ys) S rb rfl
      rw [c1.ints e1] at b1
      rw [c2.ints e2] at b2
      exact op_ltT hu pins s σ H _ _ v u Q I rx ry ⟨p, p2, ns, ms, rfl, rfl, b1, b2, q _ _ _ (Nx.refl _ _) S rep_bl⟩
    · cases e
  · cases e
theorem o_is : OpR X (compareOp .Is) (rV2 X.K cl fIs) := by
  intro pins s σ H x y v u Q I rx ry ⟨a, b, h, ω, t, S, ra, rb, e, q⟩
  unfold fIs at e
  split at e
  · rw [rb.non_inv] at ry; cases e
    exact op_isN pins s σ H _ _ v u Q I rx ry ⟨rfl, by rw [ra.nonIff]; exact q _ _ _ (Nx.refl _ _) S rep_bl⟩
  · rw [ra.bl_inv] at rx; rw [rb.bl_inv] at ry; cases e
    exact op_is_bl pins s σ H _ _ v u Q I rx ry ⟨_, _, rfl, rfl, q _ _ _ (Nx.refl _ _) S rep_bl⟩
  · cases e
theorem sign_of {w : Str} {c : Nat} (h : w.cps.toList = [c]) : w = ⟨#[c]⟩ := by
  cases w with
  | mk cps =>
    have : cps = #[c] := by
      apply Array.ext'
      simpa using h
    rw [this]
theorem o_in (hu : X.A.units + 65 < cLine) : OpR X (compareOp .In) (rV2 X.K cl fIn) := by
  intro pins s σ H x y v u Q I rx ry ⟨a, b, h, ω, t, S, ra, rb, e, q⟩
  unfold fIn at e
  split at e
  · rename_i z
    split at e
    · rename_i w
      split at e
      · rename_i c hc
        cases e
        rw [ra.str_inv] at rx; rw [rb.str_inv] at ry
        exact op_in_sign pins s σ H _ _ v u Q I rx ry ⟨c, z, by rw [sign_of hc], rfl, q _ _ _ (Nx.refl _ _) S rep_bl⟩
      · cases e
    · cases e
  · split at e
    · rename_i xs ea
      by_cases c : flatT a = true ∧ xs.all flatT = true
      · rw [if_pos c] at e
        cases e
        obtain ⟨p, vs, rfl, b1, c1⟩ := seqOf_ok S rb ea
        exact op_in_seq pins s σ H _ _ v u Q I rx ry ⟨p, vs, rfl, b1, by rw [ra.flat]; exact c.1, by rw [c1.allFlat]; exact c.2, by
          rw [if_neg Bool.false_ne_true, Reps.inV ra c.1 c1 c.2]
          exact q _ _ _ (Nx.refl _ _) S rep_bl⟩
      · rw [if_neg c, Option.map_eq_some_iff] at e
        obtain ⟨w, e1, e2⟩ := e
        unfold inG at e1
        split at e1
        · rename_i d ds ed el
          obtain ⟨cs, ce⟩ := ne_ite e1
          refine op_inD hu pins s σ H _ _ v u Q I rx ry ⟨d, ds, datS_ok S ra ed, datS_ok S rb el, cs.1, cs.2, ?_⟩
          rw [ce]
          refine q _ _ _ (Nx.refl _ _) S ?_
          rw [← e2]
          exact rep_bl
        · cases e1
    · cases e
theorem o_notin (hu : X.A.units + 65 < cLine) : OpR X (compareOp .NotIn) (rV2 X.K cl fNotIn) := by
  intro pins s σ H x y v u Q I rx ry ⟨a, b, h, ω, t, S, ra, rb, e, q⟩
  unfold fNotIn at e
  split at e
  · rename_i z
    split at e
    · rename_i w
      split at e
      · rename_i c hc
        cases e
        rw [ra.str_inv] at rx; rw [rb.str_inv] at ry
        exact op_notIn_sign pins s σ H _ _ v u Q I rx ry ⟨c, z, by rw [sign_of hc], rfl, q _ _ _ (Nx.refl _ _) S rep_bl⟩
      · cases e
    · cases e
  · split at e
    · rename_i xs ea
      by_cases c : flatT a = true ∧ xs.all flatT = true
      · rw [if_pos c] at e
        cases e
        obtain ⟨p, vs, rfl, b1, c1⟩ := seqOf_ok S rb ea
        exact op_notIn_seq pins s σ H _ _ v u Q I rx ry ⟨p, vs, rfl, b1, by rw [ra.flat]; exact c.1, by rw [c1.allFlat]; exact c.2, by
          rw [if_pos rfl, Reps.inV ra c.1 c1 c.2]
          exact q _ _ _ (Nx.refl _ _) S rep_bl⟩
      · rw [if_neg c, Option.map_eq_some_iff] at e
        obtain ⟨w, e1, e2⟩ := e
        unfold inG at e1
        split at e1
        · rename_i d ds ed el
          obtain ⟨cs, ce⟩ := ne_ite e1
          refine op_notInD hu pins s σ H _ _ v u Q I rx ry ⟨d, ds, datS_ok S ra ed, datS_ok S rb el, cs.1, cs.2, ?_⟩
          rw [ce]
          refine q _ _ _ (Nx.refl _ _) S ?_
          rw [← e2]
          exact rep_bl
        · cases e1
    · cases e
end
end Sm
namespace Sm
open PySem PySem.Spec PyProof.Rows L2
def fIdx : F2 := fun a b h => match b with
  | .int i => match a with
    | .str z => if z.length ≤ 100000 then (atI z.cps.toList i).map fun c => .str ⟨#[c]⟩ else none
    | a => (seqOf h a).bind fun xs => atI xs i
  | _ => none
section
variable {K : PySem.W.Frag} {ω : Wd}
theorem Reps.atI {ts : List T} {vs : List V} {i : Int} {t : T} (r : Reps K ω ts vs) (e : L2.atI ts i = some t) : ∃ v, L2.atI vs i = some v ∧ Rep K ω t v := by
  unfold L2.atI at e ⊢
  rw [Option.bind_eq_some_iff] at e
  obtain ⟨j, e1, e2⟩ := e
  obtain ⟨v, e3, q⟩ := r.get e2
  refine ⟨v, ?_, q⟩
  rw [← r.length, Option.bind_eq_some_iff]
  exact ⟨j, e1, e3⟩
end
section
variable {X : Cx} {cl : Nat → Addr} {W : WX} {a b : Expr} {m n : M T} {pos : Pos}
theorem ix_ok : IxR X (rV2 X.K cl fIdx) := by
  intro value slice pins s σ H x y v u Q I rx ry ⟨a, b, h, ω, t, S, ra, rb, e, q⟩ hsub
  unfold fIdx at e
  split at e
  · rename_i i
    rw [rb.int_inv] at ry
    split at e
    · rename_i z
      obtain ⟨c, e⟩ : z.length ≤ 100000 ∧ (L2.atI z.cps.toList i).map (fun c => T.str ⟨#[c]⟩) = some t := by
        split at e
        · rename_i c; exact ⟨c, e⟩
        · cases e
      rw [Option.map_eq_some_iff] at e
      obtain ⟨k, e1, rfl⟩ := e
      rw [ra.str_inv] at rx
      exact ix_seq value slice pins s σ H _ _ v u Q I rx ry (.inr (.inr ⟨z, i, k, rfl, rfl, line5 c, e1, q _ _ _ (Nx.refl _ _) S rep_str⟩)) hsub
    · rw [Option.bind_eq_some_iff] at e
      obtain ⟨xs, e1, e2⟩ := e
      obtain ⟨p, vs, rfl, b1, c1⟩ := seqOf_ok S ra e1
      obtain ⟨w, e3, rw'⟩ := c1.atI e2
      have q' := q _ _ _ (Nx.refl _ _) S rw'
      rcases b1 with b1 | b1
      · exact ix_seq value slice pins s σ H _ _ v u Q I rx ry (.inl ⟨p, vs, i, w, rfl, rfl, b1, e3, q'⟩) hsub
      · exact ix_seq value slice pins s σ H _ _ v u Q I rx ry (.inr (.inl ⟨p, vs, i, w, rfl, rfl, b1, e3, q'⟩)) hsub
  · cases e
theorem k_idx (hs : PlainIx b) (ha : PE X a (tE X.K cl W m)) (hb : PE X b (tE X.K cl W n)) : PE X (.Subscript a b pos) (tE X.K cl W (mBin fIdx m n)) :=
  (pe_ix ix_ok ha hb hs).weak fun _ _ _ h => two_step h
def cutT (xs : List T) (lo hi : Option Int) : List T := (xs.drop (HT.sIx xs.length 0 lo)).take (HT.sIx xs.length xs.length hi - HT.sIx xs.length 0 lo)
theorem Reps.cut {K : PySem.W.Frag} {ω : Wd} {ts : List T} {vs : List V} (r : Reps K ω ts vs) (lo hi : Option Int) : Reps K ω (cutT ts lo hi) (cutV vs lo hi) := by
  unfold cutT cutV
  rw [r.length]
  exact (r.drop _).take _
def mPart : Option (M T) → M (Option Int)
  | none => fun _ h => .ok none h
  | some m => fun env h => (m env h).bind fun t h1 => match t with
    | .int i => .ok (some i) h1
    | _ => .bad
def tO (K : PySem.W.Frag) (cl : Nat → Addr) (W : WX) (m : M (Option Int)) : TO := fun σ H Q => ∃ env h ω, EnvOk K ω env σ ∧ StOk K cl ω h H ∧ PostG K cl W ω H σ (m env h) fun o _ _ H' => Q o H'
theorem _root_.L2.PO.weak {e : Option Expr} {t t' : TO} (h : PO X e t) (m : ∀ σ H Q, t' σ H Q → t σ H Q) : PO X e t' := ⟨fun pins s σ H Q I q => h.run pins s σ H Q I (m σ H Q q)⟩
theorem ko_none : PO X none (tO X.K cl W (mPart none)) := po_none.weak fun σ H Q ⟨env, h, ω, he, hs, q⟩ => q ω H (Nx.refl _ _) hs
theorem ko_some {e : Expr} (h : PE X e (tE X.K cl W m)) : PO X (some e) (tO X.K cl W (mPart (some m))) := by
  refine (po_some h).weak fun σ H Q ⟨env, h, ω, he, hs, q⟩ => ⟨env, h, ω, he, hs, (PostG.bind q).mono fun t h1 ω1 H1 N1 S1 q1 v r => ?_⟩
  cases t with
  | int i => exact ⟨i, r.int_inv, q1 ω1 H1 (Nx.refl _ _) S1⟩
  | _ => exact q1.elim
def fSl (a : T) (lo hi : Option Int) (h : Store) : Option T := match a with
  | .str z => if z.length ≤ 100000 then some (.str (Txt.slice z lo hi)) else none
  | .tup xs => some (.tup (cutT xs lo hi))
  | a => (lstOf h a).map fun xs => .lst (cutT xs lo hi)
def mSl (m : M T) (lo hi : M (Option Int)) : M T := fun env h => (m env h).bind fun a h1 => (lo env h1).bind fun l h2 => (hi env h2).bind fun u h3 => Out.ofO (fSl a l u h3) h3
theorem sl_any : SlR X (fun x lo hi H Q => ∃ a h ω t, StOk X.K cl ω h H ∧ Rep X.K ω a x ∧ fSl a lo hi h = some t ∧ ∀ ω' H' v, Nx ω H ω' H' → StOk X.K cl ω' h H' → Rep X.K ω' t v → Q v H') := by
  intro pins s σ H x v vl vu lo hi sl Q I rx hs pl pu ⟨a, h, ω, t, S, ra, e, q⟩
  unfold fSl at e
  split at e
  · rename_i z
    obtain ⟨c, rfl⟩ := ne_ite e
    rw [ra.str_inv] at rx
    exact C8.sl_txt pins s σ H _ v vl vu lo hi sl Q I rx hs pl pu ⟨z, rfl, line5 c, q _ _ _ (Nx.refl _ _) S rep_str⟩
  · rename_i xs
    cases e
    obtain ⟨p, vs, rfl, b1, c1⟩ := tupOf_ok (xs := xs) S ra rfl
    refine sl_tupA pins s σ H _ v vl vu lo hi sl Q I rx hs pl pu ⟨p, vs, rfl, b1, fun w => ?_, fun w p hp => give_tup S (c1.cut lo hi) q hp⟩
    have e1 : cutT xs lo hi = xs := by
      unfold cutT
      rw [c1.length, w.1, w.2, List.drop_zero, ← c1.length, Nat.sub_zero, List.take_length]
    rw [e1] at q
    exact q _ _ _ (Nx.refl _ _) S ra
  · rw [Option.map_eq_some_iff] at e
    obtain ⟨xs, e1, rfl⟩ := e
    obtain ⟨p, vs, rfl, b1, c1⟩ := lstOf_ok S ra e1
    exact sl_list pins s σ H _ v vl vu lo hi sl Q I rx hs pl pu ⟨p, vs, rfl, SqL.of b1, fun p hp => give_lst S (c1.cut lo hi) q hp⟩
theorem k_slice {lo hi : Option Expr} {ml mh : M (Option Int)} {p2 : Pos} (he : PE X a (tE X.K cl W m)) (hl : PO X lo (tO X.K cl W ml)) (hu : PO X hi (tO X.K cl W mh)) : PE X (.Subscript a (.Slice lo hi none p2) pos) (tE X.K cl W (mSl m ml mh)) := by
  refine (pe_slice (sl_any (cl := cl)) he hl hu).weak fun σ H Q ⟨env, h, ω, he, hs, q⟩ => ⟨env, h, ω, he, hs, (PostG.bind q).mono fun t h1 ω1 H1 N1 S1 q1 v r => ⟨env, h1, ω1, he.mono N1.toGr, S1, (PostG.bind q1).mono fun l h2 ω2 H2 N2 S2 q2 => ⟨env, h2, ω2, (he.mono N1.toGr).mono N2.toGr, S2, (PostG.bind q2).mono fun u h3 ω3 H3 N3 S3 q3 => ?_⟩⟩⟩
  obtain ⟨t', e, q4⟩ := q3.ofO
  exact ⟨t, h3, ω3, t', S3, (r.mono N2.toGr).mono N3.toGr, e, fun ω' H' v N S r => q4 ω' H' N S v r⟩
def mCallF (f : FA) (r : M (List T)) : M T := fun env h => (r env h).bind fun as h1 => Out.ofO (f as h1) h1
variable {r : M (List T)} {f : FA}
theorem callF_step {K : PySem.W.Frag} {σ : L2.St} {H : Hp} {Q : VK} (h : tE K cl W (mCallF f r) σ H Q) : tA K cl W r σ H fun vs H1 => rVA K cl f vs H1 Q := by
  obtain ⟨env, h, ω, he, hs, q⟩ := h
  refine ⟨env, h, ω, he, hs, (PostG.bind q).mono fun ts h1 ω1 H1 N1 S1 q1 vs rs => ?_⟩
  obtain ⟨t, e, q3⟩ := q1.ofO
  exact ⟨ts, h1, ω1, t, S1, rs, e, fun ω' H' v N S r => q3 ω' H' N S v r⟩
theorem k_callB {x : Str} {id : String} {p : Pos} {e : Expr} {es : List Expr} (hc : CallR X (.builtin id) (rVA X.K cl f)) (hg : Gl X x) (hm : X.mg x = none) (hv : bootBuiltins x = some (.builtin id)) (ha : PA X (e :: es) (tA X.K cl W r)) (hn : x ≠ "__name__" := by decide) (hdb : (x == ("__debug__" : Str)) = false := by decide)
    (he : starEach (e :: es) X.env = (false, eval e X.env) :: starEach es X.env := by rfl) (hpl : (backTo pos (starEach es X.env)).any (·.1) = false := by rfl) : PE X (.Call (.Name x p) (e :: es) [] pos) (tE X.K cl W (mCallF f r)) :=
  (pe_callB hc hg hm hv ha hn hdb he hpl).weak fun _ _ _ h => callF_step h
theorem k_callTy {x : Str} {Ty : String} {p : Pos} {e : Expr} {es : List Expr} (hc : CallR X (.type Ty) (rVA X.K cl f)) (hg : Gl X x) (hm : X.mg x = none) (hv : bootBuiltins x = some (.type Ty)) (ha : PA X (e :: es) (tA X.K cl W r)) (hn : x ≠ "__name__" := by decide) (hdb : (x == ("__debug__" : Str)) = false := by decide)
    (he : starEach (e :: es) X.env = (false, eval e X.env) :: starEach es X.env := by rfl) (hpl : (backTo pos (starEach es X.env)).any (·.1) = false := by rfl) : PE X (.Call (.Name x p) (e :: es) [] pos) (tE X.K cl W (mCallF f r)) :=
  (pe_callTy hc hg hm hv ha hn hdb he hpl).weak fun _ _ _ h => callF_step h
def blsOf? : List T → Option (List Bool)
  | [] => some []
  | .bl i :: r => (blsOf? r).map (i :: ·)
  | _ => none
theorem Reps.bls {K : PySem.W.Frag} {ω : Wd} : ∀ {ts : List T} {vs : List V} {ns : List Bool}, Reps K ω ts vs → blsOf? ts = some ns → vs = ns.map V.bl
  | [], _, ns, r, e => by
    simp only [blsOf?, Option.some.injEq] at e
    subst e
    exact r.nil_inv
  | t :: ts, _, ns, r, e => by
    obtain ⟨v, vr, rfl, a, b⟩ := r.inv
    cases t with
    | bl i =>
      simp only [blsOf?, Option.map_eq_some_iff] at e
      obtain ⟨ms, e1, rfl⟩ := e
      rw [a.bl_inv, Reps.bls b e1]
      rfl
    | _ => simp [blsOf?] at e
def maxL : List Int → Int
  | [] => 0
  | [x] => x
  | x :: y :: r => if x < maxL (y :: r) then maxL (y :: r) else x
def minL : List Int → Int
  | [] => 0
  | [x] => x
  | x :: y :: r => if minL (y :: r) < x then minL (y :: r) else x
theorem maxL_is : ∀ {ns : List Int}, ns ≠ [] → maxL ns ∈ ns ∧ ∀ y ∈ ns, y ≤ maxL ns
  | [], h => absurd rfl h
  | [x], _ => by simp [maxL]
  | x :: y :: r, _ => by
    obtain ⟨h1, h2⟩ := maxL_is (ns := y :: r) (by simp)
    unfold maxL
    by_cases c : x < maxL (y :: r)
    · rw [if_pos c]
      refine ⟨List.mem_cons_of_mem _ h1, fun z hz => ?_⟩
      rcases List.mem_cons.mp hz with rfl | hz
      · omega
      · exact h2 z hz
    · rw [if_neg c]
      refine ⟨List.mem_cons_self .., fun z hz => ?_⟩
      rcases List.mem_cons.mp hz with rfl | hz
      · omega
      · have := h2 z hz; omega
theorem minL_is : ∀ {ns : List Int}, ns ≠ [] → minL ns ∈ ns ∧ ∀ y ∈ ns, minL ns ≤ y
  | [], h => absurd rfl h
  | [x], _ => by simp [minL]
  | x :: y :: r, _ => by
    obtain ⟨h1, h2⟩ := minL_is (ns := y :: r) (by simp)
    unfold minL
    by_cases c : minL (y :: r) < x
    · rw [if_pos c]
      refine ⟨List.mem_cons_of_mem _ h1, fun z hz => ?_⟩
      rcases List.mem_cons.mp hz with rfl | hz
      · omega
      · exact h2 z hz
    · rw [if_neg c]
      refine ⟨List.mem_cons_self .., fun z hz => ?_⟩
      rcases List.mem_cons.mp hz with rfl | hz
      · omega
      · have := h2 z hz; omega
def fLen : FA := fun as h => match as with
  | [.str y] => if y.length ≤ 100000 then some (.int y.length) else none
  | [t] => (seqOf h t).map fun xs => .int xs.length
  | _ => none
def fAll : FA := fun as h => match as with
  | [t] => (lstOf h t).bind fun xs => (blsOf? xs).map fun ns => .bl (ns.all id)
  | _ => none
def fAny : FA := fun as h => match as with
  | [t] => (lstOf h t).bind fun xs => (blsOf? xs).map fun ns => .bl (ns.any id)
  | _ => none
def fMax : FA := fun as h => match as with
  | [.int i, .int j] => some (.int (if j > i then j else i))
  | [t] => (lstOf h t).bind fun xs => (intsOf? xs).bind fun ns => if ns ≠ [] then some (.int (maxL ns)) else none
  | _ => none
def fMin : FA := fun as h => match as with
  | [.int i, .int j] => some (.int (if j < i then j else i))
  | [.tup xs] => (intsOf? xs).bind fun ns => if ns ≠ [] then some (.int (minL ns)) else none
  | [t] => (lstOf h t).bind fun xs => (intsOf? xs).bind fun ns => if ns ≠ [] then some (.int (minL ns)) else none
  | _ => none
def fInt : FA := fun as _ => match as with
  | [.int i] => some (.int i)
  | [.bl k] => some (.int (if k then 1 else 0))
  | _ => none
def fStr : FA := fun as _ => match as with
  | [.int i] => if i.natAbs.log2 < 1920 then some (.str (toString i)) else none
  | _ => none
def fTuple : FA := fun as h => match as with
  | [.tup xs] => some (.tup xs)
  | [t] => (lstOf h t).map .tup
  | _ => none
theorem c_len : CallR X (.builtin "len") (rVA X.K cl fLen) := by
  intro pins s σ H xs us Q I rx ⟨as, h, ω, t, S, ra, e, q⟩
  unfold fLen at e
  split at e
  · rename_i y
    obtain ⟨c, rfl⟩ := ne_ite e
    obtain ⟨v, vr, rfl, a, b⟩ := ra.inv
    rw [b.nil_inv, a.str_inv] at rx
    exact call_len pins s σ H _ us Q I rx ⟨_, _, rfl, ⟨line5 c, rfl⟩, q _ _ _ (Nx.refl _ _) S rep_int⟩
  · rename_i t' _
    rw [Option.map_eq_some_iff] at e
    obtain ⟨ys, e1, rfl⟩ := e
    obtain ⟨v, vr, rfl, a, b⟩ := ra.inv
    obtain ⟨p, vs, rfl, b1, c1⟩ := seqOf_ok S a e1
    rw [b.nil_inv] at rx
    refine call_len pins s σ H _ us Q I rx ⟨_, _, rfl, b1.elim (fun z => .inl ⟨vs, z, rfl⟩) (fun z => .inr ⟨vs, z, rfl⟩), ?_⟩
    rw [← c1.length]
    exact q _ _ _ (Nx.refl _ _) S rep_int
  · cases e
theorem c_all (hc : X.calm = true) : CallR X (.builtin "all") (rVA X.K cl fAll) := by
  intro pins s σ H xs us Q I rx ⟨as, h, ω, t, S, ra, e, q⟩
  unfold fAll at e
  split at e
  · rw [Option.bind_eq_some_iff] at e
    obtain ⟨ys, e1, e⟩ := e
    rw [Option.map_eq_some_iff] at e
    obtain ⟨ns, e2, rfl⟩ := e
    obtain ⟨v, vr, rfl, a, b⟩ := ra.inv
    obtain ⟨p, vs, rfl, b1, c1⟩ := lstOf_ok S a e1
    rw [b.nil_inv] at rx
    rw [c1.bls e2] at b1
    exact cr_all hc pins s σ H _ us Q I rx ⟨p, ns, rfl, SqL.of b1, q _ _ _ (Nx.refl _ _) S rep_bl⟩
  · cases e
theorem c_max (hc : X.calm = true) : CallR X (.builtin "max") (rVA X.K cl fMax) := by
  intro pins s σ H xs us Q I rx ⟨as, h, ω, t, S, ra, e, q⟩
  unfold fMax at e
  split at e
  · cases e
    obtain ⟨v, vr, rfl, a, b⟩ := ra.inv
    obtain ⟨v2, vr2, rfl, a2, b2⟩ := b.inv
    rw [b2.nil_inv, a.int_inv, a2.int_inv] at rx
    exact call_max2 hc pins s σ H _ us Q I rx ⟨_, _, rfl, q _ _ _ (Nx.refl _ _) S rep_int⟩
  · rw [Option.bind_eq_some_iff] at e
    obtain ⟨ys, e1, e⟩ := e
    rw [Option.bind_eq_some_iff] at e
    obtain ⟨ns, e2, e⟩ := e
    obtain ⟨c, rfl⟩ := ne_ite e
    obtain ⟨v, vr, rfl, a, b⟩ := ra.inv
    obtain ⟨p, vs, rfl, b1, c1⟩ := lstOf_ok S a e1
    rw [b.nil_inv] at rx
    rw [c1.ints e2] at b1
    obtain ⟨m1, m2⟩ := maxL_is c
    refine cr_max hc pins s σ H _ us Q I rx ⟨p, ns, rfl, SqL.of b1, List.length_pos_iff.mpr c, fun m k1 k2 => ?_⟩
    have : m = maxL ns := by
      have := m2 m k1
      have := k2 _ m1
      omega
    rw [this]
    exact q _ _ _ (Nx.refl _ _) S rep_int
  · cases e
theorem reads_ints {hp : Heap} : ∀ {ns : List Int} {its : List Value}, IntsAre its ns → PySem.W.HoldAll hp its ns
  | _, _, .nil => ⟨[], .nil⟩
  | _, _, .cons p t h => by
    obtain ⟨as, r⟩ := reads_ints (hp := hp) h
    exact ⟨[] ++ as, .cons (.int _ _) r⟩
theorem minOf_is (x : Int) : ∀ xs : List Int, PySem.W.minOf x xs ∈ x :: xs ∧ ∀ y ∈ x :: xs, PySem.W.minOf x xs ≤ y := fun xs => by
  unfold PySem.W.minOf
  induction xs generalizing x with -- from the left
  | nil => simp
  | cons z zs ih =>
    rw [List.foldl_cons]
    have e : (if PySem.W.DatumOrd.lt z x = true then z else x) = if z < x then z else x := by
      show (if decide (z < x) = true then z else x) = _
      simp
    rw [e]
    by_cases c : z < x
    · rw [if_pos c]
      obtain ⟨i1, i2⟩ := ih z
      refine ⟨List.mem_cons_of_mem _ i1, fun y hy => ?_⟩
      rcases List.mem_cons.mp hy with q | q
      · have := i2 z (List.mem_cons_self ..)
        omega
      · exact i2 y q
    · rw [if_neg c]
      obtain ⟨i1, i2⟩ := ih x
      refine ⟨?_, fun y hy => ?_⟩
      · rcases List.mem_cons.mp i1 with q | q
        · exact List.mem_cons.mpr (.inl q)
        · exact List.mem_cons_of_mem _ (List.mem_cons_of_mem _ q)
      · rcases List.mem_cons.mp hy with q | q
        · exact i2 y (List.mem_cons.mpr (.inl q))
        · rcases List.mem_cons.mp q with q2 | q2
          · have := i2 x (List.mem_cons_self ..)
            omega
          · exact i2 y (List.mem_cons_of_mem _ q2)
theorem cr_minT (hc : X.calm = true) (hu : X.A.units + 64 < cLine) : CallR X (.builtin "min") (fun vs H Q => ∃ (a : Addr) (ns : List Int), vs = [V.ref a] ∧ SqT X.K H a (ns.map V.int) ∧ 0 < ns.length ∧ ∀ m, m ∈ ns → (∀ y, y ∈ ns → m ≤ y) → Q (.int m) H) := by
  intro pins s σ H vs us Q I r ⟨a, ns, e0, hs, hne, q⟩
  subst e0
  obtain ⟨its, rv, hT, _⟩ := I.tuple hs
  rw [Vals.ref1 r]
  cases ns with
  | nil => simp at hne
  | cons x xs =>
    refine PySem.W.min_tuple_datum (α := Int) (x := x) (xs := xs) (I.ok.hd hc) hT (by simpa using reads_ints rv.ints) (by show _ + 1 + 0 < cLine; omega) fun i v h' tk _ hv hk => ?_
    obtain ⟨as, rd⟩ := hv
    have rd : Reads h' v (.int (PySem.W.minOf x xs)) as := rd
    cases rd with
    | int i t =>
      obtain ⟨m1, m2⟩ := minOf_is x xs
      exact ⟨.int _, H, I.kept hk, ⟨_, rfl⟩, q _ m1 m2⟩
theorem c_min (hc : X.calm = true) (hu : X.A.units + 64 < cLine) : CallR X (.builtin "min") (rVA X.K cl fMin) := by
  intro pins s σ H xs us Q I rx ⟨as, h, ω, t, S, ra, e, q⟩
  unfold fMin at e
  split at e
  · cases e
    obtain ⟨v, vr, rfl, a, b⟩ := ra.inv
    obtain ⟨v2, vr2, rfl, a2, b2⟩ := b.inv
    rw [b2.nil_inv, a.int_inv, a2.int_inv] at rx
    exact call_min2 hc pins s σ H _ us Q I rx ⟨_, _, rfl, q _ _ _ (Nx.refl _ _) S rep_int⟩
  · rename_i ys
    rw [Option.bind_eq_some_iff] at e
    obtain ⟨ns, e2, e⟩ := e
    obtain ⟨c, rfl⟩ := ne_ite e
    obtain ⟨v, vr, rfl, a, b⟩ := ra.inv
    simp only [Rep] at a
    obtain ⟨p, vs, rfl, b1, c1⟩ := a
    rw [b.nil_inv] at rx
    rw [c1.ints e2] at b1
    obtain ⟨m1, m2⟩ := minL_is c
    refine cr_minT hc hu pins s σ H _ us Q I rx ⟨p, ns, rfl, sqT_mono S.phi b1, List.length_pos_iff.mpr c, fun m k1 k2 => ?_⟩
    have : m = minL ns := by
      have := m2 m k1
      have := k2 _ m1
      omega
    rw [this]
    exact q _ _ _ (Nx.refl _ _) S rep_int
  · rw [Option.bind_eq_some_iff] at e
    obtain ⟨ys, e1, e⟩ := e
    rw [Option.bind_eq_some_iff] at e
    obtain ⟨ns, e2, e⟩ := e
    obtain ⟨c, rfl⟩ := ne_ite e
    obtain ⟨v, vr, rfl, a, b⟩ := ra.inv
    obtain ⟨p, vs, rfl, b1, c1⟩ := lstOf_ok S a e1
    rw [b.nil_inv] at rx
    rw [c1.ints e2] at b1
    obtain ⟨m1, m2⟩ := minL_is c
    refine cr_min hc pins s σ H _ us Q I rx ⟨p, ns, rfl, SqL.of b1, List.length_pos_iff.mpr c, fun m k1 k2 => ?_⟩
    have : m = minL ns := by
      have := m2 m k1
      have := k2 _ m1
      omega
    rw [this]
    exact q _ _ _ (Nx.refl _ _) S rep_int
  · cases e
theorem c_int : CallR X (.type "int") (rVA X.K cl fInt) := by
  intro pins s σ H xs us Q I rx ⟨as, h, ω, t, S, ra, e, q⟩
  unfold fInt at e
  split at e
  · cases e
    obtain ⟨v, vr, rfl, a, b⟩ := ra.inv
    rw [b.nil_inv, a.int_inv] at rx
    exact call_int1 pins s σ H _ us Q I rx (.inl ⟨_, rfl, q _ _ _ (Nx.refl _ _) S rep_int⟩)
  · cases e
    obtain ⟨v, vr, rfl, a, b⟩ := ra.inv
    rw [b.nil_inv, a.bl_inv] at rx
    exact call_int1 pins s σ H _ us Q I rx (.inr ⟨_, rfl, q _ _ _ (Nx.refl _ _) S rep_int⟩)
  · cases e
theorem c_str : CallR X (.type "str") (rVA X.K cl fStr) := by
  intro pins s σ H xs us Q I rx ⟨as, h, ω, t, S, ra, e, q⟩
  unfold fStr at e
  split at e
  · obtain ⟨c, rfl⟩ := ne_ite e
    obtain ⟨v, vr, rfl, a, b⟩ := ra.inv
    rw [b.nil_inv, a.int_inv] at rx
    exact call_str_int pins s σ H _ us Q I rx ⟨_, rfl, c, q _ _ _ (Nx.refl _ _) S rep_str⟩
  · cases e
theorem c_tuple : CallR X (.type "tuple") (rVA X.K cl fTuple) := by
  intro pins s σ H xs us Q I rx ⟨as, h, ω, t, S, ra, e, q⟩
  unfold fTuple at e
  split at e
  · rename_i ys
    cases e
    obtain ⟨v, vr, rfl, a, b⟩ := ra.inv
    obtain ⟨p, vs, rfl, b1, c1⟩ := tupOf_ok (xs := ys) S a rfl
    rw [b.nil_inv] at rx
    exact call_tuple_of pins s σ H _ us Q I rx ⟨p, vs, rfl, .inr ⟨b1, q _ _ _ (Nx.refl _ _) S a⟩⟩
  · rw [Option.map_eq_some_iff] at e
    obtain ⟨ys, e1, rfl⟩ := e
    obtain ⟨v, vr, rfl, a, b⟩ := ra.inv
    obtain ⟨p, vs, rfl, b1, c1⟩ := lstOf_ok S a e1
    rw [b.nil_inv] at rx
    exact call_tuple_of pins s σ H _ us Q I rx ⟨p, vs, rfl, .inl ⟨SqL.of b1, fun l hl => give_tup S c1 q hl⟩⟩
  · cases e
def mNewA (f : List T → Store → Option (List T)) (r : M (List T)) : M (List T) := fun env h => (r env h).bind fun as h1 => Out.ofO (f as h1) h1
def fList (as : List T) (h : Store) : Option (List T) := match as with
  | [t] => seqOf h t
  | _ => none
def tyOf (h : Store) : T → Option String
  | .non => some "NoneType"
  | .bl _ => some "bool"
  | .int _ => some "int"
  | .str _ => some "str"
  | .tup _ => some "tuple"
  | .lst _ => some "list"
  | .loc n => match h[n]? with
    | some (.lst _) => some "list"
    | some (.dK _) => some "dict"
    | _ => none
  | .scr _ => none
  | .emp => some "dict"
  | .adr _ _ _ _ => none
  | .fnc _ => none
  | .dct _ _ => none
def isiB (a b : String) : Bool := a == b || (a == "bool" && b == "int")
def isiTys : List String := ["NoneType", "bool", "int", "str", "tuple", "list", "dict"]
theorem kit_all : ∀ a ∈ isiTys, ∀ b ∈ ["int", "bool", "str", "tuple", "list", "dict"], kitB a b = some (isiB a b) := by decide +kernel
theorem tyOf_mem {h : Store} {t : T} {a : String} (e : tyOf h t = some a) : a ∈ isiTys := by
  unfold tyOf at e
  split at e <;> first
    | (cases e; decide)
    | (split at e <;> first | (cases e; decide) | cases e)
    | cases e
theorem tyOf_ok {K : PySem.W.Frag} {ω : Wd} {h : Store} {H : Hp} (S : StOk K cl ω h H) {t : T} {v : V} {a : String} (ra : Rep K ω t v) (e : tyOf h t = some a) : TyX K H v (.type a) := by
  cases t with
  | non => cases e; rw [ra.non_inv]; exact .base .non
  | bl b => cases e; rw [ra.bl_inv]; exact .base (.bl b)
  | int b => cases e; rw [ra.int_inv]; exact .base (.int b)
  | str b => cases e; rw [ra.str_inv]; exact .base (.str b)
  | tup xs =>
    cases e
    obtain ⟨p, vs, rfl, b1, c1⟩ := tupOf_ok (xs := xs) S ra rfl
    rcases b1 with (b1 | ⟨o, b1⟩) | ⟨o, its, n, k, c, _⟩
    · exact .base (.tup b1)
    · exact .fTuple b1
    · exact .kTuple k c
  | lst xs =>
    cases e
    obtain ⟨p, vs, rfl, b1, c1⟩ := lstOf_ok (xs := xs) S ra rfl
    exact .base (.lst b1)
  | loc n =>
    simp only [tyOf] at e
    simp only [Rep] at ra
    obtain ⟨p, rfl, q⟩ := ra
    split at e
    · rename_i xs hn
      cases e
      obtain ⟨_, vs, b, _⟩ := S.cells n _ p hn q
      exact .base (.lst b)
    · rename_i xs hn
      cases e
      obtain ⟨_, vs, b, _⟩ := S.cells n _ p hn q
      exact .base (.dK b)
    · cases e
  | scr ns => simp [tyOf] at e
  | adr a d f ts => cases e
  | fnc x => cases e
  | dct ks ts => cases e
  | emp =>
    cases e
    simp only [Rep] at ra
    obtain ⟨p, rfl, q⟩ := ra
    exact .base (.dK (S.phi _ _ q))
def fIsi (ty : String) : F1 := fun t h => (tyOf h t).map fun a => .bl (isiB a ty)
theorem k_isi {ty : String} {x : Str} {e : Expr} {p p2 : Pos} (hty : ty ∈ ["int", "bool", "str", "tuple", "list", "dict"]) (he : PE X e (tE X.K cl W m)) (hg : Gl X "isinstance") (hm : X.mg "isinstance" = none) (hg2 : Gl X x) (hm2 : X.mg x = none) (hv2 : bootBuiltins x = some (.type ty)) (hv : bootBuiltins "isinstance" = some (.builtin "isinstance"))
    (hn2 : x ≠ "__name__" := by decide) (hdb2 : (x == ("__debug__" : Str)) = false := by decide)
    (hst : starEach [e, .Name x p2] X.env = (false, eval e X.env) :: starEach [.Name x p2] X.env := by rfl) (hst2 : starEach [.Name x p2] X.env = (false, eval (.Name x p2) X.env) :: starEach [] X.env := by rfl) (hpl : (backTo pos (starEach [.Name x p2] X.env)).any (·.1) = false := by rfl) :
    PE X (.Call (.Name "isinstance" p) [e, .Name x p2] [] pos) (tE X.K cl W (mUn (fIsi ty) m)) := by
  have a2 : PE X (.Name x p2) (tC (.ty ty)) := pe_bltn hg2 hm2 hv2 rfl hn2 hdb2
  refine (pe_callB call_isi hg hm hv (pa_cons he (pa_cons a2 pa_nil hst2) hst) (by decide) (by decide) hst hpl).weak fun σ H Q ⟨env, h, ω, he, hs, q⟩ => ⟨env, h, ω, he, hs, (PostG.bind q).mono fun t h1 ω1 H1 N1 S1 q1 v r => ?_⟩
  obtain ⟨t', e, q2⟩ := q1.ofO
  unfold fIsi at e
  rw [Option.map_eq_some_iff] at e
  obtain ⟨a, e1, rfl⟩ := e
  exact ⟨v, .ty ty, .type a, .type ty, isiB a ty, rfl, .ty ty, tyOf_ok S1 r e1, kit_ty (kit_all a (tyOf_mem e1) ty hty), q2 ω1 H1 (Nx.refl _ _) S1 _ rep_bl⟩
end
end Sm
namespace Sm
open PySem PySem.Spec PyProof.Rows L2
structure Src where
  items : List T
  gs : List (Nat × List T)
def gsOk (h : Store) (gs : List (Nat × List T)) : Prop := ∀ g ∈ gs, h[g.1]? = some (.lst g.2)
@[simp] theorem gsOk_nil (h : Store) : gsOk h [] = True := by simp [gsOk]
open Classical in
noncomputable instance gsDec (h : Store) (gs : List (Nat × List T)) : Decidable (gsOk h gs) := propDecidable _
structure ItOk (K : PySem.W.Frag) (cl : Nat → Addr) (J : It) (s : Src) (ω0 : Wd) : Prop where
  goes : ∀ i ω h H, Gr ω0 ω → StOk K cl ω h H → gsOk h s.gs → i < s.items.length → J.go i H
  stops : ∀ ω h H, Gr ω0 ω → StOk K cl ω h H → gsOk h s.gs → J.stop s.items.length H
  yields : ∀ i ω h H x H', Gr ω0 ω → StOk K cl ω h H → gsOk h s.gs → i < s.items.length → J.yld i H x H' → ∃ ω' t, Nx ω H ω' H' ∧ StOk K cl ω' h H' ∧ s.items[i]? = some t ∧ Rep K ω' t x
def tI (K : PySem.W.Frag) (cl : Nat → Addr) (W : WX) (m : M Src) : TI := fun σ H R => ∃ env h ω, EnvOk K ω env σ ∧ StOk K cl ω h H ∧ PostG K cl W ω H σ (m env h) fun s _ ω' H' => ∀ J, ItOk K cl J s ω' → R J H'
theorem _root_.L2.PI.weak {X : Cx} {tg e : Expr} {t t' : TI} (h : PI X tg e t) (m : ∀ σ H R, t' σ H R → t σ H R) : PI X tg e t' := ⟨fun pins s σ H R I q => h.run pins s σ H R I (m σ H R q)⟩
section
variable {X : Cx} {cl : Nat → Addr} {W : WX} {tg : Expr}
theorem pi_any {l : Expr} {tl : TE} (hl : PE X l tl) : PI X tg l (fun σ H R => tl σ H fun x H1 => (∃ a xs, x = .ref a ∧ SqL X.K H1 a xs ∧ R (Itl X.K a) H1) ∨ (∃ a xs, x = .ref a ∧ SqT X.K H1 a xs ∧ R (Itt X.K a) H1) ∨ ∃ z, x = .str z ∧ R (Its z) H1) := by
  constructor
  intro pins s σ H R I q0
  refine thn (hl.run pins s σ H _ I q0) fun v s1 ⟨x, H1, I1, rx, cases3⟩ => ?_
  obtain ⟨a, xs, rfl, hq, q⟩ | ⟨a, xs, rfl, hq, q⟩ | ⟨z, rfl, q⟩ := cases3
  · cases rx
    have ⟨us, _, p, _⟩ := I1.list hq
    exact wpAny_pyIter_list p.isList (pi_one (tk := s1.toks) I1 _ (turn_list a _) ⟨_, Heap.get?_push_size _ rfl, rfl, rfl⟩ q)
  · cases rx
    have ⟨us, _, p, _⟩ := I1.tuple hq
    exact wpAny_pyIter_tuple p (pi_one (tk := s1.toks) I1 _ (turn_tuple a _) ⟨_, Heap.get?_push_size _ rfl, rfl, rfl⟩ q)
  · have ⟨t, et⟩ := rx
    subst et
    by_cases ha : z.cps.all (· < 128) = true
    · exact wpAny_pyIter_ascii ha (pi_one (tk := s1.toks) I1 _ (turn_str _ z t "str_ascii_iterator" (.inl rfl)) ⟨_, Heap.get?_push_size _ rfl, rfl, rfl⟩ q)
    · exact wpAny_pyIter_wide (Bool.eq_false_iff.mpr ha) (pi_one (tk := s1.toks) I1 _ (turn_str _ z t "str_iterator" (.inr rfl)) ⟨_, Heap.get?_push_size _ rfl, rfl, rfl⟩ q)
def gdOf (h : Store) : T → List (Nat × List T)
  | .loc n => match h[n]? with
    | some (.lst xs) => [(n, xs)]
    | _ => []
  | _ => []
def seqK (h : Store) : T → Option (Bool × List T)
  | .tup xs => some (true, xs)
  | t => (lstOf h t).map fun xs => (false, xs)
theorem seqK_ok {K : PySem.W.Frag} {cl : Nat → Addr} {ω : Wd} {h : Store} {H : Hp} {t : T} {v : V} {b : Bool} {xs : List T} (S : StOk K cl ω h H) (r : Rep K ω t v) (e : seqK h t = some (b, xs)) : ∃ p vs, v = .ref p ∧ SqX K H b p vs ∧ Reps K ω xs vs := by
  unfold seqK at e
  split at e
  · cases e
    exact tupOf_ok (xs := xs) S r rfl
  · rw [Option.map_eq_some_iff] at e
    obtain ⟨ys, e1, e2⟩ := e
    cases e2
    obtain ⟨p, vs, rfl, b1, c1⟩ := lstOf_ok S r e1
    exact ⟨p, vs, rfl, SqL.of b1, c1⟩
theorem seqK_later {K : PySem.W.Frag} {cl : Nat → Addr} {ω0 ω : Wd} {h0 h : Store} {H : Hp} {t : T} {p : Addr} {b : Bool} {xs : List T} (r : Rep K ω0 t (.ref p)) (e : seqK h0 t = some (b, xs)) (g : Gr ω0 ω) (S : StOk K cl ω h H) (go : gsOk h (gdOf h0 t)) :
    ∃ vs, SqX K H b p vs ∧ Reps K ω xs vs := by
  have e' : seqK h t = some (b, xs) := by
    cases t with
    | loc n =>
      simp only [seqK, lstOf] at e ⊢
      simp only [gdOf] at go
      cases hn : h0[n]? with
      | none => rw [hn] at e; cases e
      | some c =>
        rw [hn] at e go
        cases c with
        | lst ys =>
          simp only [Option.map_some, Option.some.injEq, Prod.mk.injEq] at e
          obtain ⟨e1, e2⟩ := e
          have := go (n, ys) (by simp)
          simp only at this
          rw [this, ← e1, ← e2]
          rfl
        | _ => cases e
    | _ => exact e
  obtain ⟨q, vs, e1, b1, c1⟩ := seqK_ok S (r.mono g) e'
  cases e1
  exact ⟨vs, b1, c1⟩
def mSeq (m : M T) : M Src := fun env h => (m env h).bind fun t h1 => match t with
  | .str z => .ok ⟨z.cps.toList.map fun c => .str ⟨#[c]⟩, []⟩ h1
  | t => match seqK h1 t with
    | some (_, xs) => .ok ⟨xs, gdOf h1 t⟩ h1
    | none => .bad
theorem ki_seq {e : Expr} {m : M T} (he : PE X e (tE X.K cl W m)) : PI X tg e (tI X.K cl W (mSeq m)) := by
  refine (pi_any he).weak fun σ H R ⟨env, h, ω, he, hs, q⟩ => ⟨env, h, ω, he, hs, (PostG.bind q).mono fun t h1 ω1 H1 N1 S1 q1 v r => ?_⟩
  split at q1
  · rename_i z
    rw [r.str_inv]
    refine .inr (.inr ⟨z, rfl, q1 ω1 H1 (Nx.refl _ _) S1 _ ?_⟩)
    have w := walk_str (z := z)
    have hl : (z.cps.toList.map fun c => T.str ⟨#[c]⟩).length = z.cps.size := by simp
    refine ⟨fun i ω h H _ _ _ hi => w.goes i H (by rw [← hl]; exact hi) trivial, fun ω h H _ _ _ => by
      show (Its z).stop (z.cps.toList.map fun c => T.str ⟨#[c]⟩).length H
      rw [hl]; exact w.stops H trivial, fun i ω h H x H' _ S _ hi y => ?_⟩
    obtain ⟨rfl, c, e1, rfl⟩ := w.yields i H x H' (by rw [← hl]; exact hi) trivial y
    refine ⟨ω, .str ⟨#[c]⟩, Nx.refl _ _, S, ?_, rep_str⟩
    show (z.cps.toList.map fun c => T.str ⟨#[c]⟩)[i]? = _
    rw [List.getElem?_map, Array.getElem?_toList, e1]
    rfl
  · split at q1
    · rename_i b xs ex
      obtain ⟨p, vs, rfl, b1, c1⟩ := seqK_ok S1 r ex
      have hl := c1.length
      have later : ∀ {ω : Wd} {h : Store} {H : Hp}, Gr ω1 ω → StOk X.K cl ω h H → gsOk h (gdOf h1 t) → ∃ ws, SqX X.K H b p ws ∧ Reps X.K ω xs ws := fun g S go => seqK_later r ex g S go
      cases b with
      | false =>
        refine .inl ⟨p, vs, rfl, b1, q1 ω1 H1 (Nx.refl _ _) S1 _ ⟨fun i ω h H g S go hi => ?_, fun ω h H g S go => ?_, fun i ω h H x H' g S go hi y => ?_⟩⟩
        · obtain ⟨ws, s1, c⟩ := later g S go
          exact (walk_list (xs := ws)).goes i H (by rw [← c.length]; exact hi) s1
        · obtain ⟨ws, s1, c⟩ := later g S go
          have := (walk_list (xs := ws)).stops H s1
          rw [← c.length] at this
          exact this
        · obtain ⟨ws, s1, c⟩ := later g S go
          obtain ⟨rfl, e1⟩ := (walk_list (xs := ws)).yields i H x H' (by rw [← c.length]; exact hi) s1 y
          obtain ⟨t', e2, r2⟩ := c.getV e1
          exact ⟨ω, t', Nx.refl _ _, S, e2, r2⟩
      | true =>
        refine .inr (.inl ⟨p, vs, rfl, b1, q1 ω1 H1 (Nx.refl _ _) S1 _ ⟨fun i ω h H g S go hi => ?_, fun ω h H g S go => ?_, fun i ω h H x H' g S go hi y => ?_⟩⟩)
        · obtain ⟨ws, s1, c⟩ := later g S go
          exact (walk_tup (xs := ws)).goes i H (by rw [← c.length]; exact hi) s1
        · obtain ⟨ws, s1, c⟩ := later g S go
          have := (walk_tup (xs := ws)).stops H s1
          rw [← c.length] at this
          exact this
        · obtain ⟨ws, s1, c⟩ := later g S go
          obtain ⟨rfl, e1⟩ := (walk_tup (xs := ws)).yields i H x H' (by rw [← c.length]; exact hi) s1 y
          obtain ⟨t', e2, r2⟩ := c.getV e1
          exact ⟨ω, t', Nx.refl _ _, S, e2, r2⟩
    · exact q1.elim
def rangeT (lo : Int) (n : Nat) : List T := (List.range n).map fun i => .int (lo + (i : Nat))
theorem rangeT_length (lo : Int) (n : Nat) : (rangeT lo n).length = n := by simp [rangeT]
theorem it_range {K : PySem.W.Frag} {lo : Int} {n : Nat} {ω0 : Wd} : ItOk K cl (Itr lo n) ⟨rangeT lo n, []⟩ ω0 := by
  have w := walk_range (lo := lo) (n := n)
  refine ⟨fun i ω h H _ _ _ hi => w.goes i H (by rw [← rangeT_length lo n]; exact hi) trivial, fun ω h H _ _ _ => ?_, fun i ω h H x H' _ S _ hi y => ?_⟩
  · show (Itr lo n).stop (rangeT lo n).length H
    rw [rangeT_length]; exact w.stops H trivial
  · have hi' : i < n := by rw [← rangeT_length lo n]; exact hi
    obtain ⟨rfl, rfl⟩ := w.yields i H x H' hi' trivial y
    refine ⟨ω, .int (lo + (i : Nat)), Nx.refl _ _, S, ?_, rep_int⟩
    show (rangeT lo n)[i]? = _
    unfold rangeT
    rw [List.getElem?_map, List.getElem?_range hi']
    rfl
def mRange1 (r : M (List T)) : M Src := fun env h => (r env h).bind fun as h1 => match as with
  | [.int j] => if j < 1000000 ∧ -1000000 < j then .ok ⟨rangeT 0 j.toNat, []⟩ h1 else .bad
  | _ => .bad
def mRange2 (r : M (List T)) : M Src := fun env h => (r env h).bind fun as h1 => match as with
  | [.int i, .int j] => if i < 1000000 ∧ -1000000 < i ∧ j < 1000000 ∧ -1000000 < j then .ok ⟨rangeT i (j - i).toNat, []⟩ h1 else .bad
  | _ => .bad
variable {r : M (List T)}
theorem ki_range1 {a : Expr} {p pos : Pos} (hg : Gl X "range") (hm : X.mg "range" = none) (ha : PA X [a] (tA X.K cl W r)) (hs : starEach [a] X.env = [(false, eval a X.env)] := by rfl) : PI X tg (.Call (.Name "range" p) [a] [] pos) (tI X.K cl W (mRange1 r)) := by
  refine (pi_range1 hg hm ha hs).weak fun σ H R ⟨env, h, ω, he, hs, q⟩ => ⟨env, h, ω, he, hs, (PostG.bind q).mono fun as h1 ω1 H1 N1 S1 q1 vs rs => ?_⟩
  split at q1
  · rename_i j
    obtain ⟨v, vr, rfl, a1, b1⟩ := rs.inv
    split at q1
    · rw [b1.nil_inv, a1.int_inv]
      exact ⟨j, rfl, by omega, by omega, q1 ω1 H1 (Nx.refl _ _) S1 _ it_range⟩
    · exact q1.elim
  · exact q1.elim
def pairT (x y : T) : T := .tup [x, y]
def mZip (r : M (List T)) : M Src := fun env h => (r env h).bind fun as h1 => match as with
  | [t, u] => match seqK h1 t, seqK h1 u with
    | some (_, xs), some (_, ys) => .ok ⟨List.zipWith pairT xs ys, gdOf h1 t ++ gdOf h1 u⟩ h1
    | _, _ => .bad
  | _ => .bad
theorem gsOk_app {h : Store} {a b : List (Nat × List T)} (g : gsOk h (a ++ b)) : gsOk h a ∧ gsOk h b := ⟨fun x m => g x (by simp [m]), fun x m => g x (by simp [m])⟩
theorem rows_ok {K : PySem.W.Frag} {Rw : Hp → Tab → Prop} {its : List T} {gs : List (Nat × List T)} {ω0 : Wd}
    (later : ∀ {ω h H}, Gr ω0 ω → StOk K cl ω h H → gsOk h gs → ∃ b, Rw H b ∧ b.n = its.length ∧ ∀ i xs, b.row i xs → ∃ ts, its[i]? = some (.tup ts) ∧ Reps K ω ts xs) : ItOk K cl (rowIt Rw) ⟨its, gs⟩ ω0 where
  goes := fun i ω h H g S go hi => let ⟨b, q, e, _⟩ := later g S go; ⟨b, q, by rw [e]; exact hi⟩
  stops := fun ω h H g S go => let ⟨b, q, e, _⟩ := later g S go; ⟨b, q, e.symm⟩
  yields := by
    rintro i ω h H _ _ g S go hi ⟨A, xs, rfl, hn, rfl, all⟩
    have ⟨b, q, _, k⟩ := later g S go
    have ⟨ts, e, r⟩ := k i xs (all b q)
    refine ⟨_, .tup ts, nx_newF S hn, S.newF hn, e, ?_⟩
    simp only [Rep]
    exact ⟨A, xs, rfl, SqT.of upd_same, r.mono (gr_fix (S.freshF hn))⟩
theorem ki_zip {e e2 : Expr} {p pos tpos : Pos} {elts : List Expr} {kk : Nat} (hg : Gl X "zip") (hm : X.mg "zip" = none) (ha : PA X [e, e2] (tA X.K cl W r))
    (hst : starEach [e, e2] X.env = (false, eval e X.env) :: starEach [e2] X.env := by rfl) (hpl : (backTo pos (starEach [e2] X.env)).any (·.1) = false := by rfl) :
    PI X (.Tuple elts kk tpos) (.Call (.Name "zip" p) [e, e2] [] pos) (tI X.K cl W (mZip r)) := by
  refine (pi_zipX hg hm ha hst hpl).weak fun σ H R ⟨env, h, ω, he, hs, q⟩ => ⟨env, h, ω, he, hs, (PostG.bind q).mono fun as h1 ω1 H1 N1 S1 q1 vs rs => ?_⟩
  split at q1
  · rename_i t u
    split at q1
    · rename_i b1 xs b2 ys ex ey
      obtain ⟨v, vr, rfl, r1, q3⟩ := rs.inv
      obtain ⟨v2, vr2, rfl, r2, q4⟩ := q3.inv
      rw [q4.nil_inv]
      obtain ⟨p1, vs1, rfl, d1, c1⟩ := seqK_ok S1 r1 ex
      obtain ⟨p2, vs2, rfl, d2, c2⟩ := seqK_ok S1 r2 ey
      refine ⟨b1, b2, p1, p2, vs1, vs2, rfl, d1, d2, q1 ω1 H1 (Nx.refl _ _) S1 _ (rows_ok fun g S go => ?_)⟩
      have ⟨ws, s1, k1⟩ := seqK_later r1 ex g S (gsOk_app go).1
      have ⟨zs, s2, k2⟩ := seqK_later r2 ey g S (gsOk_app go).2
      refine ⟨_, ⟨ws, zs, s1, s2, rfl⟩, by rw [List.length_zipWith, k1.length, k2.length], fun i _ ⟨x, y, hx, hy, e⟩ => ?_⟩
      subst e
      have ⟨t1, e1, r3⟩ := k1.getV hx
      have ⟨t2, e2, r4⟩ := k2.getV hy
      exact ⟨[t1, t2], by rw [List.getElem?_zipWith, e1, e2]; rfl, Reps.cons r3 (Reps.one r4)⟩
    · exact q1.elim
  · exact q1.elim
end
end Sm
namespace Sm
open PySem PySem.Spec PyProof.Rows L2
inductive Tgt where
  | one (i : Nat) | tup (is : List Nat)
  /-- x, (y, ..) -/
  | nest (i : Nat) (is : List Nat)
def Tgt.slots : Tgt → List Nat
  | .one i => [i]
  | .tup is => is
  | .nest i is => i :: is
def setT : List Nat → List T → Env' → Env'
  | i :: is, t :: ts, env => setT is ts (env.set i (some t))
  | _, _, env => env
def bindT : Tgt → T → Env' → Option Env'
  | .one i, t, env => some (env.set i (some t))
  | .tup is, .tup ts, env => if ts.length = is.length then some (setT is ts env) else none
  | .tup is, .lst ts, env => if ts.length = is.length then some (setT is ts env) else none
  | .nest i is, .tup [a, .tup ts], env => if ts.length = is.length then some (setT is ts (env.set i (some a))) else none
  | _, _, _ => none
def gMany : List Nat → TGs
  | [] => gNil
  | i :: is => gCons (gName i) (gMany is)
def gSeq (K : PySem.W.Frag) (n : Nat) (t : TGs) : TG := fun v σ H Q => gTup K n t v σ H Q ∨ gUnl K n t v σ H Q
theorem pg_seq {X : Cx} {pos : Pos} {es : List Expr} {k : Nat} {t : TGs} {n : Nat} (hc : X.calm = true) (h : PGs X es t)
    (hn : (assignEach es X.env).length = n) (hst : (assignEach es X.env).findIdx? (·.1) = none) : PG X (.Tuple es k pos) (gSeq X.K n t) :=
  ⟨fun pins s σ H v u Q I r w => w.elim ((pg_tup hc h hn hst).run pins s σ H v u Q I r) ((pg_unl hc h hn hst).run pins s σ H v u Q I r)⟩
def gT (K : PySem.W.Frag) : Tgt → TG
  | .one i => gName i
  | .tup is => gSeq K is.length (gMany is)
  | .nest i is => gTup K 2 (gCons (gName i) (gCons (gTup K is.length (gMany is)) gNil))
theorem wipe_set {σ : L2.St} {i : Nat} {x : Option V} : ∀ {vs : List Nat}, i ∈ vs → wipe (σ.set i x) vs = wipe σ vs
  | [], h => by cases h
  | v :: vs, h => by
    unfold wipe
    by_cases e : v = i
    · subst e
      by_cases hm : v ∈ vs
      · rw [wipe_set hm]
      · have : ∀ us : List Nat, wipe (σ.set v x) us = (wipe σ us).set v (if v ∈ us then none else x) := by
          intro us
          induction us with
          | nil => simp [wipe]
          | cons u us ih =>
            show (wipe (σ.set v x) us).set u none = ((wipe σ us).set u none).set v _
            rw [ih]
            by_cases e : u = v
            · subst e; simp
            · rw [List.set_comm _ _ (Ne.symm e)]
              have e' : ¬ v = u := fun q => e q.symm
              simp [e']
        rw [this vs, if_neg hm, List.set_set]
    · have hm : i ∈ vs := (List.mem_cons.mp h).elim (fun q => absurd q.symm e) id
      rw [wipe_set hm]
section
variable {K : PySem.W.Frag} {cl : Nat → Addr}
theorem gMany_ok {ω : Wd} {h : Store} {H : Hp} : ∀ {is : List Nat} {ts : List T} {vs : List V} {env : Env'} {σ : L2.St} {Q : L2.St → Hp → Prop}, Reps K ω ts vs → ts.length = is.length → EnvOk K ω env σ →
    (∀ σ', EnvOk K ω (setT is ts env) σ' → (∀ us, (∀ i ∈ is, i ∈ us) → wipe σ' us = wipe σ us) → Q σ' H) → gMany is vs σ H Q
  | [], ts, vs, env, σ, Q, r, hl, he, q => by
    have : ts = [] := List.eq_nil_of_length_eq_zero hl
    subst this
    exact ⟨r.nil_inv, q σ he fun _ _ => rfl⟩
  | i :: is, [], vs, env, σ, Q, r, hl, he, q => by simp at hl
  | i :: is, t :: ts, vs, env, σ, Q, r, hl, he, q => by
    obtain ⟨v, vr, rfl, a, b⟩ := r.inv
    refine ⟨v, vr, rfl, ?_⟩
    show gMany is vr (σ.set i (some v)) H Q
    refine gMany_ok (h := h) b (by simpa using hl) (he.set i a) fun σ' h1 h2 => q σ' h1 fun us hu => ?_
    rw [h2 us fun j hj => hu j (List.mem_cons_of_mem _ hj), wipe_set (hu i (List.mem_cons_self ..))]
theorem gT_ok {ω : Wd} {h : Store} {H : Hp} {tg : Tgt} {t : T} {v : V} {env env' : Env'} {σ : L2.St} {Q : L2.St → Hp → Prop} (S : StOk K cl ω h H) (r : Rep K ω t v) (he : EnvOk K ω env σ) (e : bindT tg t env = some env')
    (q : ∀ σ', EnvOk K ω env' σ' → (∀ us, (∀ i ∈ tg.slots, i ∈ us) → wipe σ' us = wipe σ us) → Q σ' H) : gT K tg v σ H Q := by
  cases tg with
  | one i =>
    simp only [bindT, Option.some.injEq] at e
    subst e
    exact q _ (he.set i r) fun us hu => wipe_set (hu i (by simp [Tgt.slots]))
  | tup is =>
    cases t with
    | tup ts =>
      simp only [bindT] at e
      obtain ⟨c, rfl⟩ := ne_ite e
      obtain ⟨p, vs, rfl, b1, c1⟩ := tupOf_ok (xs := ts) S r rfl
      exact .inl ⟨p, vs, rfl, b1, by rw [← c1.length]; exact c, gMany_ok (h := h) c1 c he q⟩
    | lst ts =>
      simp only [bindT] at e
      obtain ⟨c, rfl⟩ := ne_ite e
      obtain ⟨p, vs, rfl, b1, c1⟩ := lstOf_ok (xs := ts) S r rfl
      exact .inr ⟨p, vs, rfl, SqL.of b1, by rw [← c1.length]; exact c, gMany_ok (h := h) c1 c he q⟩
    | _ => simp [bindT] at e
  | nest i is =>
    cases t with
    | tup xs =>
      rcases xs with _ | ⟨a, _ | ⟨b, _ | ⟨c, l⟩⟩⟩
      · simp [bindT] at e
      · simp [bindT] at e
      · cases b with
        | tup ts =>
          simp only [bindT] at e
          obtain ⟨c, rfl⟩ := ne_ite e
          obtain ⟨p, vs, rfl, b1, c1⟩ := tupOf_ok (xs := [a, .tup ts]) S r rfl
          obtain ⟨v1, vr, rfl, ra, r2⟩ := c1.inv
          obtain ⟨v2, vr2, rfl, rt, r3⟩ := r2.inv
          have := r3.nil_inv
          subst this
          obtain ⟨p2, ws, rfl, b2, c2⟩ := tupOf_ok (xs := ts) S rt rfl
          refine ⟨p, [v1, .ref p2], rfl, b1, rfl, v1, [.ref p2], rfl, ?_⟩
          refine ⟨.ref p2, [], rfl, p2, ws, rfl, b2, by rw [← c2.length]; exact c, ?_⟩
          refine gMany_ok (h := h) c2 c (he.set i ra) fun σ' h1 h2 => ⟨rfl, q σ' h1 fun us hu => ?_⟩
          rw [h2 us fun j hj => hu j (List.mem_cons_of_mem _ hj), wipe_set (hu i (List.mem_cons_self ..))]
        | _ => simp [bindT] at e
      · simp [bindT] at e
    | _ => simp [bindT] at e
end
def Out.bindN {α β : Type} : Out α → (α → Store → Out β) → Out β
  | .ok a h, k => k a h
  | _, _ => .bad
@[simp] theorem bindN_ok {α β : Type} (a : α) (h : Store) (k : α → Store → Out β) : (Out.ok a h).bindN k = k a h := rfl
@[simp] theorem bindN_bad {α β : Type} (k : α → Store → Out β) : (Out.bad : Out α).bindN k = .bad := rfl
def dropE : List Nat → Env' → Env'
  | [], env => env
  | v :: vs, env => (dropE vs env).set v none
noncomputable def compLoop (gs : List (Nat × List T)) (tg : Tgt) (tt : M Bool) (me : M T) (env : Env') : List T → List T → Store → Out (List T)
  | [], acc, h => if gsOk h gs then .ok acc h else .bad
  | x :: r, acc, h => if gsOk h gs then
      match bindT tg x env with
      | some env1 => (tt env1 h).bindN fun b h1 => if b = true then (me env1 h1).bindN fun y h2 => if acc.length < 100000 then compLoop gs tg tt me env r (acc ++ [y]) h2 else .bad else compLoop gs tg tt me env r acc h1
      | none => .bad
    else .bad
noncomputable def mComp (src : M Src) (own : List Nat) (tg : Tgt) (tt : M Bool) (me : M T) : M (List T) := fun env h => (src env h).bind fun s h1 => compLoop s.gs tg tt me (dropE own env) s.items [] h1
def mYes : M Bool := fun _ h => .ok true h
def W0 : WX := fun _ _ _ _ => False
section
variable {K : PySem.W.Frag} {cl : Nat → Addr} {W : WX}
theorem PostG.later {α : Type} {ω ω2 : Wd} {H H2 : Hp} {σ : L2.St} {o : Out α} {R : α → Store → Wd → Hp → Prop} (N : Nx ω H ω2 H2) (q : PostG K cl W ω H σ o R) : PostG K cl W ω2 H2 σ o R := by
  cases o with
  | bad => exact q
  | ex e h => exact fun ω3 H3 cls d N3 S3 x => q ω3 H3 cls d (N.trans N3) S3 x
  | ok a h => exact fun ω3 H3 N3 S3 => q ω3 H3 (N.trans N3) S3
theorem PostG.bindZ {α β : Type} {Z : Out β → Prop} {ω : Wd} {H : Hp} {σ : L2.St} {o : Out α} {k : α → Store → Out β} (hb : ¬ Z .bad) (h : Z (o.bindN k)) : PostG K cl W0 ω H σ o fun a h1 _ _ => Z (k a h1) := by
  cases o with
  | bad => exact (hb h).elim
  | ex e h' => exact (hb h).elim
  | ok a h' => exact fun _ _ _ _ => h
theorem envOk_wipe {ω : Wd} {env : Env'} {σ : L2.St} (e : EnvOk K ω env σ) : ∀ vs : List Nat, EnvOk K ω (dropE vs env) (wipe σ vs)
  | [] => e
  | v :: vs => by
    have ih := envOk_wipe e vs
    unfold dropE wipe
    refine ⟨by simp [ih.1], fun i t h => ?_⟩
    by_cases q : v = i
    · subst q
      have hi : v < (dropE vs env).length := by
        have := (List.getElem?_eq_some_iff.mp h).1
        simpa using this
      rw [List.getElem?_set_self hi] at h
      cases h
    · rw [List.getElem?_set_ne q] at h
      obtain ⟨w, a, b⟩ := ih.2 i t h
      exact ⟨w, by rw [List.getElem?_set_ne q]; exact a, b⟩
theorem StOk.scratch {ω : Wd} {h : Store} {H : Hp} {D : Addr} {o : HO} (S : StOk K cl ω h H) (n1 : ω.Phi D = none) (n2 : D ∉ ω.rho) : StOk K cl ω h (upd H D o) where
  len := S.len
  nd := S.nd
  cells := fun i c q a b => (S.cells i c q a b).move (Gr.refl _) fun u z => by
    rw [upd_ne (fun e : q = D => n2 (by rw [← e]; exact List.mem_of_getElem? b))]; exact z
  phi := fun a u z => by
    rw [upd_ne (fun e : a = D => by rw [e, n1] at z; cases z)]; exact S.phi a u z
  dis := S.dis
theorem Nx.scratch {ω0 ω : Wd} {H0 H : Hp} {D : Addr} {o : HO} (N : Nx ω0 H0 ω H) (f : H0 D = none) : Nx ω0 H0 ω (upd H D o) where
  toGr := N.toGr
  newR := N.newR
  newF := N.newF
  fr := fun a u z n => by rw [upd_ne (ne_of_none z f)]; exact N.fr a u z n
  dom := fun a z => by
    by_cases e : a = D
    · rw [e]; exact f
    · rw [upd_ne e] at z; exact N.dom a z
theorem Nx.keepD {ω0 ω : Wd} {H0 H : Hp} {D : Addr} {o : HO} (N : Nx ω0 H0 ω H) (e : H0 D = some o) (n1 : ω0.Phi D = none) (n2 : D ∉ ω0.rho) (ph : ∀ u, ω.Phi D = some u → H D = some u) (no : ∀ fs, o ≠ .xd fs) : H D = some o ∧ ω.Phi D = none ∧ D ∉ ω.rho := by
  refine ⟨N.fr D o e n2, ?_, fun m => ?_⟩
  · cases q : ω.Phi D with
    | none => rfl
    | some u =>
      rcases N.newF D u q with z | z | z | z
      rotate_right
      · exact absurd z n2
      · rw [n1] at z; cases z
      · rw [e] at z; cases z
      · have k := ph u q
        rw [N.fr D o e n2] at k
        cases k
        obtain ⟨fs, z⟩ := z
        exact absurd z (no fs)
  · rcases N.newR D m with z | z
    · exact n2 z
    · rw [e] at z; cases z
end
section
variable {X : Cx} {cl : Nat → Addr} {W : WX} {elt tg iter : Expr} {ifs : List Expr} {scope : Scope} {own : List (Str × Nat)} {pos : Pos} {ms : M Src} {g : Tgt} {tt : M Bool} {me : M T}
theorem lc_step {K : PySem.W.Frag} {vs0 : List Nat} (hsub : ∀ i ∈ g.slots, i ∈ vs0) {σ : L2.St} {H : Hp} {Q : VK} (hh : tN K cl W (mComp ms vs0 g tt me) σ H Q) : tLc (tI K cl W ms) (gT K g) (tT K cl W0 tt) (tE K cl W0 me) vs0 σ H Q := by
  obtain ⟨env, h, ω, henv, hst, q⟩ := hh
  refine ⟨env, h, ω, henv, hst, ?_⟩
  unfold mComp at q
  revert q
  cases hsrc : ms env h with
  | bad => exact fun z => z
  | ex x h1 => exact fun z => z
  | ok s h1 =>
    intro q ω1 H1 N1 S1 J ij D hD
    have q : PostG K cl W ω H σ (compLoop s.gs g tt me (dropE vs0 env) s.items [] h1) _ := q
    have fH : H D = none := N1.dom D hD
    let Z : Out (List T) → Prop := fun o => PostG K cl W ω H σ o fun ts _ ω' H' => ∀ l vs, Reps K ω' ts vs → H' l = some (.lst vs) → ω'.Phi l = none → l ∉ ω'.rho → H l = none → Q (.ref l) H'
    have hZ : ¬ Z .bad := fun z => z
    -- the state at each turn
    let St' : Nat → Hp → Prop := fun i H' => ∃ ω' h' acc vs, Nx ω H ω' H' ∧ Nx ω1 H1 ω' H' ∧ StOk K cl ω' h' H' ∧ H' D = some (.lst vs) ∧ Reps K ω' acc vs ∧ ω'.Phi D = none ∧ D ∉ ω'.rho ∧
      Z (compLoop s.gs g tt me (dropE vs0 env) (s.items.drop i) acc h')
    refine ⟨fun i m H' => m = s.items.length - i ∧ i ≤ s.items.length ∧ St' i H', ⟨_, rfl, Nat.zero_le _, ω1, h1, [], [], N1.scratch fH, (Nx.refl ω1 H1).scratch hD, S1.scratch (S1.freshF hD) (S1.freshR hD), upd_same, Reps.nil, S1.freshF hD, S1.freshR hD, ?_⟩, ?_⟩
    · rw [List.drop_zero]
      exact q
    · rintro i m H' ⟨rfl, hle, ω', h', acc, vs, NH, N1', S', eD, rA, f1, f2, q2⟩
      by_cases hlt : i < s.items.length
      · have hdrop : s.items.drop i = s.items[i] :: s.items.drop (i + 1) := List.drop_eq_getElem_cons hlt
        rw [hdrop] at q2
        unfold compLoop at q2
        split at q2
        · rename_i go
          refine .inr ⟨ij.goes i ω' h' H' N1'.toGr S' go hlt, St' (i + 1), fun H'' p => ⟨_, by omega, rfl, hlt, p⟩, fun x H2 hy => ?_⟩
          obtain ⟨ω2, t, N2, S2, et, rt⟩ := ij.yields i ω' h' H' x H2 N1'.toGr S' go hlt hy
          have et' : t = s.items[i] := by
            rw [List.getElem?_eq_getElem hlt] at et
            exact (Option.some.inj et).symm
          subst et'
          obtain ⟨eD2, f12, f22⟩ := N2.keepD eD f1 f2 (fun u z => S2.phi D u z) (fun fs z => by cases z)
          have henv2 : EnvOk K ω2 (dropE vs0 env) (wipe σ vs0) := envOk_wipe (henv.mono (NH.trans N2).toGr) _
          split at q2
          · rename_i env1 eb
            refine gT_ok S2 rt henv2 eb fun σ2 he2 hw => ⟨?_, ?_⟩
            · have := hw vs0 hsub
              rw [this]
              have : ∀ vs : List Nat, ∀ us : List Nat, (∀ i ∈ vs, i ∈ us) → wipe (wipe σ vs) us = wipe σ us := by
                intro vs
                induction vs with
                | nil => intro us _; rfl
                | cons v vs ih =>
                  intro us hu
                  show wipe ((wipe σ vs).set v none) us = wipe σ us
                  rw [wipe_set (hu v (List.mem_cons_self ..)), ih us fun j hj => hu j (List.mem_cons_of_mem _ hj)]
              exact this _ _ fun _ hi => hi
            · refine ⟨env1, h', ω2, he2, S2, (PostG.bindZ hZ q2).mono fun b h3 ω3 H3 N3 S3 q4 => ?_⟩
              obtain ⟨eD3, f13, f23⟩ := N3.keepD eD2 f12 f22 (fun u z => S3.phi D u z) (fun fs z => by cases z)
              cases b with
              | false =>
                rw [if_neg Bool.false_ne_true] at q4 ⊢
                exact ⟨ω3, h3, acc, vs, (NH.trans N2).trans N3, (N1'.trans N2).trans N3, S3, eD3, (rA.mono N2.toGr).mono N3.toGr, f13, f23, q4⟩
              | true =>
                rw [if_pos rfl] at q4 ⊢
                refine ⟨env1, h3, ω3, he2.mono N3.toGr, S3, (PostG.bindZ hZ q4).mono fun y h4 ω4 H4 N4 S4 q5 v rv => ?_⟩
                obtain ⟨eD4, f14, f24⟩ := N4.keepD eD3 f13 f23 (fun u z => S4.phi D u z) (fun fs z => by cases z)
                split at q5
                · rename_i hlen
                  have rA4 : Reps K ω4 acc vs := ((rA.mono N2.toGr).mono N3.toGr).mono N4.toGr
                  exact ⟨vs, eD4, by rw [← rA.length, sizeLine_eq]; omega, ω4, h4, acc ++ [y], vs ++ [v], (((NH.trans N2).trans N3).trans N4).scratch fH, (((N1'.trans N2).trans N3).trans N4).scratch hD, S4.scratch f14 f24, upd_same, rA4.append (Reps.one rv), f14, f24, q5⟩
                · exact (hZ q5).elim
          · exact (hZ q2).elim
        · exact (hZ q2).elim
      · have e : i = s.items.length := by omega
        subst e
        rw [List.drop_length] at q2
        unfold compLoop at q2
        split at q2
        · rename_i go
          refine .inl ⟨ij.stops ω' h' H' N1'.toGr S' go, ?_⟩
          exact q2 ω' H' NH S' D vs rA eD f1 f2 fH
        · exact (hZ q2).elim
theorem kn_comp (hc : X.calm = true) (hN : X.N.Nodup) (hi : PI X tg iter (tI X.K cl W ms)) (ok : BlkOk X.N X.env.scope scope own) (hsub : ∀ i ∈ g.slots, i ∈ own.map (·.2))
    (hg : ∀ (s : Shared) (H : Hp) (C : Addr) (cl' : List (Str × Addr)) (fp : List Addr), PG (X.blk s H scope (compEnvC scope cl' C X.env) fp) tg (gT X.K g))
    (ht : ∀ (s : Shared) (H : Hp) (C : Addr) (cl' : List (Str × Addr)) (fp : List Addr), PTs (X.blk s H scope (compEnvC scope cl' C X.env) fp) ifs (tT X.K cl W0 tt))
    (he : ∀ (s : Shared) (H : Hp) (C : Addr) (cl' : List (Str × Addr)) (fp : List Addr), PE (X.blk s H scope (compEnvC scope cl' C X.env) fp) elt (tE X.K cl W0 me))
    (hs : ∀ x, foldedSetIterable iter X.env x = pure x := by intro _; rfl) : PE X (.ListComp elt [⟨tg, iter, ifs, 0⟩] scope pos) (tN X.K cl W (mComp ms (own.map (·.2)) g tt me)) :=
  (pe_lc hc hN hi ok hg ht he hs).weak fun σ H Q h => lc_step hsub h
end
end Sm
namespace Sm
open PySem PySem.Spec PyProof.Rows L2
inductive SO where
  | nx (env : Env') (h : Store) | rt (t : T) (h : Store) | bk (env : Env') (h : Store) | ct (env : Env') (h : Store) | ex (e : Ex) (env : Env') (h : Store) | bad
abbrev MS := Env' → Store → SO
def SO.seq : SO → MS → SO
  | .nx env h, k => k env h
  | o, _ => o
@[simp] theorem seq_nx (env : Env') (h : Store) (k : MS) : (SO.nx env h).seq k = k env h := rfl
@[simp] theorem seq_rt (t : T) (h : Store) (k : MS) : (SO.rt t h).seq k = .rt t h := rfl
@[simp] theorem seq_bk (env : Env') (h : Store) (k : MS) : (SO.bk env h).seq k = .bk env h := rfl
@[simp] theorem seq_ct (env : Env') (h : Store) (k : MS) : (SO.ct env h).seq k = .ct env h := rfl
@[simp] theorem seq_ex (e : Ex) (env : Env') (h : Store) (k : MS) : (SO.ex e env h).seq k = .ex e env h := rfl
@[simp] theorem seq_bad (k : MS) : SO.bad.seq k = .bad := rfl
def bindE {α : Type} : Out α → Env' → (α → Store → SO) → SO
  | .ok a h, _, k => k a h
  | .ex e h, env, _ => .ex e env h
  | .bad, _, _ => .bad
@[simp] theorem bindE_ok {α : Type} (a : α) (h : Store) (env : Env') (k : α → Store → SO) : bindE (.ok a h) env k = k a h := rfl
@[simp] theorem bindE_ex {α : Type} (e : Ex) (h : Store) (env : Env') (k : α → Store → SO) : bindE (.ex e h : Out α) env k = .ex e env h := rfl
@[simp] theorem bindE_bad {α : Type} (env : Env') (k : α → Store → SO) : bindE (.bad : Out α) env k = .bad := rfl
def PostS (K : PySem.W.Frag) (cl : Nat → Addr) (W : WX) (ω : Wd) (H : Hp) (o : SO) (D : Ends) : Prop :=
  match o with
  | .nx env' h' => ∀ ω' H' σ', Nx ω H ω' H' → StOk K cl ω' h' H' → EnvOk K ω' env' σ' → D.nx σ' H'
  | .bk env' h' => ∀ ω' H' σ', Nx ω H ω' H' → StOk K cl ω' h' H' → EnvOk K ω' env' σ' → D.bk σ' H'
  | .ct env' h' => ∀ ω' H' σ', Nx ω H ω' H' → StOk K cl ω' h' H' → EnvOk K ω' env' σ' → D.ct σ' H'
  | .rt t h' => ∀ ω' H' v, Nx ω H ω' H' → StOk K cl ω' h' H' → Rep K ω' t v → D.rt v H'
  | .ex e env' h' => ∀ ω' H' σ' cls d, Nx ω H ω' H' → StOk K cl ω' h' H' → EnvOk K ω' env' σ' → XOk K cl ω' H' e cls d → W cls d σ' H'
  | .bad => False
def tS (K : PySem.W.Frag) (cl : Nat → Addr) (W : WX) (m : MS) : TS := fun D σ H => ∃ env h ω, EnvOk K ω env σ ∧ StOk K cl ω h H ∧ PostS K cl W ω H (m env h) D
section
variable {K : PySem.W.Frag} {cl : Nat → Addr} {W : WX} {ω ω2 : Wd} {H H2 : Hp} {D : Ends}
theorem PostS.later {o : SO} (N : Nx ω H ω2 H2) (q : PostS K cl W ω H o D) : PostS K cl W ω2 H2 o D := by
  cases o with
  | nx env h => exact fun ω3 H3 σ3 N3 S3 e => q ω3 H3 σ3 (N.trans N3) S3 e
  | bk env h => exact fun ω3 H3 σ3 N3 S3 e => q ω3 H3 σ3 (N.trans N3) S3 e
  | ct env h => exact fun ω3 H3 σ3 N3 S3 e => q ω3 H3 σ3 (N.trans N3) S3 e
  | rt t h => exact fun ω3 H3 σ3 N3 S3 e => q ω3 H3 σ3 (N.trans N3) S3 e
  | ex e env h => exact fun ω3 H3 σ3 cls d N3 S3 e x => q ω3 H3 σ3 cls d (N.trans N3) S3 e x
  | bad => exact q
theorem PostS.bindE {α : Type} {o : Out α} {env : Env'} {σ : L2.St} {k : α → Store → SO} (he : EnvOk K ω env σ) (q : PostS K cl W ω H (Sm.bindE o env k) D) : PostG K cl W ω H σ o fun a h1 ω1 H1 => PostS K cl W ω1 H1 (k a h1) D := by
  cases o with
  | ok a h => exact fun ω1 H1 N1 S1 => PostS.later N1 q
  | ex e h => exact fun ω1 H1 cls d N1 S1 x => q ω1 H1 σ cls d N1 S1 (he.mono N1.toGr) x
  | bad => exact q
theorem PostS.seq {o : SO} {k : MS} (q : PostS K cl W ω H (o.seq k) D) : PostS K cl W ω H o { D with nx := fun σ' H' => tS K cl W k D σ' H' } := by
  cases o with
  | nx env h => exact fun ω1 H1 σ1 N1 S1 e => ⟨env, h, ω1, e, S1, PostS.later N1 q⟩
  | bk env h => exact q
  | ct env h => exact q
  | rt t h => exact q
  | ex e env h => exact q
  | bad => exact q
end
def sNil : MS := fun env h => .nx env h
def sSeq (a b : MS) : MS := fun env h => (a env h).seq b
def sRet (m : M T) : MS := fun env h => bindE (m env h) env fun t h1 => .rt t h1
def sRetN : MS := fun _ h => .rt .non h
def sExp (m : M T) : MS := fun env h => bindE (m env h) env fun _ h1 => .nx env h1
def sIf (c : M Bool) (a b : MS) : MS := fun env h => bindE (c env h) env fun k h1 => if k = true then a env h1 else b env h1
def sSet (i : Nat) (m : M T) : MS := fun env h => bindE (m env h) env fun t h1 => .nx (env.set i (some t)) h1
def sAsg (g : Tgt) (m : M T) : MS := fun env h => bindE (m env h) env fun t h1 => match bindT g t env with
  | some env1 => .nx env1 h1
  | none => .bad
def sPar (i j : Nat) (m n : M T) : MS := fun env h => bindE (m env h) env fun t h1 => bindE (n env h1) env fun u h2 => .nx ((env.set i (some t)).set j (some u)) h2
def sBreak : MS := fun env h => .bk env h
def sCont : MS := fun env h => .ct env h
section
variable {X : Cx} {cl : Nat → Addr} {W : WX} {e : Expr} {m n : M T} {pos : Pos} {a b : MS} {st : Stmt} {rest : List Stmt}
theorem ks_nil : PSs X [] (tS X.K cl W sNil) := pss_nil.weak fun D σ H ⟨env, h, ω, he, hs, q⟩ => q ω H σ (Nx.refl _ _) hs he
theorem ks_cons (h1 : PS X st (tS X.K cl W a)) (h2 : PSs X rest (tS X.K cl W b)) : PSs X (st :: rest) (tS X.K cl W (sSeq a b)) :=
  (pss_cons h1 h2).weak fun D σ H ⟨env, h, ω, he, hs, q⟩ => ⟨env, h, ω, he, hs, PostS.seq q⟩
theorem ks_one (h1 : PS X st (tS X.K cl W a)) : PSs X [st] (tS X.K cl W a) := pss_one h1
theorem ks_ret (h : PE X e (tE X.K cl W m)) : PS X (.Return (some e) pos) (tS X.K cl W (sRet m)) :=
  (ps_ret h).weak fun D σ H ⟨env, h, ω, he, hs, q⟩ => ⟨env, h, ω, he, hs, (PostS.bindE he q).mono fun t h1 ω1 H1 N1 S1 q1 v r => q1 ω1 H1 v (Nx.refl _ _) S1 r⟩
theorem ks_expr (h : PE X e (tE X.K cl W m)) (hs : swapsWith e none pos.line X.env = pure false := by rfl) : PS X (.Expr e pos) (tS X.K cl W (sExp m)) :=
  (ps_expr h hs).weak fun D σ H ⟨env, h, ω, he, hs, q⟩ => ⟨env, h, ω, he, hs, (PostS.bindE he q).mono fun t h1 ω1 H1 N1 S1 q1 v r => q1 ω1 H1 σ (Nx.refl _ _) S1 (he.mono N1.toGr)⟩
theorem ks_if {c : Expr} {mc : M Bool} {as bs : List Stmt} (hc : PT X c (tT X.K cl W mc)) (ha : PSs X as (tS X.K cl W a)) (hb : PSs X bs (tS X.K cl W b)) : PS X (.If c as bs pos) (tS X.K cl W (sIf mc a b)) := by
  refine (ps_if hc ha hb).weak fun D σ H ⟨env, h, ω, he, hs, q⟩ => ⟨env, h, ω, he, hs, (PostS.bindE he q).mono fun k h1 ω1 H1 N1 S1 q1 => ?_⟩
  cases k with
  | true => rw [if_pos rfl] at q1 ⊢; exact ⟨env, h1, ω1, he.mono N1.toGr, S1, q1⟩
  | false => rw [if_neg Bool.false_ne_true] at q1 ⊢; exact ⟨env, h1, ω1, he.mono N1.toGr, S1, q1⟩
theorem set_step {K : PySem.W.Frag} {i : Nat} {D : Ends} {σ : L2.St} {H : Hp} (h : tS K cl W (sSet i m) D σ H) : tAsg (tE K cl W m) (gName i) D σ H := by
  obtain ⟨env, h, ω, he, hs, q⟩ := h
  exact ⟨env, h, ω, he, hs, (PostS.bindE he q).mono fun t h1 ω1 H1 N1 S1 q1 v r => q1 ω1 H1 _ (Nx.refl _ _) S1 ((he.mono N1.toGr).set i r)⟩
theorem ks_set {i : Nat} {x : Str} {pos' : Pos} (hN : X.N.Nodup) (hi : X.N[i]? = some x) (hx : Loc X.env.scope x) (he : PE X e (tE X.K cl W m)) (hs : swapsWith e (some (.Name x pos')) pos.line X.env = pure false := by rfl) (hf : X.fn x = true ∨ X.env.scope.names.lookup x = some .local := by first | exact .inl rfl | exact .inr rfl | assumption) :
    PS X (.Assign [.Name x pos'] e pos) (tS X.K cl W (sSet i m)) := (ps_set hN hi hx he hs hf).weak fun D σ H h => set_step h
theorem frz_of_new {K : PySem.W.Frag} {r : M (List T)} {σ : L2.St} {H : Hp} {Q : VK} (hh : tE K cl W (mFrz r) σ H Q) : tN K cl W r σ H Q := by
  obtain ⟨env, h, ω, he, hs, q⟩ := hh
  refine ⟨env, h, ω, he, hs, ?_⟩
  unfold mFrz at q
  revert q
  cases r env h with
  | bad => exact fun z => z
  | ex x h1 => exact fun z => z
  | ok ts h1 =>
    intro q ω1 H1 N1 S1 l vs rvs e1 n1 n2 f1
    refine q _ H1 (N1.fixIt (o := .lst vs) n1 f1) (S1.fixIt e1 n1 n2) _ ?_
    simp only [Rep]
    exact ⟨l, vs, rfl, upd_same, rvs.mono (gr_fix n1)⟩
section
variable {elt tg iter : Expr} {ifs : List Expr} {scope : Scope} {own : List (Str × Nat)} {ms : M Src} {g : Tgt} {tt : M Bool} {me : M T} {i : Nat} {y : Str} {py spos : Pos}
theorem ks_setLc (hc : X.calm = true) (hN : X.N.Nodup) (hy : X.N[i]? = some y) (hyl : X.env.scope.names.lookup y = some .local)
    (hsw : swapsWith (.ListComp elt [⟨tg, iter, ifs, 0⟩] scope pos) (some (.Name y py)) spos.line X.env = pure true) (hi : PI X tg iter (tI X.K cl W ms)) (ok : BlkOk X.N X.env.scope scope own) (hsub : ∀ i ∈ g.slots, i ∈ own.map (·.2))
    (hg : ∀ (s : Shared) (H : Hp) (C : Addr) (cl' : List (Str × Addr)) (fp : List Addr), PG (X.blk s H scope (compEnvC scope cl' C X.env) fp) tg (gT X.K g))
    (ht : ∀ (s : Shared) (H : Hp) (C : Addr) (cl' : List (Str × Addr)) (fp : List Addr), PTs (X.blk s H scope (compEnvC scope cl' C X.env) fp) ifs (tT X.K cl W0 tt))
    (he : ∀ (s : Shared) (H : Hp) (C : Addr) (cl' : List (Str × Addr)) (fp : List Addr), PE (X.blk s H scope (compEnvC scope cl' C X.env) fp) elt (tE X.K cl W0 me))
    (hs : ∀ x, foldedSetIterable iter X.env x = pure x := by intro _; rfl) :
    PS X (.Assign [.Name y py] (.ListComp elt [⟨tg, iter, ifs, 0⟩] scope pos) spos) (tS X.K cl W (sSet i (mFrz (mComp ms (own.map (·.2)) g tt me)))) :=
  (ps_setLc hc hN hy hyl hsw hi ok hg ht he hs).weak fun D σ H h => lc_step hsub (frz_of_new (set_step h))
end
end
section
variable {X : Cx} {pos : Pos}
theorem kg_one {i : Nat} {x : Str} (hN : X.N.Nodup) (hi : X.N[i]? = some x) (hx : Loc X.env.scope x) (hf : X.fn x = true ∨ X.env.scope.names.lookup x = some .local := by first | exact .inl rfl | exact .inr rfl | assumption) : PG X (.Name x pos) (gT X.K (.one i)) := pg_name hN hi hx hf
theorem kgs_nil : PGs X [] (gMany []) := pgs_nil
theorem kgs_cons {i : Nat} {x : Str} {p : Pos} {es : List Expr} {is : List Nat} (hN : X.N.Nodup) (hi : X.N[i]? = some x) (hx : Loc X.env.scope x) (h2 : PGs X es (gMany is)) (hf : X.fn x = true ∨ X.env.scope.names.lookup x = some .local := by first | exact .inl rfl | exact .inr rfl | assumption)
    (hs : (assignEach (.Name x p :: es) X.env).map (·.2) = assign (.Name x p) X.env :: (assignEach es X.env).map (·.2) := by rfl) : PGs X (.Name x p :: es) (gMany (i :: is)) := pgs_cons (pg_name hN hi hx hf) h2 hs
theorem kg_tup {es : List Expr} {k : Nat} {is : List Nat} (hc : X.calm = true) (h : PGs X es (gMany is)) (hn : (assignEach es X.env).length = is.length := by rfl) (hst : (assignEach es X.env).findIdx? (·.1) = none := by rfl) : PG X (.Tuple es k pos) (gT X.K (.tup is)) := pg_seq hc h hn hst
end
theorem envOk_drop {K : PySem.W.Frag} {ω : Wd} {env : Env'} {σ : L2.St} (e : EnvOk K ω env σ) : ∀ vs : List Nat, EnvOk K ω (dropE vs env) σ
  | [] => e
  | v :: vs => (envOk_drop e vs).drop v
noncomputable def forLoop (gs : List (Nat × List T)) (tg : Tgt) (kill : List Nat) (body : MS) : List T → MS
  | [], env, h => if gsOk h gs then .nx env h else .bad
  | x :: r, env, h => if gsOk h gs then
      match bindT tg x env with
      | some env1 => match body env1 h with
        | .nx env2 h2 => forLoop gs tg kill body r (dropE kill env2) h2
        | .ct env2 h2 => forLoop gs tg kill body r (dropE kill env2) h2
        | .bk env2 h2 => .nx env2 h2
        | o => o
      | none => .bad
    else .bad
noncomputable def sFor (src : M Src) (tg : Tgt) (kill : List Nat) (body : MS) : MS := fun env h => bindE (src env h) env fun s h1 => forLoop s.gs tg kill body s.items (dropE kill env) h1
section
variable {X : Cx} {cl : Nat → Addr} {W : WX} {tg iter : Expr} {g : Tgt} {kill : List Nat} {body : MS} {bd : List Stmt} {ms : M Src} {pos : Pos}
theorem ks_for (hp : PassesOwn (model X.prog X.w) X.A X.env X.xe) (hc : X.calm = true) (hi : PI X tg iter (tI X.K cl W ms)) (hg : PG X tg (gT X.K g)) (hb : PSs X bd (tS X.K cl W body))
    (hs : ∀ x, foldedSetIterable iter X.env x = pure x := by intro _; rfl) : PS X (.For tg iter bd [] pos) (tS X.K cl W (sFor ms g kill body)) := by
  refine (ps_for hp hc hi hg hb hs).weak fun D σ H ⟨env, h, ω, he, hst, q⟩ => ⟨env, h, ω, he, hst, (PostS.bindE he q).mono fun s h1 ω1 H1 N1 S1 q1 J ij => ?_⟩
  let St' : Nat → L2.St → Hp → Prop := fun i σ' H' => ∃ env' h' ω', Nx ω1 H1 ω' H' ∧ EnvOk X.K ω' env' σ' ∧ StOk X.K cl ω' h' H' ∧ PostS X.K cl W ω' H' (forLoop s.gs g kill body (s.items.drop i) env' h') D
  refine ⟨fun i m σ' H' => m = s.items.length - i ∧ i ≤ s.items.length ∧ St' i σ' H', ⟨_, rfl, Nat.zero_le _, dropE kill env, h1, ω1, Nx.refl _ _, envOk_drop (he.mono N1.toGr) _, S1, by rw [List.drop_zero]; exact q1⟩, ?_⟩
  rintro i m σ' H' ⟨rfl, hle, env', h', ω', N', e', S', q'⟩
  by_cases hlt : i < s.items.length
  · have hdrop : s.items.drop i = s.items[i] :: s.items.drop (i + 1) := List.drop_eq_getElem_cons hlt
    rw [hdrop] at q'
    unfold forLoop at q'
    split at q'
    · rename_i go
      refine .inr ⟨ij.goes i ω' h' H' N'.toGr S' go hlt, St' (i + 1), fun σ'' H'' p => ⟨_, by omega, rfl, hlt, p⟩, fun x H2 hy => ?_⟩
      obtain ⟨ω2, t, N2, S2, et, rt⟩ := ij.yields i ω' h' H' x H2 N'.toGr S' go hlt hy
      have et' : t = s.items[i] := by
        rw [List.getElem?_eq_getElem hlt] at et
        exact (Option.some.inj et).symm
      subst et'
      split at q'
      · rename_i env1 eb
        refine gT_ok S2 rt (e'.mono N2.toGr) eb fun σ2 he2 _ => ⟨env1, h', ω2, he2, S2, ?_⟩
        have q2 := PostS.later N2 q'
        revert q2
        cases body env1 h' with
        | nx env2 h2 => exact fun q2 ω3 H3 σ3 N3 S3 e3 => ⟨_, h2, ω3, (N'.trans N2).trans N3, envOk_drop e3 _, S3, PostS.later N3 q2⟩
        | ct env2 h2 => exact fun q2 ω3 H3 σ3 N3 S3 e3 => ⟨_, h2, ω3, (N'.trans N2).trans N3, envOk_drop e3 _, S3, PostS.later N3 q2⟩
        | bk env2 h2 => exact fun q2 => q2
        | rt t h2 => exact fun q2 => q2
        | ex e env2 h2 => exact fun q2 => q2
        | bad => exact fun q2 => q2
      · exact q'.elim
    · exact q'.elim
  · have e : i = s.items.length := by omega
    subst e
    rw [List.drop_length] at q'
    unfold forLoop at q'
    split at q'
    · rename_i go
      exact .inl ⟨ij.stops ω' h' H' N'.toGr S' go, q' ω' H' σ' (Nx.refl _ _) S' e'⟩
    · exact q'.elim
end
inductive WS where
  | out (o : SO) | go (env : Env') (h : Store)
open Classical in
section
variable {c : M Bool} {kill : List Nat} {body : MS}
end
section
variable {X : Cx} {cl : Nat → Addr} {W : WX} {c : Expr} {mc : M Bool} {kill : List Nat} {body : MS} {bd : List Stmt} {pos : Pos}
end
end Sm
namespace Sm
open PySem PySem.Spec PyProof.Rows L2
theorem pus_append : ∀ {xs ys : List T}, pus (xs ++ ys) = (pus xs && pus ys)
  | [], ys => by simp [pus]
  | x :: xs, ys => by
    show (x.pu && pus (xs ++ ys)) = ((x.pu && pus xs) && pus ys)
    rw [pus_append, Bool.and_assoc]
theorem pus_all : ∀ {xs : List T}, pus xs = xs.all T.pu
  | [] => rfl
  | x :: xs => by unfold pus; rw [pus_all]; rfl
theorem pus_set {xs : List T} {i : Nat} {t : T} (h : pus xs = true) (ht : t.pu = true) : pus (xs.set i t) = true := by
  rw [pus_all, List.all_eq_true] at h ⊢
  intro x hx
  rcases List.mem_or_eq_of_mem_set hx with z | z
  · exact h x z
  · rw [z]; exact ht
theorem pus_sub {xs ys : List T} (h : pus xs = true) (hs : ∀ y ∈ ys, y ∈ xs) : pus ys = true := by
  rw [pus_all, List.all_eq_true] at h ⊢
  exact fun y hy => h y (hs y hy)
theorem Reps.dropLast {K : PySem.W.Frag} {ω : Wd} {ts : List T} {vs : List V} (r : Reps K ω ts vs) : Reps K ω ts.dropLast vs.dropLast := by
  rw [List.dropLast_eq_take, List.dropLast_eq_take, r.length]
  exact r.take _
abbrev FM := T → List T → Store → Option (T × Store)
def rVM (K : PySem.W.Frag) (cl : Nat → Addr) (f : FM) : V → List V → Hp → VK → Prop := fun x xs H Q => ∃ a as h ω t h', StOk K cl ω h H ∧ Rep K ω a x ∧ Reps K ω as xs ∧ f a as h = some (t, h') ∧ ∀ ω' H' v, Nx ω H ω' H' → StOk K cl ω' h' H' → Rep K ω' t v → Q v H'
def outM (o : Option (T × Store)) : Out T := match o with
  | some (t, h) => .ok t h
  | none => .bad
def mMethL (f : FM) (m : M T) (r : M (List T)) : M T := fun env h => (m env h).bind fun a h1 => match lstOf h1 a with
  | some _ => (r env h1).bind fun as h2 => outM (f a as h2)
  | none => .bad
section
variable {X : Cx} {cl : Nat → Addr} {W : WX} {o e : Expr} {es : List Expr} {m : M T} {r : M (List T)} {f : FM} {name : Str} {apos cpos : Pos} {id : String}
theorem methL_step {K : PySem.W.Frag} {σ : L2.St} {H : Hp} {Q : VK} (h : tE K cl W (mMethL f m r) σ H Q) : tE K cl W m σ H fun x H1 => tyV K "list" x H1 ∧ tA K cl W r σ H1 fun xs H2 => rVM K cl f x xs H2 Q := by
  obtain ⟨env, h, ω, he, hs, q⟩ := h
  refine ⟨env, h, ω, he, hs, (PostG.bind q).mono fun a h1 ω1 H1 N1 S1 q1 v rv => ?_⟩
  split at q1
  · rename_i xs ea
    obtain ⟨p, vs, rfl, b1, c1⟩ := lstOf_ok S1 rv ea
    refine ⟨.inl ⟨rfl, vs, SqL.of b1⟩, env, h1, ω1, he.mono N1.toGr, S1, (PostG.bind q1).mono fun as h2 ω2 H2 N2 S2 q2 ws rws => ?_⟩
    cases ef : f a as h2 with
    | none => rw [ef] at q2; exact q2.elim
    | some th =>
      rw [ef] at q2
      exact ⟨a, as, h2, ω2, th.1, th.2, S2, rv.mono N2.toGr, rws, ef, fun ω' H' v N S r => q2 ω' H' N S v r⟩
  · exact q1.elim
theorem k_methL (slot : Slot "list" name id) (hty : typeOf (.builtin id) = pure (.type "method_descriptor")) (hm : MtR X id (rVM X.K cl f)) (ho : PE X o (tE X.K cl W m)) (ha : PA X (e :: es) (tA X.K cl W r))
    (hba : attributeBase o name X.env (eval o X.env) = eval o X.env := by rfl)
    (hfew : ((backTo cpos (starEach (e :: es) X.env)).all (fun x => !x.1) && (backToKw cpos (keywordEach [] X.env)).all (fun x => x.1.isSome) && decide ((e :: es).length + ([] : List Keyword).length + (if ([] : List Keyword).isEmpty then 0 else 1) < 30)) = true := by rfl)
    (hline : (apos.endLine == cpos.line) = true := by rfl) (hs : starEach (e :: es) X.env = (false, eval e X.env) :: starEach es X.env := by rfl) (hplain : (backTo cpos (starEach es X.env)).any (·.1) = false := by rfl) :
    PE X (.Call (.Attribute o name apos) (e :: es) [] cpos) (tE X.K cl W (mMethL f m r)) :=
  (pe_bm PySem.F.plainAttrs_list slot hty hm ho ha hba hfew hline hs hplain).weak fun _ _ _ h => methL_step h
def cellL (h : Store) (n : Nat) : Option (List T) := match h[n]? with
  | some (.lst xs) => some xs
  | _ => none
theorem cellL_ok {K : PySem.W.Frag} {ω : Wd} {h : Store} {H : Hp} (S : StOk K cl ω h H) {n : Nat} {v : V} {xs : List T} (r : Rep K ω (.loc n) v) (e : cellL h n = some xs) : ∃ p vs, v = .ref p ∧ ω.rho[n]? = some p ∧ H p = some (.lst vs) ∧ Reps K ω xs vs ∧ pus xs = true := by
  unfold cellL at e
  split at e
  · rename_i ys hn
    cases e
    exact lst_at S r hn
  · cases e
def fMove (n : Nat) (xs : List T) (y : T) (h : Store) : Option (T × Store) := match y with
  | .loc m => match cellL h m with
    | some ys => if m ≠ n ∧ xs.length < 100000 then some (.non, (h.set m .dead).set n (.lst (xs ++ [.lst ys]))) else none
    | none => none
  | _ => none
def fAppend : FM := fun a as h => match a, as with
  | .loc n, [y] => match cellL h n with
    | some xs => if xs.length < 100000 ∧ y.pu = true then some (.non, h.set n (.lst (xs ++ [y]))) else fMove n xs y h
    | none => none
  | _, _ => none
def fInsert : FM := fun a as h => match a, as with
  | .loc n, [.int i, y] => match cellL h n with
    | some xs => if xs.length < 100000 ∧ y.pu = true ∧ 0 ≤ i ∧ i < 100000 then some (.non, h.set n (.lst (xs.take i.toNat ++ [y] ++ xs.drop i.toNat))) else none
    | none => none
  | _, _ => none
def fIndex : FM := fun a as h => match as with
  | [y] => match lstOf h a with
    | some xs => if flatT y = true ∧ xs.all flatT = true then (xs.findIdx? fun z => eqT z y).map fun j => (.int (j : Nat), h) else none
    | none => none
  | _ => none
theorem line_lt {n : Nat} (h : n < 100000) : n < sizeLine := by rw [sizeLine_eq]; omega
theorem cellL_at {h : Store} {n : Nat} {xs : List T} (e : cellL h n = some xs) : h[n]? = some (.lst xs) := by
  unfold cellL at e
  split at e
  · rename_i ys hn
    cases e
    exact hn
  · cases e
theorem put_lst {K : PySem.W.Frag} {ω : Wd} {h : Store} {H : Hp} (S : StOk K cl ω h H) {n : Nat} {p : Addr} {ys zs : List T} {vs : List V} (e0 : h[n]? = some (.lst zs)) (e : ω.rho[n]? = some p) (hp : pus ys = true) (r : Reps K ω ys vs) : StOk K cl ω (h.set n (.lst ys)) (upd H p (.lst vs)) ∧ Nx ω H ω (upd H p (.lst vs)) :=
  ⟨S.put e0 (fun z => by cases z) e ⟨hp, vs, upd_same, r⟩, nx_put S e⟩
theorem m_insert : MtR X "list.insert" (rVM X.K cl fInsert) := by
  intro pins s σ H x xs v us Q I rx rxs ⟨a, as, h, ω, t, h', S, ra, ras, e, q⟩
  unfold fInsert at e
  split at e
  · rename_i n i y
    split at e
    · rename_i ys ey
      obtain ⟨c, e2⟩ := ne_ite e
      cases e2
      obtain ⟨p, vs, rfl, e1, e2, e3, e4⟩ := cellL_ok S ra ey
      obtain ⟨w, wr, rfl, r1, r2⟩ := ras.inv
      obtain ⟨w2, wr2, rfl, r3, r4⟩ := r2.inv
      rw [r4.nil_inv, r1.int_inv] at rxs
      have e5 := pus_sub (ys := ys.take i.toNat) e4 fun y hy => List.mem_of_mem_take hy
      have e6 := pus_sub (ys := ys.drop i.toNat) e4 fun y hy => List.mem_of_mem_drop hy
      obtain ⟨S', N'⟩ := put_lst S (cellL_at ey) e1 (by rw [pus_append, pus_append, e5, e6, Bool.true_and, Bool.and_true]; simpa [pus] using c.2.1) (((e3.take i.toNat).append (Reps.one r3)).append (e3.drop i.toNat))
      exact mt_insert pins s σ H _ _ v us Q I rx rxs ⟨p, vs, i, w2, rfl, rfl, e2, by rw [← e3.length]; exact line_lt c.1, c.2.2.1, by omega, q _ _ _ N' S' rep_non⟩
    · cases e
  · cases e
theorem m_index : MtR X "list.index" (rVM X.K cl fIndex) := by
  intro pins s σ H x xs v us Q I rx rxs ⟨a, as, h, ω, t, h', S, ra, ras, e, q⟩
  unfold fIndex at e
  split at e
  · rename_i y
    split at e
    · rename_i ys ey
      split at e
      · rename_i c
        rw [Option.map_eq_some_iff] at e
        obtain ⟨j, ej, e5⟩ := e
        cases e5
        obtain ⟨p, vs, rfl, b1, c1⟩ := lstOf_ok S ra ey
        obtain ⟨w, wr, rfl, r1, r2⟩ := ras.inv
        rw [r2.nil_inv] at rxs
        rw [List.findIdx?_eq_some_iff_getElem] at ej
        obtain ⟨hj, ez, hno⟩ := ej
        obtain ⟨z, ew, rw'⟩ := c1.get (List.getElem?_eq_getElem hj)
        have ff := c.2
        rw [List.all_eq_true] at ff
        refine mt_index pins s σ H _ _ v us Q I rx rxs ⟨p, vs, w, j, z, rfl, rfl, SqL.of b1, by rw [r1.flat]; exact c.1, by rw [c1.allFlat]; exact c.2, ew, ?_, fun m z' hm hz => ?_, q _ _ _ (Nx.refl _ _) S rep_int⟩
        · rw [rw'.eqv r1 (ff _ (List.getElem_mem hj)) c.1]; exact ez
        · obtain ⟨t', et, rt⟩ := c1.getV hz
          have hml : m < ys.length := by omega
          rw [List.getElem?_eq_getElem hml] at et
          cases et
          rw [rt.eqv r1 (ff _ (List.getElem_mem hml)) c.1]
          have := hno m hm
          simpa using this
      · cases e
    · cases e
  · cases e
def sItem (mv mo mi : M T) : MS := fun env h => bindE (mv env h) env fun v h1 => bindE (mo env h1) env fun a h2 => bindE (mi env h2) env fun i h3 => match a, i with
  | .loc n, .int k => match cellL h3 n with
    | some xs => match ixN xs.length k with
      | some j => if v.pu = true then .nx env (h3.set n (.lst (xs.set j v))) else .bad
      | none => .bad
    | none => .bad
  | _, _ => .bad
theorem ks_item {ob ix ev : Expr} {p pos : Pos} {mv mo mi : M T} (hv : PE X ev (tE X.K cl W mv)) (ho : PE X ob (tE X.K cl W mo)) (hi : PE X ix (tE X.K cl W mi))
    (ha : ∀ v, assign (.Subscript ob ix p) X.env v = (do
      let ov ← holding [v] (eval ob X.env)
      let iv ← holding [v, ov] (eval ix X.env)
      standAt p
      holding [v, ov, iv] (setItem ov iv v)
      release [v, ov, iv] []) := by intro _; rfl)
    (hs : swapsWithSole [.Subscript ob ix p] ev pos.line X.env = pure false := by rfl) (hw : swappedStores [.Subscript ob ix p] ev X.env = pure none := by rfl)
    (h1 : (assignEach [.Subscript ob ix p] X.env).map (·.2) = [assign (.Subscript ob ix p) X.env] := by rfl) : PS X (.Assign [.Subscript ob ix p] ev pos) (tS X.K cl W (sItem mv mo mi)) := by
  refine (ps_asg hv (pg_sub ho hi set_list ha) hs hw h1).weak fun D σ H ⟨env, h, ω, he, hs, q⟩ => ⟨env, h, ω, he, hs, (PostS.bindE he q).mono fun t h1 ω1 H1 N1 S1 q1 v r => ?_⟩
  refine ⟨env, h1, ω1, he.mono N1.toGr, S1, (PostS.bindE (he.mono N1.toGr) q1).mono fun a h2 ω2 H2 N2 S2 q2 o ro => ?_⟩
  refine ⟨env, h2, ω2, (he.mono N1.toGr).mono N2.toGr, S2, (PostS.bindE ((he.mono N1.toGr).mono N2.toGr) q2).mono fun i h3 ω3 H3 N3 S3 q3 z rz => ?_⟩
  split at q3
  · rename_i n k
    split at q3
    · rename_i xs ex
      split at q3
      · rename_i j ej
        split at q3
        · rename_i hp
          obtain ⟨p, vs, rfl, e1, e2, e3, e4⟩ := cellL_ok S3 (ro.mono N3.toGr) ex
          obtain ⟨S', N'⟩ := put_lst S3 (cellL_at ex) e1 (pus_set (i := j) e4 hp) (e3.set ((r.mono N2.toGr).mono N3.toGr) j)
          rw [e3.length] at ej
          exact ⟨p, vs, k, j, rfl, rz.int_inv, e2, ej, q3 _ _ σ N' S' (((he.mono N1.toGr).mono N2.toGr).mono N3.toGr)⟩
        · exact q3.elim
      · exact q3.elim
    · exact q3.elim
  · exact q3.elim
end
end Sm
namespace Sm
open PySem PySem.Spec PyProof.Rows L2
mutual
def frz (n : Nat) (h : Store) : T → Option T
  | .loc m => if m < n then some (.loc m) else match h[m]? with
    | some (.lst xs) => some (.lst xs)
    | _ => none
  | .tup xs => (frzs n h xs).map .tup
  | .lst xs => (frzs n h xs).map .lst
  | .non => some .non
  | .bl b => some (.bl b)
  | .int i => some (.int i)
  | .str s => some (.str s)
  | .scr s => some (.scr s)
  | .emp => some .emp
  | .adr _ _ _ _ => none
  | .fnc _ => none
  | .dct ks ts => (frzs n h ts).map (.dct ks)
def frzs (n : Nat) (h : Store) : List T → Option (List T)
  | [] => some []
  | x :: r => match frz n h x, frzs n h r with
    | some y, some ys => some (y :: ys)
    | _, _ => none
end
mutual
theorem frz_pu {n : Nat} {h : Store} : ∀ {t : T}, t.pu = true → frz n h t = some t
  | .non, _ => by simp only [frz]
  | .bl _, _ => by simp only [frz]
  | .int _, _ => by simp only [frz]
  | .str _, _ => by simp only [frz]
  | .scr _, _ => by simp only [frz]
  | .emp, _ => by simp only [frz]
  | .adr _ _ _ _, hp => by simp [T.pu] at hp
  | .fnc _, hp => by simp [T.pu] at hp
  | .tup xs, hp => by
    simp only [T.pu] at hp
    simp only [frz, frzs_pu hp, Option.map_some]
  | .lst xs, hp => by
    simp only [T.pu] at hp
    simp only [frz, frzs_pu hp, Option.map_some]
  | .dct ks xs, hp => by
    simp only [T.pu] at hp
    simp only [frz, frzs_pu hp, Option.map_some]
  | .loc m, hp => by simp [T.pu] at hp
theorem frzs_pu {n : Nat} {h : Store} : ∀ {ts : List T}, pus ts = true → frzs n h ts = some ts
  | [], _ => by simp only [frzs]
  | x :: r, hp => by
    simp only [pus, Bool.and_eq_true] at hp
    simp only [frzs, frz_pu hp.1, frzs_pu hp.2]
end
theorem frzs_len {n : Nat} {h : Store} : ∀ {ts us : List T}, frzs n h ts = some us → us.length = ts.length
  | [], us, e => by
    simp only [frzs, Option.some.injEq] at e
    rw [← e]
  | x :: r, us, e => by
    simp only [frzs] at e
    split at e
    · rename_i y ys e1 e2
      cases e
      rw [List.length_cons, List.length_cons, frzs_len e2]
    · cases e
def sameIns (h h' : Store) : Prop := ∀ (i c : Nat) (fs : List (Str × T)), i < h.length → h'[i]? = some (.ins c fs) → h[i]? = some (.ins c fs)
def Ex.pu : Ex → Bool
  | .txt _ => true
  | .fld _ _ t => t.pu
open Classical in
noncomputable instance sameDec (h h' : Store) : Decidable (sameIns h h') := propDecidable _
noncomputable def retF (h : Store) (t : T) (h' : Store) : Out T := if sameIns h h' then (if t.pu = true then .ok t (h'.take h.length) else match frz h.length h' t with
  | some t' => .ok t' (h'.take h.length)
  | none => .bad) else .bad
noncomputable def finF (keep : Bool) (h : Store) : SO → Out T
  | .rt t h' => if keep = true then .ok t h' else retF h t h'
  | .nx _ h' => if keep = true then .ok .non h' else retF h .non h'
  | .ex e _ h' => if keep = true then .ex e h' else if sameIns h h' ∧ e.pu = true then .ex e (h'.take h.length) else .bad
  | _ => .bad
def startE (n : Nat) (ts : List T) : Env' := ts.map some ++ List.replicate (n - ts.length) none
abbrev Fn := List T → Store → Out T
noncomputable def fn (nargs nslots : Nat) (keep : Bool) (body : MS) : Fn := fun ts h => if ts.length = nargs then finF keep h (body (startE nslots ts) h) else .bad
def spF (K : PySem.W.Frag) (cl : Nat → Addr) (F : Fn) (n : Nat) : Sp := fun vs H Q E => vs.length = n ∧ ∃ ts h ω, StOk K cl ω h H ∧ Reps K ω ts vs ∧ PostG K cl (fun cls d _ H' => E cls d H') ω H [] (F ts h) fun t _ ω' H' => ∀ v, Rep K ω' t v → Q v H'
section
variable {K : PySem.W.Frag} {cl : Nat → Addr} {ω ω' : Wd} {h h' : Store} {H H' : Hp}
mutual
theorem Rep.closed {ω'' : Wd} (pre : ω.rho <+: ω'.rho) (e : ω''.rho = ω.rho) (m : ∀ a o, ω'.Phi a = some o → ω''.Phi a = some o) : ∀ {t : T} {v0 v : V}, Rep K ω t v0 → Rep K ω' t v → Rep K ω'' t v
  | .non, _, _, _, r => by simpa only [Rep] using r
  | .bl _, _, _, _, r => by simpa only [Rep] using r
  | .int _, _, _, _, r => by simpa only [Rep] using r
  | .str _, _, _, _, r => by simpa only [Rep] using r
  | .tup xs, _, _, r0, r => by
    simp only [Rep] at r0 r ⊢
    obtain ⟨p, vs, e1, a, b⟩ := r
    obtain ⟨p0, vs0, _, _, b0⟩ := r0
    exact ⟨p, vs, e1, sqT_mono m a, Reps.closed pre e m b0 b⟩
  | .lst xs, _, _, r0, r => by
    simp only [Rep] at r0 r ⊢
    obtain ⟨p, vs, e1, a, b⟩ := r
    obtain ⟨p0, vs0, _, _, b0⟩ := r0
    exact ⟨p, vs, e1, m _ _ a, Reps.closed pre e m b0 b⟩
  | .loc n, _, _, r0, r => by
    simp only [Rep] at r0 r ⊢
    obtain ⟨p, e1, a⟩ := r
    obtain ⟨p0, _, a0⟩ := r0
    obtain ⟨l, q⟩ := pre
    have a' := a0
    rw [← q, List.getElem?_append_left (List.getElem?_eq_some_iff.mp a0).1, a0] at a
    cases a
    exact ⟨p, e1, by rw [e]; exact a0⟩
  | .scr ns, _, _, r0, r => by
    simp only [Rep] at r ⊢
    obtain ⟨p, e1, a⟩ := r
    exact ⟨p, e1, sqL_mono m a⟩
  | .fnc _, _, _, _, r => by simpa only [Rep] using r
  | .adr a d f ts, _, _, r0, r => by
    simp only [Rep] at r0 r ⊢
    obtain ⟨_, ws0, _, b0⟩ := r0
    obtain ⟨e1, ws, c, b⟩ := r
    exact ⟨e1, ws, fun n => m _ _ (c n), Reps.closed pre e m b0 b⟩
  | .emp, _, _, r0, r => by
    simp only [Rep] at r ⊢
    obtain ⟨p, e1, a⟩ := r
    exact ⟨p, e1, m _ _ a⟩
  | .dct ks xs, _, _, r0, r => by
    simp only [Rep] at r0 r ⊢
    obtain ⟨p, vs, e1, a, b⟩ := r
    obtain ⟨p0, vs0, _, _, b0⟩ := r0
    exact ⟨p, vs, e1, fixR_mono m a, Reps.closed pre e m b0 b⟩
theorem Reps.closed {ω'' : Wd} (pre : ω.rho <+: ω'.rho) (e : ω''.rho = ω.rho) (m : ∀ a o, ω'.Phi a = some o → ω''.Phi a = some o) : ∀ {ts : List T} {vs0 vs : List V}, Reps K ω ts vs0 → Reps K ω' ts vs → Reps K ω'' ts vs
  | [], _, _, _, r => by simpa only [Reps] using r
  | x :: xs, _, _, r0, r => by
    obtain ⟨v0, vr0, rfl, a0, b0⟩ := r0.inv
    obtain ⟨v, vr, rfl, a, b⟩ := r.inv
    exact Reps.cons (Rep.closed pre e m a0 a) (Reps.closed pre e m b0 b)
end
theorem RepKV.closed {κ : Type} {ω'' : Wd} (pre : ω.rho <+: ω'.rho) (e : ω''.rho = ω.rho) (m : ∀ a o, ω'.Phi a = some o → ω''.Phi a = some o) : ∀ {a : List (κ × T)} {b0 b : List (κ × V)}, RepKV K ω a b0 → RepKV K ω' a b → RepKV K ω'' a b
  | [], _, _, _, r => r
  | (k, t) :: l, _, _, ⟨_, _, _, a0, b0⟩, ⟨v, lr, e1, a1, b1⟩ => ⟨v, lr, e1, a0.closed pre e m a1, RepKV.closed pre e m b0 b1⟩
noncomputable def cutW (ω' : Wd) (n : Nat) (H' : Hp) : Wd := ⟨ω'.rho.take n, fun a => if a ∈ ω'.rho.drop n then H' a else ω'.Phi a⟩
theorem cut_phi (S' : StOk K cl ω' h' H') (n : Nat) : ∀ a o, ω'.Phi a = some o → (cutW ω' n H').Phi a = some o := fun a o e => by
  show (if a ∈ ω'.rho.drop n then H' a else ω'.Phi a) = some o
  split
  · exact S'.phi a o e
  · exact e
theorem cut_ok (S : StOk K cl ω h H) (N : Nx ω H ω' H') (S' : StOk K cl ω' h' H') (si : sameIns h h') : Nx ω H (cutW ω' h.length H') H' ∧ StOk K cl (cutW ω' h.length H') (h'.take h.length) H' := by
  have hrho : ω'.rho.take h.length = ω.rho := by
    obtain ⟨l, q⟩ := N.pre
    rw [← q, ← S.len, List.take_left]
  have hle : h.length ≤ h'.length := by
    rw [← S.len, ← S'.len]
    exact N.pre.length_le
  have hph := cut_phi S' h.length
  refine ⟨⟨⟨?_, fun a o e => hph a o (N.phi a o e)⟩, fun p hp => N.newR p (List.mem_of_mem_take hp), fun a o e => ?_, N.fr, N.dom⟩, ⟨?_, ?_, ?_, ?_, ?_⟩⟩
  · show ω.rho <+: ω'.rho.take h.length
    rw [hrho]
    exact List.prefix_refl _
  · have e' : (if a ∈ ω'.rho.drop h.length then H' a else ω'.Phi a) = some o := e
    split at e'
    · rename_i hm
      refine .inr (.inl ?_)
      rcases N.newR a (List.mem_of_mem_drop hm) with z | z
      · exfalso
        have z' : a ∈ ω'.rho.take h.length := by rw [hrho]; exact z
        have nd := S'.nd
        rw [← List.take_append_drop h.length ω'.rho, List.nodup_append] at nd
        exact nd.2.2 a z' a hm rfl
      · exact z
    · exact N.newF a o e'
  · show (ω'.rho.take h.length).length = (h'.take h.length).length
    rw [List.length_take, List.length_take, S'.len]
  · exact S'.nd.sublist (List.take_sublist _ _)
  · intro i c p a b
    have hi : i < h.length := by
      have := (List.getElem?_eq_some_iff.mp a).1
      rw [List.length_take] at this
      omega
    rw [List.getElem?_take_of_lt hi] at a
    have b' : (ω'.rho.take h.length)[i]? = some p := b
    rw [List.getElem?_take_of_lt hi] at b'
    have k := S'.cells i c p a b'
    cases c with
    | lst xs => obtain ⟨k1, vs, k2, k3⟩ := k; exact ⟨k1, vs, k2, k3.pure hph k1⟩
    | dK xs => obtain ⟨k1, vs, k2, k3⟩ := k; exact ⟨k1, vs, k2, k3.pure hph k1⟩
    | dT xs => obtain ⟨k1, vs, k2, k3⟩ := k; exact ⟨k1, vs, k2, k3.pure hph k1.1⟩
    | dead => exact k
    | ins c fs =>
      obtain ⟨dx, l, k2, k3⟩ := k
      obtain ⟨p0, e0, dx0, l0, k20, k30⟩ := S.at_ (si i c fs hi a)
      exact ⟨dx, l, k2, RepKV.closed N.pre hrho hph k30 k3⟩
  · intro a o e
    have e' : (if a ∈ ω'.rho.drop h.length then H' a else ω'.Phi a) = some o := e
    split at e'
    · exact e'
    · exact S'.phi a o e'
  · intro i p hp
    have hp' : (ω'.rho.take h.length)[i]? = some p := hp
    have hi : i < h.length := by
      have := (List.getElem?_eq_some_iff.mp hp').1
      rw [List.length_take] at this
      omega
    have hp2 := hp'
    rw [List.getElem?_take_of_lt hi] at hp2
    rw [List.getElem?_take_of_lt hi]
    refine (S'.dis i p hp2).imp id fun z => ?_
    show (if p ∈ ω'.rho.drop h.length then H' p else ω'.Phi p) = none
    rw [if_neg (fun m => by
      have nd := S'.nd
      rw [← List.take_append_drop h.length ω'.rho, List.nodup_append] at nd
      exact nd.2.2 p (List.mem_of_getElem? hp') p m rfl)]
    exact z
mutual
theorem frz_ok (S' : StOk K cl ω' h' H') (n : Nat) : ∀ {t t' : T} {v : V}, frz n h' t = some t' → Rep K ω' t v → Rep K (cutW ω' n H') t' v
  | .non, t', v, e, r => by simp only [frz, Option.some.injEq] at e; subst e; simpa only [Rep] using r
  | .bl _, t', v, e, r => by simp only [frz, Option.some.injEq] at e; subst e; simpa only [Rep] using r
  | .int _, t', v, e, r => by simp only [frz, Option.some.injEq] at e; subst e; simpa only [Rep] using r
  | .str _, t', v, e, r => by simp only [frz, Option.some.injEq] at e; subst e; simpa only [Rep] using r
  | .scr _, t', v, e, r => by
    simp only [frz, Option.some.injEq] at e
    subst e
    simp only [Rep] at r ⊢
    obtain ⟨p, e1, a⟩ := r
    exact ⟨p, e1, sqL_mono (cut_phi S' n) a⟩
  | .adr _ _ _ _, t', v, e, r => by simp [frz] at e
  | .fnc _, t', v, e, r => by simp [frz] at e
  | .emp, t', v, e, r => by
    simp only [frz, Option.some.injEq] at e
    subst e
    simp only [Rep] at r ⊢
    obtain ⟨p, e1, a⟩ := r
    exact ⟨p, e1, cut_phi S' n _ _ a⟩
  | .tup xs, t', v, e, r => by
    simp only [frz, Option.map_eq_some_iff] at e
    obtain ⟨ys, e1, rfl⟩ := e
    simp only [Rep] at r ⊢
    obtain ⟨p, vs, e2, a, b⟩ := r
    exact ⟨p, vs, e2, sqT_mono (cut_phi S' n) a, frzs_ok S' n e1 b⟩
  | .lst xs, t', v, e, r => by
    simp only [frz, Option.map_eq_some_iff] at e
    obtain ⟨ys, e1, rfl⟩ := e
    simp only [Rep] at r ⊢
    obtain ⟨p, vs, e2, a, b⟩ := r
    exact ⟨p, vs, e2, cut_phi S' n _ _ a, frzs_ok S' n e1 b⟩
  | .dct ks xs, t', v, e, r => by
    simp only [frz, Option.map_eq_some_iff] at e
    obtain ⟨ys, e1, rfl⟩ := e
    simp only [Rep] at r ⊢
    obtain ⟨p, vs, e2, a, b⟩ := r
    exact ⟨p, vs, e2, by rw [frzs_len e1]; exact fixR_mono (cut_phi S' n) a, frzs_ok S' n e1 b⟩
  | .loc m, t', v, e, r => by
    simp only [frz] at e
    split at e
    · rename_i hm
      cases e
      simp only [Rep] at r ⊢
      obtain ⟨p, e2, a⟩ := r
      refine ⟨p, e2, ?_⟩
      show (ω'.rho.take n)[m]? = some p
      rw [List.getElem?_take_of_lt hm]
      exact a
    · rename_i hm
      split at e
      · rename_i xs hn
        cases e
        obtain ⟨p, vs, rfl, q, b, c, d⟩ := lst_at S' r hn
        simp only [Rep]
        refine ⟨p, vs, rfl, ?_, c.pure (cut_phi S' n) d⟩
        show (if p ∈ ω'.rho.drop n then H' p else ω'.Phi p) = _
        rw [if_pos]
        · exact b
        · have hmn : n ≤ m := by omega
          refine List.mem_of_getElem? (i := m - n) ?_
          rw [List.getElem?_drop, Nat.add_sub_cancel' hmn]
          exact q
      · cases e
theorem frzs_ok (S' : StOk K cl ω' h' H') (n : Nat) : ∀ {ts ts' : List T} {vs : List V}, frzs n h' ts = some ts' → Reps K ω' ts vs → Reps K (cutW ω' n H') ts' vs
  | [], ts', vs, e, r => by simp only [frzs, Option.some.injEq] at e; subst e; simpa only [Reps] using r
  | x :: xs, ts', vs, e, r => by
    simp only [frzs] at e
    split at e
    · rename_i y ys e1 e2
      cases e
      obtain ⟨v, vr, rfl, a, b⟩ := r.inv
      exact Reps.cons (frz_ok S' n e1 a) (frzs_ok S' n e2 b)
    · cases e
end
theorem retF_ok {W : WX} {σ : L2.St} {t : T} {Q : VK} (S : StOk K cl ω h H) (q : PostG K cl W ω H σ (retF h t h') fun t _ ω' H' => ∀ v, Rep K ω' t v → Q v H') (N : Nx ω H ω' H') (S' : StOk K cl ω' h' H') {v : V} (r : Rep K ω' t v) : Q v H' := by
  unfold retF at q
  split at q
  · rename_i si
    obtain ⟨N2, S2⟩ := cut_ok S N S' si
    split at q
    · rename_i hp
      exact q _ H' N2 S2 v (frz_ok S' _ (frz_pu hp) r)
    · split at q
      · rename_i t' et
        exact q _ H' N2 S2 v (frz_ok S' _ et r)
      · exact q.elim
  · exact q.elim
theorem XOk.cut {e : Ex} {cls : Value} {d : Option Addr} (x : XOk K cl ω' H' e cls d) (hp : e.pu = true) {ω'' : Wd} (m : ∀ a o, ω'.Phi a = some o → ω''.Phi a = some o) : XOk K cl ω'' H' e cls d := by
  cases e with
  | txt c => exact x
  | fld c f t =>
    obtain ⟨a, b, dx, v, e1, e2, e3⟩ := x
    exact ⟨a, b, dx, v, e1, e2, e3.pure m b⟩
theorem fin_ok {E : XK} {keep : Bool} {o : SO} {Q : VK} (S : StOk K cl ω h H) (q : PostG K cl (fun cls d _ H' => E cls d H') ω H [] (finF keep h o) fun t _ ω' H' => ∀ v, Rep K ω' t v → Q v H') :
    PostS K cl (fun cls d _ H' => E cls d H') ω H o { nx := fun _ H' => Q .non H', rt := Q } := by
  cases o with
  | bad => exact q
  | bk env h' => exact q.elim
  | ct env h' => exact q.elim
  | rt t h' =>
    intro ω' H' v N S' r
    cases keep with
    | true => exact q ω' H' N S' v r
    | false => exact retF_ok S q N S' r
  | nx env h' =>
    intro ω' H' σ' N S' e
    cases keep with
    | true => exact q ω' H' N S' _ rep_non
    | false => exact retF_ok S (t := .non) q N S' rep_non
  | ex e env h' =>
    intro ω' H' σ' cls d N S' _ x
    cases keep with
    | true => exact q ω' H' cls d N S' x
    | false =>
      have q : PostG K cl (fun cls d _ H' => E cls d H') ω H [] (if sameIns h h' ∧ e.pu = true then Out.ex e (h'.take h.length) else .bad) _ := q
      split at q
      · rename_i c
        obtain ⟨N2, S2⟩ := cut_ok S N S' c.1
        exact q _ H' cls d N2 S2 (x.cut c.2 (cut_phi S' _))
      · exact q.elim
theorem startE_ok {n : Nat} {N : List Str} (hn : N.length = n) {ts : List T} {vs : List V} (r : Reps K ω ts vs) : EnvOk K ω (startE n ts) (L2.start N vs) := by
  unfold startE L2.start
  rw [hn, ← r.length]
  refine ⟨by simp [r.length], fun i t e => ?_⟩
  by_cases hi : i < ts.length
  · rw [List.getElem?_append_left (by simpa using hi), List.getElem?_map] at e
    rw [List.getElem?_append_left (by rw [List.length_map, ← r.length]; exact hi), List.getElem?_map]
    cases et : ts[i]? with
    | none => rw [et] at e; cases e
    | some u =>
      rw [et] at e
      cases e
      obtain ⟨v, e1, r1⟩ := r.get et
      exact ⟨v, by rw [e1]; rfl, r1⟩
  · rw [List.getElem?_append_right (by simpa using Nat.le_of_not_lt hi)] at e
    have := List.mem_of_getElem? e
    rw [List.mem_replicate] at this
    cases this.2
end
structure Ok (X : Cx) (W : WX) (k : Nat) : Prop where
  calm : X.calm = true
  nd : X.N.Nodup
  tk : L2N.Takes X W
  hp : PassesOwn (model X.prog X.w) X.A X.env X.xe
  room : Room k X.A
theorem tk0N {X : Cx} : L2N.Takes X (fun _ _ _ _ => False) := fun _ _ ⟨_, _, _, _, _, _, _, _, _, _, _, _, _, _, _, _, z⟩ => z.elim
theorem Ok.hu {X : Cx} {W : WX} {k : Nat} (c : Ok X W k) : X.A.units + 64 < cLine := c.room.units
theorem Ok.hu5 {X : Cx} {W : WX} {k : Nat} (c : Ok X W k) : X.A.units + 65 < cLine := by
  have := c.room.un
  omega
theorem Ok.hu0 {X : Cx} {W : WX} {k : Nat} (c : Ok X W k) : X.A.units < cLine := c.room.units0
theorem Ok.blk {X : Cx} {W : WX} {k : Nat} (c : Ok X W k) (s : Shared) (H : Hp) (scope : Scope) (cenv : Env) (fp : List Addr) : Ok (X.blk s H scope cenv fp) W0 k :=
  ⟨c.calm, c.nd, tk0N, PassesOwn.never, c.room⟩
section
variable {P : Program} {w : World} {K : PySem.W.Frag} {mg : Str → Option Value} {base : Heap} {cl : Nat → Addr}
end
def mCall (F : Fn) (r : M (List T)) : M T := fun env h => (r env h).bind fun as h1 => F as h1
section
variable {X : Cx} {W : WX} {cl : Nat → Addr} {k j n : Nat} {f : Addr} {fd : FuncData} {ps : List Str} {F : Fn} {x : Str} {p pos : Pos} {e : Expr} {es : List Expr} {r : M (List T)}
theorem PostG.reW {K : PySem.W.Frag} {α : Type} {ω : Wd} {H : Hp} {σ : L2.St} {o : Out α} {R : α → Store → Wd → Hp → Prop} (q : PostG K cl W ω H σ o R) : PostG K cl (fun cls d _ H' => W cls d σ H') ω H [] o R := by
  cases o with
  | ok a h => exact q
  | ex e h => exact q
  | bad => exact q
theorem call_step {K : PySem.W.Frag} (hn : ∀ ts h, ts.length ≠ n → F ts h = .bad) {σ : L2.St} {H : Hp} {Q : VK} (h : tE K cl W (mCall F r) σ H Q) : tA K cl W r σ H fun vs H1 => spF K cl F n vs H1 Q (WE W σ) := by
  obtain ⟨env, h, ω, he, hs, q⟩ := h
  refine ⟨env, h, ω, he, hs, (PostG.bind q).mono fun ts h1 ω1 H1 N1 S1 q1 vs rs => ?_⟩
  refine ⟨Classical.byContradiction fun z => ?_, ts, h1, ω1, S1, rs, q1.reW⟩
  rw [hn ts h1 (by rw [rs.length]; exact z)] at q1
  exact q1
theorem fn_len {nargs nslots : Nat} {keep : Bool} {body : MS} : ∀ ts h, ts.length ≠ nargs → fn nargs nslots keep body ts h = .bad := fun ts h z => by
  unfold fn
  rw [if_neg z]
theorem k_call (c : Ok X W k) (G : FnOk X.prog X.w X.K X.mg X.base (L2N.CX X.prog X.w) j f fd ps (spF X.K cl F n)) (hj : j ≤ k) (hn : ∀ ts h, ts.length ≠ n → F ts h = .bad) (hg : Gl X x) (hm : X.mg x = some (.ref f)) (hk : PySem.W.keepIn X.K (.ref f) = true) (hb : Binds X.K fd ps [])
    (ha : PA X (e :: es) (tA X.K cl W r)) (hdb : (x == ("__debug__" : Str)) = false := by decide) (he : starEach (e :: es) X.env = (false, eval e X.env) :: starEach es X.env := by rfl) (hpl : (backTo pos (starEach es X.env)).any (·.1) = false := by rfl) :
    PE X (.Call (.Name x p) (e :: es) [] pos) (tE X.K cl W (mCall F r)) :=
  (pe_callS G (c.room.mono hj) hg hm hk hb (fun σ => L2N.passAt c.tk σ) ha hdb he hpl).weak fun _ _ _ h => call_step hn h
theorem k_call0 (c : Ok X W k) (G : FnOk X.prog X.w X.K X.mg X.base (L2N.CX X.prog X.w) j f fd ps (spF X.K cl F n)) (hj : j ≤ k) (hn : ∀ ts h, ts.length ≠ n → F ts h = .bad) (hg : Gl X x) (hm : X.mg x = some (.ref f)) (hk : PySem.W.keepIn X.K (.ref f) = true) (hb : Binds X.K fd ps [])
    (hdb : (x == ("__debug__" : Str)) = false := by decide) : PE X (.Call (.Name x p) [] [] pos) (tE X.K cl W (mCall F mNil)) := by
  refine ⟨fun pins s σ H Q I h => ?_⟩
  refine wpAny_Call_Name_kw (ld_glob I hg hm ?_ hdb)
  obtain ⟨env, h, ω, he, hs, q⟩ := h
  have q' : spF X.K cl F n [] H Q (WE W σ) := by
    refine ⟨Classical.byContradiction fun z => ?_, [], h, ω, hs, Reps.nil, PostG.reW q⟩
    have q2 : PostG X.K cl W ω H σ (F [] h) _ := q
    rw [hn [] h (fun e => z (by simpa using e))] at q2
    exact q2
  exact PySem.W.callWith_K0 I.kIn hk (run_fnS (us := []) G (c.room.mono hj) hb (L2N.passAt c.tk σ) I .nil q')
end
end Sm
namespace Sm
open PySem PySem.Spec PyProof.Rows L2
structure Cal (P : Program) (w : World) (K : PySem.W.Frag) (mg : Str → Option Value) (base : Heap) (cl : Nat → Addr) (x : Str) (j : Nat) (ps : List Str) (F : Fn) (n : Nat) : Prop where
  ex : ∃ f fd, FnOk P w K mg base (L2N.CX P w) j f fd ps (spF K cl F n) ∧ mg x = some (.ref f) ∧ PySem.W.keepIn K (.ref f) = true ∧ Binds K fd ps []
  len : ∀ ts h, ts.length ≠ n → F ts h = .bad
section
variable {X : Cx} {W : WX} {cl : Nat → Addr} {k j n : Nat} {ps : List Str} {F : Fn} {x : Str} {p pos : Pos} {e : Expr} {es : List Expr} {r : M (List T)}
theorem q_call (c : Ok X W k) (G : Cal X.prog X.w X.K X.mg X.base cl x j ps F n) (hj : j ≤ k) (hg : Gl X x)
    (ha : PA X (e :: es) (tA X.K cl W r)) (hdb : (x == ("__debug__" : Str)) = false := by decide) (he : starEach (e :: es) X.env = (false, eval e X.env) :: starEach es X.env := by rfl) (hpl : (backTo pos (starEach es X.env)).any (·.1) = false := by rfl) :
    PE X (.Call (.Name x p) (e :: es) [] pos) (tE X.K cl W (mCall F r)) := by
  obtain ⟨f, fd, G1, m, kp, b⟩ := G.ex
  exact k_call c G1 hj G.len hg m kp b ha hdb he hpl
theorem q_call0 (c : Ok X W k) (G : Cal X.prog X.w X.K X.mg X.base cl x j ps F n) (hj : j ≤ k) (hg : Gl X x) (hdb : (x == ("__debug__" : Str)) = false := by decide) : PE X (.Call (.Name x p) [] [] pos) (tE X.K cl W (mCall F mNil)) := by
  obtain ⟨f, fd, G1, m, kp, b⟩ := G.ex
  exact k_call0 c G1 hj G.len hg m kp b hdb
end
section
variable {P : Program} {w : World} {K : PySem.W.Frag} {mg : Str → Option Value} {base : Heap} {cl : Nat → Addr}
theorem q_fnF {x qual : Str} {params : Arguments} {body : List Stmt} {scope : Scope} {f : Addr} {fd : FuncData} {N ps : List Str} {k nargs nslots : Nat} {keep : Bool} {sem : MS} (F : FunD K x qual params body scope [] [] f fd) (S : FnScope N ps scope) (hn : N.length = nslots) (hps : ps.length = nargs)
    (hB : ∀ (cdv : Value) (A : Around) (outer : List Env) (s : Shared) (H : Hp) (E : XK), Ok (cxOf (L2N.CX P w) P w K mg base N qual scope f cdv A outer s H E) (fun cls d _ H => E cls d H) k →
      PSs (cxOf (L2N.CX P w) P w K mg base N qual scope f cdv A outer s H E) body (tS K cl (fun cls d _ H => E cls d H) sem)) :
    FnOk P w K mg base (L2N.CX P w) (k + 1) f fd ps (spF K cl (fn nargs nslots keep sem) nargs) := by
  refine F.ok S (fun vs H Q E h => h.1.trans hps.symm) (fun cdv A outer s H vs Q E hr h => ?_)
  obtain ⟨hl, ts, h, ω, hS, hR, hP⟩ := h
  refine ⟨_, hB cdv A outer s H E ⟨rfl, S.nd, L2N.takes_of rfl rfl rfl rfl, passes_of rfl, hr⟩, startE nslots ts, h, ω, startE_ok hn hR, hS, ?_⟩
  unfold fn at hP
  split at hP
  · exact fin_ok hS hP
  · exact hP.elim
theorem q_fn {x qual : Str} {params : Arguments} {body : List Stmt} {scope : Scope} {f : Addr} {fd : FuncData} {N ps : List Str} {k nargs nslots : Nat} {keep : Bool} {sem : MS} (F : FunD K x qual params body scope [] [] f fd) (S : FnScope N ps scope) (hn : N.length = nslots) (hps : ps.length = nargs)
    (hm : mg x = some (.ref f)) (hb : Binds K fd ps [])
    (hB : ∀ (cdv : Value) (A : Around) (outer : List Env) (s : Shared) (H : Hp) (E : XK), Ok (cxOf (L2N.CX P w) P w K mg base N qual scope f cdv A outer s H E) (fun cls d _ H => E cls d H) k →
      PSs (cxOf (L2N.CX P w) P w K mg base N qual scope f cdv A outer s H E) body (tS K cl (fun cls d _ H => E cls d H) sem)) :
    Cal P w K mg base cl x (k + 1) ps (fn nargs nslots keep sem) nargs :=
  ⟨⟨f, fd, q_fnF F S hn hps hB, hm, F.kp, hb⟩, fn_len⟩
theorem q_bad {x qual : Str} {params : Arguments} {body : List Stmt} {scope : Scope} {f : Addr} {fd : FuncData} {ps : List Str} {k n : Nat} (F : FunD K x qual params body scope [] [] f fd) (hm : mg x = some (.ref f)) (hb : Binds K fd ps []) (hps : ps.length = n) :
    Cal P w K mg base cl x k ps (fun _ _ => .bad) n := by
  refine ⟨⟨f, fd, ⟨fun vs H Q E h => h.1.trans hps.symm, fun A outer s H args us vs Q E _ _ _ _ h => ?_⟩, hm, F.kp, hb⟩, fun _ _ _ => rfl⟩
  obtain ⟨_, _, _, _, _, _, z⟩ := h
  exact z.elim
end
theorem walk_ofW {l : PySem.W.OpenLaw} {n k : Nat} {q : Program} {loose : List Str} {XP : (Str → Option Value) → Heap → Prop} {YP : World → Heap → Prop} {d : DefRec} {x : Str} {F : Fn}
    (hn : l.most = some n) (hn2 : n ≤ sizeLine) (hdf : d.params.defaults = []) (hr : Room k callerA)
    (hF : ∀ (w : World) (mg : Str → Option Value) (fa : Addr) (h : Heap), YP w h → h.Ns mainGlobals mg → mg d.name = some (.ref fa) → ∃ (K : PySem.W.Frag) (cl : Nat → Addr) (fd : FuncData), K.In h ∧ (∀ (s : Shared) (u : Value), BindsTo s fd ⟨[u], []⟩ [(x, u)]) ∧
      ∀ base : Heap, K.In base → base.Ns mainGlobals mg → FnOk l.prog w K mg base (L2N.CX l.prog w) k fa fd [x] (spF K cl F 1))
    (hL : ∀ ns : List Int, ns.length ≤ n → ∃ h', F [.scr ns] [] = .ok (.bl true) h') :
    PySem.W.WalkO q loose XP YP l.row.toRowW d [] (fun f vs => PySem.call f vs) := by
  refine Att.attach_call hn hdf fun w _ s1 mg _ fa _ _ _ _ a vs ns G Y _ _ _ mgd lies arei most gens => ?_
  have ⟨K, cl, fd, KX, bind1, ok1⟩ := hF w mg fa _ Y G.T.g mgd
  refine law_call (CX := L2N.CX l.prog w) KX G.T.g G.T.b G.T.builtins G.T.nolimit gens lies arei (Nat.le_trans most hn2) hr ok1 bind1 (fun H _ sq => ⟨rfl, [.scr ns], [], ⟨[], H⟩, ?_, Reps.one ?_, ?_⟩) ?_
  · exact ⟨rfl, List.nodup_nil, nofun, fun _ _ e => e, nofun⟩
  · simp only [Rep]
    exact ⟨a, rfl, sq⟩
  · have ⟨h', e⟩ := hL ns most
    rw [e]
    intro _ _ _ _ v r
    exact r.bl_inv
  · intro H e s' z
    obtain ⟨_, _, _, _, _, _, _, _, _, _, _, _, z⟩ := z
    exact z.elim
end Sm
namespace Sm
open PySem PySem.Spec PyProof.Rows L2
section
variable {X : Cx} {W : WX} {cl : Nat → Addr} {k : Nat} {m n : M T} {r : M (List T)} {e a b : Expr} {es : List Expr} {p p2 pos : Pos} {f : F2}
theorem q_var (i : Nat) {x : Str} (hN : X.N[i]? = some x := by rfl) (hv : Vis X.env.scope x := by first | exact Or.inl rfl | exact Or.inr (Or.inl rfl) | exact Or.inr (Or.inr rfl)) (hd : (x == ("__debug__" : Str)) = false := by decide)
    (hcd : (x == ("__classdict__" : Str)) = false := by decide) : PE X (.Name x pos) (tE X.K cl W (mVar i)) := k_var (pe_var hN hv hd hcd)
theorem q_set (nd : X.N.Nodup) (i : Nat) {x : Str} {pos' : Pos} (he : PE X e (tE X.K cl W m)) (hi : X.N[i]? = some x := by rfl) (hx : Loc X.env.scope x := by first | exact .inl rfl | exact .inr rfl) (hs : swapsWith e (some (.Name x pos')) pos.line X.env = pure false := by rfl)
    (hf : X.fn x = true ∨ X.env.scope.names.lookup x = some .local := by first | exact .inl rfl | exact .inr rfl) : PS X (.Assign [.Name x pos'] e pos) (tS X.K cl W (sSet i m)) := ks_set nd hi hx he hs hf
theorem q_one (nd : X.N.Nodup) (i : Nat) {x : Str} (hi : X.N[i]? = some x := by rfl) (hx : Loc X.env.scope x := by first | exact .inl rfl | exact .inr rfl) (hf : X.fn x = true ∨ X.env.scope.names.lookup x = some .local := by first | exact .inl rfl | exact .inr rfl) : PG X (.Name x pos) (gT X.K (.one i)) := kg_one nd hi hx hf
theorem q_gcons (nd : X.N.Nodup) (i : Nat) {x : Str} {p : Pos} {es : List Expr} {is : List Nat} (h2 : PGs X es (gMany is)) (hi : X.N[i]? = some x := by rfl) (hx : Loc X.env.scope x := by first | exact .inl rfl | exact .inr rfl) (hf : X.fn x = true ∨ X.env.scope.names.lookup x = some .local := by first | exact .inl rfl | exact .inr rfl)
    (hs : (assignEach (.Name x p :: es) X.env).map (·.2) = assign (.Name x p) X.env :: (assignEach es X.env).map (·.2) := by rfl) : PGs X (.Name x p :: es) (gMany (i :: is)) := kgs_cons nd hi hx h2 hf hs
theorem q_eq (hu : X.A.units + 64 < cLine) (ha : PE X a (tE X.K cl W m)) (hb : PE X b (tE X.K cl W n)) : PE X (.Compare a [.Eq] [b] pos) (tE X.K cl W (mBin fEq m n)) := k_cmp (o_eq hu) (nomark _) ha hb
theorem q_ne (hu : X.A.units + 64 < cLine) (ha : PE X a (tE X.K cl W m)) (hb : PE X b (tE X.K cl W n)) : PE X (.Compare a [.NotEq] [b] pos) (tE X.K cl W (mBin fNe m n)) := k_cmp (o_ne hu) (nomark _) ha hb
theorem q_is (ha : PE X a (tE X.K cl W m)) (hb : PE X b (tE X.K cl W n)) : PE X (.Compare a [.Is] [b] pos) (tE X.K cl W (mBin fIs m n)) := k_cmp o_is (nomark _) ha hb
theorem qt_eq (hu : X.A.units + 64 < cLine) (ha : PE X a (tE X.K cl W m)) (hb : PE X b (tE X.K cl W n)) : PT X (.Compare a [.Eq] [b] pos) (tT X.K cl W (mTst (mBin fEq m n))) := kt_cmp (o_eq hu) (nomark _) ha hb
theorem qt_ne (hu : X.A.units + 64 < cLine) (ha : PE X a (tE X.K cl W m)) (hb : PE X b (tE X.K cl W n)) : PT X (.Compare a [.NotEq] [b] pos) (tT X.K cl W (mTst (mBin fNe m n))) := kt_cmp (o_ne hu) (nomark _) ha hb
theorem qt_lt (hu : X.A.units < cLine) (ha : PE X a (tE X.K cl W m)) (hb : PE X b (tE X.K cl W n)) : PT X (.Compare a [.Lt] [b] pos) (tT X.K cl W (mTst (mBin fLt m n))) := kt_cmp (o_lt hu) (nomark _) ha hb
theorem qt_le (ha : PE X a (tE X.K cl W m)) (hb : PE X b (tE X.K cl W n)) : PT X (.Compare a [.LtE] [b] pos) (tT X.K cl W (mTst (mBin fLe m n))) := kt_cmp o_le (nomark _) ha hb
theorem qt_gt (ha : PE X a (tE X.K cl W m)) (hb : PE X b (tE X.K cl W n)) : PT X (.Compare a [.Gt] [b] pos) (tT X.K cl W (mTst (mBin fGt m n))) := kt_cmp o_gt (nomark _) ha hb
theorem qt_ge (ha : PE X a (tE X.K cl W m)) (hb : PE X b (tE X.K cl W n)) : PT X (.Compare a [.GtE] [b] pos) (tT X.K cl W (mTst (mBin fGe m n))) := kt_cmp o_ge (nomark _) ha hb
theorem qt_is (ha : PE X a (tE X.K cl W m)) (hb : PE X b (tE X.K cl W n)) : PT X (.Compare a [.Is] [b] pos) (tT X.K cl W (mTst (mBin fIs m n))) := kt_cmp o_is (nomark _) ha hb
theorem qt_in (hu : X.A.units + 65 < cLine) (ha : PE X a (tE X.K cl W m)) (hb : PE X b (tE X.K cl W n)) (hm : behindInMarks .In b = false := by rfl) : PT X (.Compare a [.In] [b] pos) (tT X.K cl W (mTst (mBin fIn m n))) := kt_cmp (o_in hu) hm ha hb
theorem qt_notin (hu : X.A.units + 65 < cLine) (ha : PE X a (tE X.K cl W m)) (hb : PE X b (tE X.K cl W n)) (hm : behindInMarks .NotIn b = false := by rfl) : PT X (.Compare a [.NotIn] [b] pos) (tT X.K cl W (mTst (mBin fNotIn m n))) := kt_cmp (o_notin hu) hm ha hb
theorem q_idx (ha : PE X a (tE X.K cl W m)) (hb : PE X b (tE X.K cl W n)) (hs : PlainIx b := by exact fun _ _ => rfl) : PE X (.Subscript a b pos) (tE X.K cl W (mBin fIdx m n)) := k_idx hs ha hb
theorem q_len (z : X.mg "len" = none) (ha : PA X (e :: es) (tA X.K cl W r)) (hg : Gl X "len" := by rfl) (he : starEach (e :: es) X.env = (false, eval e X.env) :: starEach es X.env := by rfl) (hpl : (backTo pos (starEach es X.env)).any (·.1) = false := by rfl) : PE X (.Call (.Name "len" p) (e :: es) [] pos) (tE X.K cl W (mCallF fLen r)) := k_callB c_len hg z boot_len ha (by decide) (by decide) he hpl
theorem q_all (c : Ok X W k) (z : X.mg "all" = none) (ha : PA X (e :: es) (tA X.K cl W r)) (hg : Gl X "all" := by rfl) (he : starEach (e :: es) X.env = (false, eval e X.env) :: starEach es X.env := by rfl) (hpl : (backTo pos (starEach es X.env)).any (·.1) = false := by rfl) : PE X (.Call (.Name "all" p) (e :: es) [] pos) (tE X.K cl W (mCallF fAll r)) := k_callB (c_all c.calm) hg z boot_all ha (by decide) (by decide) he hpl
theorem q_max (c : Ok X W k) (z : X.mg "max" = none) (ha : PA X (e :: es) (tA X.K cl W r)) (hg : Gl X "max" := by rfl) (he : starEach (e :: es) X.env = (false, eval e X.env) :: starEach es X.env := by rfl) (hpl : (backTo pos (starEach es X.env)).any (·.1) = false := by rfl) : PE X (.Call (.Name "max" p) (e :: es) [] pos) (tE X.K cl W (mCallF fMax r)) := k_callB (c_max c.calm) hg z boot_max ha (by decide) (by decide) he hpl
theorem q_min (c : Ok X W k) (z : X.mg "min" = none) (ha : PA X (e :: es) (tA X.K cl W r)) (hg : Gl X "min" := by rfl) (he : starEach (e :: es) X.env = (false, eval e X.env) :: starEach es X.env := by rfl) (hpl : (backTo pos (starEach es X.env)).any (·.1) = false := by rfl) : PE X (.Call (.Name "min" p) (e :: es) [] pos) (tE X.K cl W (mCallF fMin r)) := k_callB (c_min c.calm c.hu) hg z boot_min ha (by decide) (by decide) he hpl
theorem q_int (z : X.mg "int" = none) (ha : PA X (e :: es) (tA X.K cl W r)) (hg : Gl X "int" := by rfl) (he : starEach (e :: es) X.env = (false, eval e X.env) :: starEach es X.env := by rfl) (hpl : (backTo pos (starEach es X.env)).any (·.1) = false := by rfl) : PE X (.Call (.Name "int" p) (e :: es) [] pos) (tE X.K cl W (mCallF fInt r)) := k_callTy c_int hg z boot_int ha (by decide) (by decide) he hpl
theorem q_str (z : X.mg "str" = none) (ha : PA X (e :: es) (tA X.K cl W r)) (hg : Gl X "str" := by rfl) (he : starEach (e :: es) X.env = (false, eval e X.env) :: starEach es X.env := by rfl) (hpl : (backTo pos (starEach es X.env)).any (·.1) = false := by rfl) : PE X (.Call (.Name "str" p) (e :: es) [] pos) (tE X.K cl W (mCallF fStr r)) := k_callTy c_str hg z boot_str ha (by decide) (by decide) he hpl
theorem q_tuple (z : X.mg "tuple" = none) (ha : PA X (e :: es) (tA X.K cl W r)) (hg : Gl X "tuple" := by rfl) (he : starEach (e :: es) X.env = (false, eval e X.env) :: starEach es X.env := by rfl) (hpl : (backTo pos (starEach es X.env)).any (·.1) = false := by rfl) : PE X (.Call (.Name "tuple" p) (e :: es) [] pos) (tE X.K cl W (mCallF fTuple r)) := k_callTy c_tuple hg z boot_tuple ha (by decide) (by decide) he hpl
theorem bootTy (ty : String) (h : ty ∈ ["int", "bool", "str", "tuple", "list", "dict"]) : bootBuiltins (Str.ofString ty) = some (.type ty) := by
  simp only [List.mem_cons, List.not_mem_nil, or_false] at h
  rcases h with rfl | rfl | rfl | rfl | rfl | rfl
  · exact boot_int
  · exact boot_bool
  · exact boot_str
  · exact boot_tuple
  · exact boot_list
  · exact boot_dict
theorem q_isi (ty : String) (he : PE X e (tE X.K cl W m)) (z : X.mg "isinstance" = none) (z2 : X.mg (Str.ofString ty) = none) (hty : ty ∈ ["int", "bool", "str", "tuple", "list", "dict"] := by decide) (hg : Gl X "isinstance" := by rfl) (hg2 : Gl X (Str.ofString ty) := by rfl)
    (hn2 : (Str.ofString ty) ≠ "__name__" := by decide) (hdb2 : (Str.ofString ty == ("__debug__" : Str)) = false := by decide)
    (hst : starEach [e, .Name (Str.ofString ty) p2] X.env = (false, eval e X.env) :: starEach [.Name (Str.ofString ty) p2] X.env := by rfl) (hst2 : starEach [.Name (Str.ofString ty) p2] X.env = (false, eval (.Name (Str.ofString ty) p2) X.env) :: starEach [] X.env := by rfl) (hpl : (backTo pos (starEach [.Name (Str.ofString ty) p2] X.env)).any (·.1) = false := by rfl) :
    PE X (.Call (.Name "isinstance" p) [e, .Name (Str.ofString ty) p2] [] pos) (tE X.K cl W (mUn (fIsi ty) m)) := k_isi hty he hg z hg2 z2 (bootTy ty hty) boot_isinstance hn2 hdb2 hst hst2 hpl
theorem q_glob {x : Str} {t : T} {v : V} {u : Value} (hm : X.mg x = some u) (rv : RelV v u) (r : ∀ ω, Rep X.K ω t v) (hg : Gl X x := by rfl) (hd : (x == ("__debug__" : Str)) = false := by decide) : PE X (.Name x pos) (tE X.K cl W (mC t)) := k_const (pe_glob hg hm rv hd) r
end
def Con (K : PySem.W.Frag) (mg : Str → Option Value) (x : Str) (t : T) : Prop := ∃ v u, mg x = some u ∧ RelV v u ∧ ∀ ω, Rep K ω t v
theorem q_con {X : Cx} {W : WX} {cl : Nat → Addr} {x : Str} {t : T} {pos : Pos} (h : Con X.K X.mg x t) (hg : Gl X x := by rfl) (hd : (x == ("__debug__" : Str)) = false := by decide) : PE X (.Name x pos) (tE X.K cl W (mC t)) := by
  obtain ⟨v, u, a, b, c⟩ := h
  exact q_glob a b c hg hd
theorem con_ints {K : PySem.W.Frag} {mg : Str → Option Value} {x : Str} {ns : List Int} (hm : mg x = some (.ref (He.ga K x))) (h : He.tupB K x (ns.map He.Dv.int) = true) : Con K mg x (.tup (ns.map T.int)) := by
  refine ⟨.ref (He.ga K x), _, hm, rfl, fun ω => ?_⟩
  simp only [Rep]
  refine ⟨_, _, rfl, He.tupB_ok h ω.Phi, ?_⟩
  clear h
  induction ns with
  | nil => exact Reps.nil
  | cons n r ih => exact Reps.cons rep_int ih
theorem con_int {K : PySem.W.Frag} {mg : Str → Option Value} {x : Str} {i : Int} (h : ∃ t, mg x = some (.int i t)) : Con K mg x (.int i) := by
  obtain ⟨t, h⟩ := h
  exact ⟨.int i, _, h, ⟨t, rfl⟩, fun ω => rep_int⟩
theorem con_str {K : PySem.W.Frag} {mg : Str → Option Value} {x z : Str} (h : ∃ t, mg x = some (.str z t)) : Con K mg x (.str z) := by
  obtain ⟨t, h⟩ := h
  exact ⟨.str z, _, h, ⟨t, rfl⟩, fun ω => rep_str⟩
def fNeg : F1
  | .int i, _ => some (.int (-i))
  | _, _ => none
section
variable {X : Cx} {cl : Nat → Addr} {W : WX} {e : Expr} {m : M T} {mb : M Bool} {pos : Pos}
theorem q_neg (he : PE X e (tE X.K cl W m)) : PE X (.UnaryOp .USub e pos) (tE X.K cl W (mUn fNeg m)) := by
  refine (pe_un un_neg he).weak fun σ H Q ⟨env, h, ω, he, hs, q⟩ => ⟨env, h, ω, he, hs, (PostG.bind q).mono fun t h1 ω1 H1 N1 S1 q1 v r => ?_⟩
  obtain ⟨u, e1, q2⟩ := q1.ofO
  cases t with
  | int i =>
    cases e1
    exact ⟨i, r.int_inv, q2 ω1 H1 (Nx.refl _ _) S1 _ rep_int⟩
  | _ => cases e1
theorem kts_nil : PTs X [] (tT X.K cl W mYes) := ⟨fun pins s σ H Q I ⟨env, h, ω, _, S, q⟩ => pts_nil.run pins s σ H Q I (q ω H (Nx.refl _ _) S)⟩
theorem kts_one (h : PT X e (tT X.K cl W mb)) : PTs X [e] (tT X.K cl W mb) := pts_one h
end
end Sm
namespace Sm
open PySem PySem.Spec PyProof.Rows L2
def Out.wp {α : Type} (o : Out α) (Q : α → Store → Prop) (X : Ex → Store → Prop) : Prop := match o with
  | .ok a h => Q a h
  | .ex e h => X e h
  | .bad => False
structure Pst where
  nx : Env' → Store → Prop
  rt : T → Store → Prop
  bk : Env' → Store → Prop
  ct : Env' → Store → Prop
  ex : Ex → Env' → Store → Prop
def SO.wp (o : SO) (P : Pst) : Prop := match o with
  | .nx e h => P.nx e h
  | .rt t h => P.rt t h
  | .bk e h => P.bk e h
  | .ct e h => P.ct e h
  | .ex x e h => P.ex x e h
  | .bad => False
section
variable {α β : Type} {Q : α → Store → Prop} {X : Ex → Store → Prop} {P : Pst} {env : Env'} {h : Store}
@[simp] theorem wp_ok {a : α} : (Out.ok a h).wp Q X = Q a h := rfl
@[simp] theorem wp_ex {e : Ex} : (Out.ex e h : Out α).wp Q X = X e h := rfl
@[simp] theorem wp_bad : (Out.bad : Out α).wp Q X = False := rfl
theorem wp_bind {o : Out β} {k : β → Store → Out α} : (o.bind k).wp Q X = o.wp (fun a h => (k a h).wp Q X) X := by cases o <;> rfl
@[simp] theorem so_nx : (SO.nx env h).wp P = P.nx env h := rfl
@[simp] theorem so_rt {t : T} : (SO.rt t h).wp P = P.rt t h := rfl
@[simp] theorem so_bk : (SO.bk env h).wp P = P.bk env h := rfl
@[simp] theorem so_ct : (SO.ct env h).wp P = P.ct env h := rfl
@[simp] theorem so_ex {e : Ex} : (SO.ex e env h).wp P = P.ex e env h := rfl
@[simp] theorem so_bad : SO.bad.wp P = False := rfl
theorem so_seq {o : SO} {k : MS} : (o.seq k).wp P = o.wp { P with nx := fun e h => (k e h).wp P } := by cases o <;> rfl
theorem so_bindE {o : Out β} {k : β → Store → SO} : (bindE o env k).wp P = o.wp (fun a h => (k a h).wp P) (fun e h => P.ex e env h) := by cases o <;> rfl
theorem Out.wp_mono {o : Out α} {Q' : α → Store → Prop} {X' : Ex → Store → Prop} (q : o.wp Q X) (f : ∀ a h, Q a h → Q' a h) (g : ∀ e h, X e h → X' e h) : o.wp Q' X' := by
  cases o with
  | ok a h => exact f a h q
  | ex e h => exact g e h q
  | bad => exact q
theorem Out.wp_eq {o : Out α} {a : α} (q : o.wp (fun b h' => b = a ∧ h' = h) (fun _ _ => False)) : o = .ok a h := by
  cases o with
  | ok b h' => obtain ⟨rfl, rfl⟩ := q; rfl
  | ex e h' => exact q.elim
  | bad => exact q.elim
theorem Out.wp_eq' {o : Out α} {a : α} {h1 : Store} (q : o.wp (fun b h' => b = a ∧ h' = h1) (fun _ _ => False)) : o = .ok a h1 := by
  cases o with
  | ok b h' => obtain ⟨rfl, rfl⟩ := q; rfl
  | ex e h' => exact q.elim
  | bad => exact q.elim
theorem SO.wp_mono {o : SO} {P' : Pst} (q : o.wp P) (n : ∀ e h, P.nx e h → P'.nx e h) (r : ∀ t h, P.rt t h → P'.rt t h) (b : ∀ e h, P.bk e h → P'.bk e h) (c : ∀ e h, P.ct e h → P'.ct e h) (x : ∀ z e h, P.ex z e h → P'.ex z e h) : o.wp P' := by
  cases o with
  | nx e h => exact n e h q
  | rt t h => exact r t h q
  | bk e h => exact b e h q
  | ct e h => exact c e h q
  | ex z e h => exact x z e h q
  | bad => exact q
@[simp] theorem wp_ite {c : Prop} [Decidable c] {a : T} {Q : T → Store → Prop} : (Out.ofO (if c then some a else none) h).wp Q X = (c ∧ Q a h) := by
  by_cases k : c
  · rw [if_pos k, eq_true k]; simp
  · rw [if_neg k, eq_false k]; simp [Out.wp, Out.ofO]
@[simp] theorem wp_iteB {c : Prop} [Decidable c] {o : Out α} : (if c then o else Out.bad).wp Q X = (c ∧ o.wp Q X) := by
  by_cases k : c
  · rw [if_pos k, eq_true k, true_and]
  · rw [if_neg k, eq_false k, false_and]; rfl
@[simp] theorem so_iteB {c : Prop} [Decidable c] {o : SO} : (if c then o else SO.bad).wp P = (c ∧ o.wp P) := by
  by_cases k : c
  · rw [if_pos k, eq_true k, true_and]
  · rw [if_neg k, eq_false k, false_and]; rfl
theorem forLoop_wp {gs : List (Nat × List T)} {tg : Tgt} {kill : List Nat} {body : MS} (items : List T) (I : Nat → Env' → Store → Prop)
    (step : ∀ i x env h, items[i]? = some x → I i env h → gsOk h gs ∧ ∃ env1, bindT tg x env = some env1 ∧
      (body env1 h).wp { nx := fun e h => I (i + 1) (dropE kill e) h, ct := fun e h => I (i + 1) (dropE kill e) h, bk := P.nx, rt := P.rt, ex := P.ex })
    (last : ∀ env h, I items.length env h → gsOk h gs ∧ P.nx env h) (h0 : I 0 env h) : (forLoop gs tg kill body items env h).wp P := by
  have key : ∀ (r : List T) (i : Nat) (env : Env') (h : Store), items.drop i = r → i ≤ items.length → I i env h → (forLoop gs tg kill body r env h).wp P := by
    intro r
    induction r with
    | nil =>
      intro i env h e hi hI
      have hl : i = items.length := by
        have := congrArg List.length e
        rw [List.length_drop] at this
        simp at this
        omega
      subst hl
      obtain ⟨g, p⟩ := last env h hI
      unfold forLoop
      rw [if_pos g]
      exact p
    | cons x r ih =>
      intro i env h e hi hI
      have hx : items[i]? = some x := by
        have := congrArg (·[0]?) e
        simpa using this
      have hlt : i < items.length := (List.getElem?_eq_some_iff.mp hx).1
      obtain ⟨g, env1, b1, w⟩ := step i x env h hx hI
      have er : items.drop (i + 1) = r := by
        rw [← List.drop_drop, e]
        rfl
      unfold forLoop
      rw [if_pos g, b1]
      show SO.wp (match body env1 h with
        | .nx env2 h2 => forLoop gs tg kill body r (dropE kill env2) h2
        | .ct env2 h2 => forLoop gs tg kill body r (dropE kill env2) h2
        | .bk env2 h2 => .nx env2 h2
        | o => o) P
      revert w
      cases body env1 h with
      | nx e2 h2 => exact fun w => ih (i + 1) _ _ er hlt w
      | ct e2 h2 => exact fun w => ih (i + 1) _ _ er hlt w
      | bk e2 h2 => exact fun w => w
      | rt t h2 => exact fun w => w
      | ex z e2 h2 => exact fun w => w
      | bad => exact fun w => w
  exact key items 0 env h rfl (Nat.zero_le _) h0
theorem compLoop_wp {Q : List T → Store → Prop} {gs : List (Nat × List T)} {tg : Tgt} {tt : M Bool} {me : M T} (items : List T) (I : Nat → List T → Store → Prop)
    (step : ∀ i x acc h, items[i]? = some x → acc.length ≤ i → I i acc h → gsOk h gs ∧ ∃ env1, bindT tg x env = some env1 ∧ (tt env1 h).wp (fun b h1 => if b = true then (me env1 h1).wp (fun y h2 => I (i + 1) (acc ++ [y]) h2) (fun _ _ => False) else I (i + 1) acc h1) (fun _ _ => False))
    (last : ∀ acc h, I items.length acc h → gsOk h gs ∧ Q acc h) (hn : items.length ≤ 100000) (h0 : I 0 [] h) : (compLoop gs tg tt me env items [] h).wp Q X := by
  have key : ∀ (r : List T) (i : Nat) (acc : List T) (h : Store), items.drop i = r → i ≤ items.length → acc.length ≤ i → I i acc h → (compLoop gs tg tt me env r acc h).wp Q X := by
    intro r
    induction r with
    | nil =>
      intro i acc h e hi _ hI
      have hl : i = items.length := by
        have := congrArg List.length e
        rw [List.length_drop] at this
        simp at this
        omega
      subst hl
      obtain ⟨g, p⟩ := last acc h hI
      unfold compLoop
      rw [if_pos g]
      exact p
    | cons x r ih =>
      intro i acc h e hi ha hI
      have hx : items[i]? = some x := by
        have := congrArg (·[0]?) e
        simpa using this
      have hlt : i < items.length := (List.getElem?_eq_some_iff.mp hx).1
      obtain ⟨g, env1, b1, w⟩ := step i x acc h hx ha hI
      have er : items.drop (i + 1) = r := by
        rw [← List.drop_drop, e]
        rfl
      unfold compLoop
      rw [if_pos g, b1]
      show ((tt env1 h).bindN _).wp Q X
      revert w
      cases tt env1 h with
      | bad => exact fun w => w.elim
      | ex z h1 => exact fun w => w.elim
      | ok b h1 =>
        intro w
        have w : if b = true then (me env1 h1).wp (fun y h2 => I (i + 1) (acc ++ [y]) h2) (fun _ _ => False) else I (i + 1) acc h1 := w
        show Out.wp (if b = true then _ else _) Q X
        cases b with
        | false =>
          rw [if_neg Bool.false_ne_true] at w ⊢
          exact ih (i + 1) acc h1 er hlt (by omega) w
        | true =>
          rw [if_pos rfl] at w ⊢
          revert w
          cases me env1 h1 with
          | bad => exact fun w => w.elim
          | ex z h2 => exact fun w => w.elim
          | ok y h2 =>
            intro w
            show Out.wp (if acc.length < 100000 then _ else _) Q X
            rw [if_pos (by omega)]
            exact ih (i + 1) (acc ++ [y]) h2 er hlt (by rw [List.length_append]; simp; omega) w
  exact key items 0 [] h rfl (Nat.zero_le _) (Nat.le_refl _) h0
theorem compLoop_pure {gs : List (Nat × List T)} {tg : Tgt} {tt : M Bool} {me : M T} (items : List T) (p : T → Bool) (f : T → T) (g : gsOk h gs) (hn : items.length ≤ 100000)
    (el : ∀ x ∈ items, ∃ env1, bindT tg x env = some env1 ∧ tt env1 h = .ok (p x) h ∧ (p x = true → me env1 h = .ok (f x) h)) : compLoop gs tg tt me env items [] h = .ok ((items.filter p).map f) h := by
  have key : ∀ (r acc : List T), (∀ x ∈ r, ∃ env1, bindT tg x env = some env1 ∧ tt env1 h = .ok (p x) h ∧ (p x = true → me env1 h = .ok (f x) h)) → acc.length + r.length ≤ 100000 → compLoop gs tg tt me env r acc h = .ok (acc ++ (r.filter p).map f) h := by
    intro r
    induction r with
    | nil =>
      intro acc _ _
      unfold compLoop
      rw [if_pos g]
      simp
    | cons x r ih =>
      intro acc hel hl
      rw [List.length_cons] at hl
      obtain ⟨env1, b1, t1, m1⟩ := hel x (List.mem_cons_self ..)
      unfold compLoop
      rw [if_pos g, b1]
      show (tt env1 h).bindN _ = _
      rw [t1, bindN_ok]
      cases hp : p x with
      | false =>
        rw [if_neg Bool.false_ne_true, ih acc (fun y hy => hel y (List.mem_cons_of_mem _ hy)) (by omega), List.filter_cons_of_neg (by rw [hp]; exact Bool.false_ne_true)]
      | true =>
        rw [if_pos rfl, m1 hp, bindN_ok, if_pos (by omega), ih (acc ++ [f x]) (fun y hy => hel y (List.mem_cons_of_mem _ hy)) (by rw [List.length_append]; simp; omega), List.filter_cons_of_pos hp]
        simp
  have := key items [] el (by simpa using hn)
  simpa using this
def fnP (h : Store) (Q : T → Store → Prop) (X : Ex → Store → Prop) : Pst where
  nx _ h' := sameIns h h' ∧ Q .non (h'.take h.length)
  rt t h' := sameIns h h' ∧ ((t.pu = true ∧ Q t (h'.take h.length)) ∨ (t.pu = false ∧ ∃ t', frz h.length h' t = some t' ∧ Q t' (h'.take h.length)))
  bk _ _ := False
  ct _ _ := False
  ex e _ h' := sameIns h h' ∧ e.pu = true ∧ X e (h'.take h.length)
def fnK (Q : T → Store → Prop) (X : Ex → Store → Prop) : Pst where
  nx _ h' := Q .non h'
  rt t h' := Q t h'
  bk _ _ := False
  ct _ _ := False
  ex e _ h' := X e h'
theorem retF_wp {Q : T → Store → Prop} {h h' : Store} {t : T} (s : sameIns h h') (q : (t.pu = true ∧ Q t (h'.take h.length)) ∨ (t.pu = false ∧ ∃ t', frz h.length h' t = some t' ∧ Q t' (h'.take h.length))) : (retF h t h').wp Q X := by
  unfold retF
  rw [if_pos s]
  obtain ⟨a, b⟩ | ⟨a, t', b, c⟩ := q
  · rw [if_pos a]
    exact b
  · rw [if_neg (by rw [a]; exact Bool.false_ne_true), b]
    exact c
theorem fn_wp {Q : T → Store → Prop} {n k : Nat} {body : MS} {ts : List T} (hl : ts.length = n) (w : (body (startE k ts) h).wp (fnP h Q X)) : (fn n k false body ts h).wp Q X := by
  unfold fn
  rw [if_pos hl]
  revert w
  cases body (startE k ts) h with
  | bad => exact fun w => w
  | bk e h' => exact fun w => w
  | ct e h' => exact fun w => w
  | nx e h' => exact fun ⟨s, q⟩ => retF_wp s (.inl ⟨rfl, q⟩)
  | rt t h' => exact fun ⟨s, q⟩ => retF_wp s q
  | ex e e' h' =>
    intro ⟨s, p, q⟩
    show Out.wp (if _ then _ else _) Q X
    rw [if_pos ⟨s, p⟩]
    exact q
theorem fnK_wp {Q : T → Store → Prop} {n k : Nat} {body : MS} {ts : List T} (hl : ts.length = n) (w : (body (startE k ts) h).wp (fnK Q X)) : (fn n k true body ts h).wp Q X := by
  unfold fn
  rw [if_pos hl]
  revert w
  cases body (startE k ts) h with
  | bad => exact fun w => w
  | bk e h' => exact fun w => w
  | ct e h' => exact fun w => w
  | nx e h' => exact fun w => w
  | rt t h' => exact fun w => w
  | ex e e' h' => exact fun w => w
end
section
variable {h h' : Store} {n : Nat}
theorem si_refl : sameIns h h := fun _ _ _ _ e => e
theorem si_app (l : Store) (a : sameIns h h') (hl : h'.length = h.length) : sameIns h (h' ++ l) := fun i c fs hi e => a i c fs hi (by rwa [List.getElem?_append_left (by omega)] at e)
theorem si_set {xs : List T} (a : sameIns h h') : sameIns h (h'.set n (.lst xs)) := fun i c fs hi e => by
  by_cases hn : n = i
  · subst hn
    rw [List.getElem?_set_self' ] at e
    cases hh : h'[n]? with
    | none => rw [hh] at e; cases e
    | some z => rw [hh] at e; cases e
  · rw [List.getElem?_set_ne hn] at e
    exact a i c fs hi e
def potAt (h : Store) (n : Nat) (v : Int) : Prop := h[n]? = some (.lst [.int v]) ∧ 0 ≤ v
theorem potAt.lt {v : Int} (p : potAt h n v) : n < h.length := (List.getElem?_eq_some_iff.mp p.1).1
theorem potAt.set {v w : Int} (p : potAt h n v) (hw : 0 ≤ w) : potAt (h.set n (.lst [.int w])) n w := ⟨List.getElem?_set_self p.lt, hw⟩
theorem potAt.app {v : Int} (p : potAt h n v) (l : Store) : potAt (h ++ l) n v := ⟨by rw [List.getElem?_append_left p.lt]; exact p.1, p.2⟩
end
section
variable {α : Type} {ts : List α}
theorem ixN_p {n : Nat} {i : Int} (h : 0 ≤ i) (hn : i < n) : ixN n i = some i.toNat := by
  unfold ixN
  simp [h, hn]
theorem atI_p {i : Int} (h : 0 ≤ i) (hn : i < ts.length) : atI ts i = ts[i.toNat]? := by
  unfold atI
  rw [ixN_p h hn]
  rfl
@[simp] theorem atI_0 {x : α} : atI (x :: ts) 0 = some x := by rw [atI_p (by decide) (by simp only [List.length_cons]; omega)]; rfl
@[simp] theorem atI_1 {x y : α} : atI (x :: y :: ts) 1 = some y := by rw [atI_p (by decide) (by simp only [List.length_cons]; omega)]; rfl
@[simp] theorem atI_2 {x y z : α} : atI (x :: y :: z :: ts) 2 = some z := by rw [atI_p (by decide) (by simp only [List.length_cons]; omega)]; rfl
@[simp] theorem atI_3 {x y z w : α} : atI (x :: y :: z :: w :: ts) 3 = some w := by rw [atI_p (by decide) (by simp only [List.length_cons]; omega)]; rfl
end
theorem mulB_r {i j : Int} (h : j.natAbs < 2 ^ 64) : mulB i j = true := by
  have : Builtin.Int.intBits j ≤ 64 := by
    unfold Builtin.Int.intBits
    split
    · omega
    · rename_i z
      have z' : j.natAbs ≠ 0 := by
        intro e
        apply z
        simp [Int.natAbs_eq_zero.mp e]
      have := (Nat.log2_lt z').mpr h
      omega
  unfold mulB
  have e : decide (Builtin.Int.intBits j > shortFactorBits) = false := by
    apply decide_eq_false
    show ¬ _ > 64
    omega
  rw [e, Bool.and_false, Bool.false_and]
  rfl
theorem divB_s {j : Int} (h0 : j ≠ 0) (h : j.natAbs < 2 ^ 64) : divB j = true := by
  unfold divB
  have z' : j.natAbs ≠ 0 := by omega
  have := (Nat.log2_lt z').mpr h
  rw [decide_eq_true h0, decide_eq_true (by omega)]
  rfl
theorem fdiv_p {i j : Int} (h : 0 ≤ j) : i.fdiv j = i / j := Int.fdiv_eq_ediv_of_nonneg i h
theorem fmod_p {i j : Int} (h : 0 ≤ j) : i.fmod j = i % j := Int.fmod_eq_emod_of_nonneg i h
end Sm
namespace Sm
open PySem PySem.Spec PyProof.Rows L2
section
variable {env : Env'} {h : Store} {m n p : M T} {r : M (List T)} {c d : M Bool} {a b : MS} {i j : Nat} {f : F2} {g : FA}
@[simp] theorem q1_var : mVar i env h = match env[i]? with
  | some (some t) => .ok t h
  | _ => .bad := rfl
@[simp] theorem q1_C {t : T} : mC t env h = .ok t h := rfl
@[simp] theorem q1_bin : mBin f m n env h = (m env h).bind fun a h1 => (n env h1).bind fun b h2 => Out.ofO (f a b h2) h2 := rfl
@[simp] theorem q1_un {f : F1} : mUn f m env h = (m env h).bind fun a h1 => Out.ofO (f a h1) h1 := rfl
def asB : T → Store → Out Bool
  | .bl b, h => .ok b h
  | _, _ => .bad
@[simp] theorem asB_bl {b : Bool} : asB (.bl b) h = .ok b h := rfl
@[simp] theorem q1_tst : mTst m env h = (m env h).bind asB := by
  unfold mTst
  cases m env h with
  | ok t h1 => cases t <;> rfl
  | _ => rfl
@[simp] theorem q1_tru : mTru m env h = (m env h).bind fun a h1 => Out.ofO (truF a h1) h1 := rfl
@[simp] theorem q1_andT : mAndT c d env h = (c env h).bind fun a h1 => if a = true then d env h1 else .ok false h1 := rfl
@[simp] theorem q1_orT : mOrT c d env h = (c env h).bind fun a h1 => if a = true then .ok true h1 else d env h1 := rfl
@[simp] theorem q1_notT : mNotT c env h = (c env h).bind fun a h1 => .ok (!a) h1 := rfl
@[simp] theorem q1_andV : mAndV m n env h = ((m env h).bind asB).bind fun a h1 => if a = true then n env h1 else .ok (.bl false) h1 := by
  unfold mAndV
  cases m env h with
  | ok t h1 => cases t <;> rfl
  | _ => rfl
@[simp] theorem q1_orV : mOrV m n env h = ((m env h).bind asB).bind fun a h1 => if a = true then .ok (.bl true) h1 else n env h1 := by
  unfold mOrV
  cases m env h with
  | ok t h1 => cases t <;> rfl
  | _ => rfl
@[simp] theorem q1_notV : mNotV m env h = ((m env h).bind asB).bind fun a h1 => .ok (.bl (!a)) h1 := by
  unfold mNotV
  cases m env h with
  | ok t h1 => cases t <;> rfl
  | _ => rfl
@[simp] theorem q1_if : mIf c m n env h = (c env h).bind fun a h1 => if a = true then m env h1 else n env h1 := rfl
@[simp] theorem q1_chain {g : F2} : mChain f g m n p env h = (m env h).bind fun a h1 => (n env h1).bind fun b h2 => ((Out.ofO (f a b h2) h2).bind asB).bind fun c h3 => if c = true then (p env h3).bind fun d h4 => Out.ofO (g b d h4) h4 else .ok (.bl false) h3 := by
  unfold mChain
  congr 1
  funext a h1
  congr 1
  funext b h2
  cases Out.ofO (f a b h2) h2 with
  | ok t h1 => cases t <;> rfl
  | _ => rfl
@[simp] theorem q1_nil : mNil env h = .ok [] h := rfl
@[simp] theorem q1_cons : mCons m r env h = (m env h).bind fun a h1 => (r env h1).bind fun as h2 => .ok (a :: as) h2 := rfl
@[simp] theorem q1_tup : mTup r env h = (r env h).bind fun ts h1 => if ts.length ≤ 10000 then .ok (.tup ts) h1 else .bad := rfl
@[simp] theorem q1_lst : mLst r env h = (r env h).bind fun ts h1 => if ts.length ≤ 10000 then .ok ts h1 else .bad := rfl
@[simp] theorem q1_frz : mFrz r env h = (r env h).bind fun ts h1 => .ok (.lst ts) h1 := rfl
@[simp] theorem q1_cell : mCell r env h = (r env h).bind fun ts h1 => if pus ts = true then .ok (.loc h1.length) (h1 ++ [.lst ts]) else .bad := rfl
@[simp] theorem q1_new2 {f : T → T → Store → Option (List T)} : mNew2 f m n env h = (m env h).bind fun a h1 => (n env h1).bind fun b h2 => Out.ofO (f a b h2) h2 := rfl
@[simp] theorem q1_newA {f : List T → Store → Option (List T)} : mNewA f r env h = (r env h).bind fun as h1 => Out.ofO (f as h1) h1 := rfl
@[simp] theorem q1_callF : mCallF g r env h = (r env h).bind fun as h1 => Out.ofO (g as h1) h1 := rfl
@[simp] theorem q1_call {F : Fn} : mCall F r env h = (r env h).bind fun as h1 => F as h1 := rfl
@[simp] theorem q1_meth {f : FM} : mMethL f m r env h = (m env h).bind fun a h1 => match lstOf h1 a with
  | some _ => (r env h1).bind fun as h2 => outM (f a as h2)
  | none => .bad := rfl
@[simp] theorem q1_sl {lo hi : M (Option Int)} : mSl m lo hi env h = (m env h).bind fun a h1 => (lo env h1).bind fun l h2 => (hi env h2).bind fun u h3 => Out.ofO (fSl a l u h3) h3 := rfl
@[simp] theorem q1_part0 : mPart none env h = .ok none h := rfl
def asI : T → Store → Out (Option Int)
  | .int b, h => .ok (some b) h
  | _, _ => .bad
@[simp] theorem asI_int {b : Int} : asI (.int b) h = .ok (some b) h := rfl
@[simp] theorem q1_part1 : mPart (some m) env h = (m env h).bind asI := by
  show (m env h).bind _ = _
  cases m env h with
  | ok t h1 => cases t <;> rfl
  | _ => rfl
@[simp] theorem q1_yes : mYes env h = .ok true h := rfl
def asR1 : List T → Store → Out Src
  | [.int j], h => if j < 1000000 ∧ -1000000 < j then .ok ⟨rangeT 0 j.toNat, []⟩ h else .bad
  | _, _ => .bad
def asR2 : List T → Store → Out Src
  | [.int i, .int j], h => if i < 1000000 ∧ -1000000 < i ∧ j < 1000000 ∧ -1000000 < j then .ok ⟨rangeT i (j - i).toNat, []⟩ h else .bad
  | _, _ => .bad
@[simp] theorem q1_range1 : mRange1 r env h = (r env h).bind asR1 := by
  unfold mRange1
  congr 1
  funext as h1
  rcases as with _ | ⟨a, _ | ⟨b, l⟩⟩
  · rfl
  · cases a <;> rfl
  · cases a <;> rfl
@[simp] theorem q1_range2 : mRange2 r env h = (r env h).bind asR2 := by
  unfold mRange2
  congr 1
  funext as h1
  rcases as with _ | ⟨a, _ | ⟨b, _ | ⟨c, l⟩⟩⟩
  · rfl
  · cases a <;> rfl
  · cases a <;> cases b <;> rfl
  · cases a <;> cases b <;> rfl
theorem asR1_ok {k : Int} (a : k < 1000000) (b : -1000000 < k) : asR1 [.int k] h = .ok ⟨rangeT 0 k.toNat, []⟩ h := if_pos ⟨a, b⟩
theorem asR2_ok {k l : Int} (a : k < 1000000) (b : -1000000 < k) (c : l < 1000000) (d : -1000000 < l) : asR2 [.int k, .int l] h = .ok ⟨rangeT k (l - k).toNat, []⟩ h := if_pos ⟨a, b, c, d⟩
def asS : T → Store → Out Src
  | .str z, h => .ok ⟨z.cps.toList.map fun c => .str ⟨#[c]⟩, []⟩ h
  | t, h => match seqK h t with
    | some (_, xs) => .ok ⟨xs, gdOf h t⟩ h
    | none => .bad
@[simp] theorem q1_seqS : mSeq m env h = (m env h).bind asS := by
  unfold mSeq
  cases m env h with
  | ok t h1 => cases t <;> rfl
  | _ => rfl
@[simp] theorem asS_tup {xs : List T} : asS (.tup xs) h = .ok ⟨xs, []⟩ h := rfl
@[simp] theorem asS_lst {xs : List T} : asS (.lst xs) h = .ok ⟨xs, []⟩ h := rfl
@[simp] theorem q2_nil : sNil env h = .nx env h := rfl
@[simp] theorem q2_seq : sSeq a b env h = (a env h).seq b := rfl
@[simp] theorem q2_ret : sRet m env h = bindE (m env h) env fun t h1 => .rt t h1 := rfl
@[simp] theorem q2_retN : sRetN env h = .rt .non h := rfl
@[simp] theorem q2_exp : sExp m env h = bindE (m env h) env fun _ h1 => .nx env h1 := rfl
@[simp] theorem q2_if : sIf c a b env h = bindE (c env h) env fun k h1 => if k = true then a env h1 else b env h1 := rfl
@[simp] theorem q2_set : sSet i m env h = bindE (m env h) env fun t h1 => .nx (env.set i (some t)) h1 := rfl
@[simp] theorem q2_asg {g : Tgt} : sAsg g m env h = bindE (m env h) env fun t h1 => match bindT g t env with
  | some env1 => .nx env1 h1
  | none => .bad := rfl
@[simp] theorem q2_par : sPar i j m n env h = bindE (m env h) env fun t h1 => bindE (n env h1) env fun u h2 => .nx ((env.set i (some t)).set j (some u)) h2 := rfl
@[simp] theorem q2_brk : sBreak env h = .bk env h := rfl
@[simp] theorem q2_cnt : sCont env h = .ct env h := rfl
def setC (h : Store) (n : Nat) (k : Int) (v : T) (env : Env') : SO := match cellL h n with
  | some xs => match ixN xs.length k with
    | some j => if v.pu = true then .nx env (h.set n (.lst (xs.set j v))) else .bad
    | none => .bad
  | none => .bad
def asLK : T → T → (Nat → Int → SO) → SO
  | .loc n, .int k, q => q n k
  | _, _, _ => .bad
@[simp] theorem asLK_ok {n : Nat} {k : Int} {q : Nat → Int → SO} : asLK (.loc n) (.int k) q = q n k := rfl
@[simp] theorem q2_item {mo mi : M T} : sItem m mo mi env h = bindE (m env h) env fun v h1 => bindE (mo env h1) env fun a h2 => bindE (mi env h2) env fun i h3 => asLK a i fun n k => setC h3 n k v env := by
  unfold sItem
  congr 1
  funext v h1
  congr 1
  funext a h2
  congr 1
  funext i h3
  cases a <;> cases i <;> rfl
theorem setC_ok {n : Nat} {k : Int} {v : T} {xs : List T} (e : h[n]? = some (.lst xs)) (h0 : 0 ≤ k) (h1 : k < xs.length) (hv : v.pu = true) : setC h n k v env = .nx env (h.set n (.lst (xs.set k.toNat v))) := by
  unfold setC cellL
  rw [e]
  simp [ixN_p h0 h1, hv]
end
section
variable {x y : Int} {h : Store} {s t : T} {b : Bool}
@[simp] theorem q3_add : fAdd (.int x) (.int y) h = some (.int (x + y)) := rfl
@[simp] theorem q3_sub : fSub (.int x) (.int y) h = some (.int (x - y)) := rfl
@[simp] theorem q3_mul : fMul (.int x) (.int y) h = if mulB x y = true then some (.int (x * y)) else none := rfl
@[simp] theorem q3_fdiv : fFdiv (.int x) (.int y) h = if divB y = true then some (.int (x.fdiv y)) else none := rfl
@[simp] theorem q3_mod : fMod (.int x) (.int y) h = if y ≠ 0 then some (.int (x.fmod y)) else none := rfl
@[simp] theorem q3_neg : fNeg (.int x) h = some (.int (-x)) := rfl
@[simp] theorem q3_lt : fLt (.int x) (.int y) h = some (.bl (decide (x < y))) := rfl
@[simp] theorem q3_le : fLe (.int x) (.int y) h = some (.bl (decide (x ≤ y))) := rfl
@[simp] theorem q3_gt : fGt (.int x) (.int y) h = some (.bl (decide (y < x))) := rfl
@[simp] theorem q3_ge : fGe (.int x) (.int y) h = some (.bl (decide (y ≤ x))) := rfl
@[simp] theorem q3_eq : fEq (.int x) (.int y) h = some (.bl (decide (x = y))) := rfl
@[simp] theorem q3_ne : fNe (.int x) (.int y) h = some (.bl (!decide (x = y))) := rfl
@[simp] theorem q3_eqB {c : Bool} : fEq (.bl b) (.bl c) h = some (.bl (decide (b = c))) := rfl
@[simp] theorem q3_neB {c : Bool} : fNe (.bl b) (.bl c) h = some (.bl (!decide (b = c))) := rfl
@[simp] theorem q3_eqS {z w : Str} : fEq (.str z) (.str w) h = some (.bl (decide (z = w))) := rfl
@[simp] theorem q3_isN : fIs s .non h = some (.bl (isNon s)) := by cases s <;> rfl
@[simp] theorem q3_isnotN : fIsNot s .non h = some (.bl (!isNon s)) := by cases s <;> rfl
@[simp] theorem isNon_non : isNon .non = true := rfl
@[simp] theorem isNon_int : isNon (.int x) = false := rfl
@[simp] theorem isNon_bl : isNon (.bl b) = false := rfl
@[simp] theorem isNon_tup {xs : List T} : isNon (.tup xs) = false := rfl
@[simp] theorem isNon_lst {xs : List T} : isNon (.lst xs) = false := rfl
@[simp] theorem isNon_str {z : Str} : isNon (.str z) = false := rfl
@[simp] theorem isNon_loc {n : Nat} : isNon (.loc n) = false := rfl
@[simp] theorem isi_non_int : fIsi "int" .non h = some (.bl false) := rfl
@[simp] theorem isi_non_bool : fIsi "bool" .non h = some (.bl false) := rfl
@[simp] theorem isi_non_str : fIsi "str" .non h = some (.bl false) := rfl
@[simp] theorem isi_non_tuple : fIsi "tuple" .non h = some (.bl false) := rfl
@[simp] theorem isi_non_list : fIsi "list" .non h = some (.bl false) := rfl
@[simp] theorem isi_non_dict : fIsi "dict" .non h = some (.bl false) := rfl
@[simp] theorem isi_bl_int : fIsi "int" (.bl b) h = some (.bl true) := rfl
@[simp] theorem isi_bl_bool : fIsi "bool" (.bl b) h = some (.bl true) := rfl
@[simp] theorem isi_bl_str : fIsi "str" (.bl b) h = some (.bl false) := rfl
@[simp] theorem isi_bl_tuple : fIsi "tuple" (.bl b) h = some (.bl false) := rfl
@[simp] theorem isi_bl_list : fIsi "list" (.bl b) h = some (.bl false) := rfl
@[simp] theorem isi_bl_dict : fIsi "dict" (.bl b) h = some (.bl false) := rfl
@[simp] theorem isi_int_int : fIsi "int" (.int x) h = some (.bl true) := rfl
@[simp] theorem isi_int_bool : fIsi "bool" (.int x) h = some (.bl false) := rfl
@[simp] theorem isi_int_str : fIsi "str" (.int x) h = some (.bl false) := rfl
@[simp] theorem isi_int_tuple : fIsi "tuple" (.int x) h = some (.bl false) := rfl
@[simp] theorem isi_int_list : fIsi "list" (.int x) h = some (.bl false) := rfl
@[simp] theorem isi_int_dict : fIsi "dict" (.int x) h = some (.bl false) := rfl
@[simp] theorem isi_str_int {z : Str} : fIsi "int" (.str z) h = some (.bl false) := rfl
@[simp] theorem isi_str_bool {z : Str} : fIsi "bool" (.str z) h = some (.bl false) := rfl
@[simp] theorem isi_str_str {z : Str} : fIsi "str" (.str z) h = some (.bl true) := rfl
@[simp] theorem isi_str_tuple {z : Str} : fIsi "tuple" (.str z) h = some (.bl false) := rfl
@[simp] theorem isi_str_list {z : Str} : fIsi "list" (.str z) h = some (.bl false) := rfl
@[simp] theorem isi_str_dict {z : Str} : fIsi "dict" (.str z) h = some (.bl false) := rfl
@[simp] theorem isi_tup_int {xs : List T} : fIsi "int" (.tup xs) h = some (.bl false) := rfl
@[simp] theorem isi_tup_bool {xs : List T} : fIsi "bool" (.tup xs) h = some (.bl false) := rfl
@[simp] theorem isi_tup_str {xs : List T} : fIsi "str" (.tup xs) h = some (.bl false) := rfl
@[simp] theorem isi_tup_tuple {xs : List T} : fIsi "tuple" (.tup xs) h = some (.bl true) := rfl
@[simp] theorem isi_tup_list {xs : List T} : fIsi "list" (.tup xs) h = some (.bl false) := rfl
@[simp] theorem isi_tup_dict {xs : List T} : fIsi "dict" (.tup xs) h = some (.bl false) := rfl
@[simp] theorem isi_lst_int {xs : List T} : fIsi "int" (.lst xs) h = some (.bl false) := rfl
@[simp] theorem isi_lst_bool {xs : List T} : fIsi "bool" (.lst xs) h = some (.bl false) := rfl
@[simp] theorem isi_lst_str {xs : List T} : fIsi "str" (.lst xs) h = some (.bl false) := rfl
@[simp] theorem isi_lst_tuple {xs : List T} : fIsi "tuple" (.lst xs) h = some (.bl false) := rfl
@[simp] theorem isi_lst_list {xs : List T} : fIsi "list" (.lst xs) h = some (.bl true) := rfl
@[simp] theorem isi_lst_dict {xs : List T} : fIsi "dict" (.lst xs) h = some (.bl false) := rfl
@[simp] theorem q3_len {xs : List T} : fLen [.tup xs] h = some (.int xs.length) := rfl
@[simp] theorem q3_lenL {xs : List T} : fLen [.lst xs] h = some (.int xs.length) := rfl
@[simp] theorem q3_lenS {ns : List Int} : fLen [.scr ns] h = some (.int ns.length) := by
  show some (T.int ((ns.map T.int).length : Nat)) = _
  rw [List.length_map]
@[simp] theorem q3_idx {xs : List T} : fIdx (.tup xs) (.int x) h = atI xs x := rfl
@[simp] theorem q3_idxL {xs : List T} : fIdx (.lst xs) (.int x) h = atI xs x := rfl
@[simp] theorem q3_idxS {ns : List Int} : fIdx (.scr ns) (.int x) h = atI (ns.map T.int) x := rfl
theorem q3_idxC {n : Nat} {xs : List T} (e : h[n]? = some (.lst xs)) : fIdx (.loc n) (.int x) h = atI xs x := by
  simp [fIdx, e]
@[simp] theorem q3_int : fInt [.int x] h = some (.int x) := rfl
@[simp] theorem pu_int : (T.int x).pu = true := rfl
@[simp] theorem pu_bl : (T.bl b).pu = true := rfl
@[simp] theorem pu_non : T.non.pu = true := rfl
@[simp] theorem pu_str {z : Str} : (T.str z).pu = true := rfl
@[simp] theorem pu_loc {n : Nat} : (T.loc n).pu = false := rfl
@[simp] theorem pu_tup {xs : List T} : (T.tup xs).pu = pus xs := by simp only [T.pu]
@[simp] theorem pu_lst {xs : List T} : (T.lst xs).pu = pus xs := by simp only [T.pu]
@[simp] theorem pus_nil : pus [] = true := by simp only [pus]
@[simp] theorem pus_cons {xs : List T} : pus (s :: xs) = (s.pu && pus xs) := by simp only [pus]
@[simp] theorem pus_ints {ns : List Int} : pus (ns.map T.int) = true := by induction ns <;> simp_all
theorem pus_iff {xs : List T} : pus xs = true ↔ ∀ x ∈ xs, x.pu = true := by induction xs <;> simp_all
@[simp] theorem b_one {i : Nat} {env : Env'} : bindT (.one i) t env = some (env.set i (some t)) := rfl
@[simp] theorem b_tup {is : List Nat} {ts : List T} {env : Env'} : bindT (.tup is) (.tup ts) env = if ts.length = is.length then some (setT is ts env) else none := rfl
@[simp] theorem drop_nil {env : Env'} : dropE [] env = env := rfl
@[simp] theorem drop_cons {v : Nat} {vs : List Nat} {env : Env'} : dropE (v :: vs) env = (dropE vs env).set v none := rfl
end
section
variable {h l : Store} {n : Nat} {c d : Cell}
@[simp] theorem take_set_self : (h.set n c).take h.length = h.set n c := by
  apply List.take_of_length_le
  rw [List.length_set]
  exact Nat.le_refl _
@[simp] theorem take_set_app : (h.set n c ++ l).take h.length = h.set n c := by
  have e : h.length = (h.set n c).length := List.length_set.symm
  rw [e]
  exact List.take_left
theorem at_end {m : Nat} (e : h.length = m) : (h ++ [c])[m]? = some c := by subst e; simp
theorem set_end {m : Nat} (e : h.length = m) : (h ++ [c]).set m d = h ++ [d] := by subst e; simp
theorem set_old (e : n < h.length) : (h ++ l).set n d = h.set n d ++ l := List.set_append_left _ _ e
theorem si_setR {xs : List T} : sameIns h (h.set n (.lst xs)) := si_set si_refl
theorem si_appR : sameIns h (h ++ l) := si_app l si_refl rfl
theorem si_setA {xs : List T} : sameIns h (h.set n (.lst xs) ++ l) := si_app l si_setR List.length_set
end
def pst (h : Store) (n : Nat) (v : Int) : Store := h.set n (.lst [.int v])
section
variable {h l : Store} {n m : Nat} {v w : Int} {c d : Cell} {env : Env'} {xs ys : List T} {y : T}
@[simp] theorem pst_len : (pst h n v).length = h.length := List.length_set
@[simp] theorem pst_pst : pst (pst h n v) n w = pst h n w := List.set_set ..
theorem pst_app (e : n < h.length) : pst (h ++ l) n w = pst h n w ++ l := set_old e
theorem pst_app2 (e : n < h.length) : pst (pst h n v ++ l) n w = pst h n w ++ l := by rw [pst_app (by rw [pst_len]; exact e), pst_pst]
@[simp] theorem take_pst : (pst h n v).take h.length = pst h n v := take_set_self
@[simp] theorem take_pst_app : (pst h n v ++ l).take h.length = pst h n v := take_set_app
@[simp] theorem si_pst : sameIns h (pst h n v) := si_setR
@[simp] theorem si_pst_app : sameIns h (pst h n v ++ l) := si_setA
@[simp] theorem si_self : sameIns h h := si_refl
@[simp] theorem si_more : sameIns h (h ++ l) := si_appR
theorem potAt.pst (p : potAt h n v) (hw : 0 ≤ w) : potAt (pst h n w) n w := p.set hw
theorem potAt.old (p : n < h.length) (hw : 0 ≤ w) : potAt (Sm.pst h n w) n w := ⟨List.getElem?_set_self p, hw⟩
theorem setP (p : potAt h n v) : setC h n 0 (.int w) env = .nx env (pst h n w) := setC_ok p.1 (by decide) (by simp) rfl
@[simp] theorem q4_append (e : h[n]? = some (.lst xs)) (hl : xs.length < 100000) (hy : y.pu = true) : outM (fAppend (.loc n) [y] h) = .ok .non (h.set n (.lst (xs ++ [y]))) := by
  simp [fAppend, cellL, e, hl, hy, outM]
theorem e_tup (e : h.length = m) : fTuple [.loc m] (h ++ [.lst xs]) = some (.tup xs) := by simp [fTuple, at_end e]
theorem e_set {k : Int} (e : h.length = m) (h0 : 0 ≤ k) (h1 : k < xs.length) (hy : y.pu = true) : setC (h ++ [.lst xs]) m k y env = .nx env (h ++ [.lst (xs.set k.toNat y)]) := by
  rw [setC_ok (at_end e) h0 h1 hy, set_end e]
@[simp] theorem tup_lst : fTuple [.lst xs] h = some (.tup xs) := by simp [fTuple]
@[simp] theorem pus_app : pus (xs ++ ys) = (pus xs && pus ys) := pus_append ..
end
theorem bls_map {α : Type} (p : α → Bool) (l : List α) : blsOf? (l.map fun x => T.bl (p x)) = some (l.map p) := by
  induction l with
  | nil => rfl
  | cons x r ih => simp [blsOf?, ih]
theorem ints_map (ns : List Int) : intsOf? (ns.map T.int) = some ns := by
  induction ns with
  | nil => rfl
  | cons x r ih => simp [intsOf?, ih]
theorem all_map {α : Type} {h : Store} (p : α → Bool) (l : List α) : fAll [.lst (l.map fun x => T.bl (p x))] h = some (.bl (l.all p)) := by
  simp [fAll, bls_map]
theorem any_map {α : Type} {h : Store} (p : α → Bool) (l : List α) : fAny [.lst (l.map fun x => T.bl (p x))] h = some (.bl (l.any p)) := by
  simp [fAny, bls_map]
@[simp] theorem list_tup {h : Store} {xs : List T} : fList [.tup xs] h = some xs := rfl
@[simp] theorem list_lst {h : Store} {xs : List T} : fList [.lst xs] h = some xs := rfl
theorem add_lst {h : Store} {xs ys : List T} (c : xs.length + ys.length ≤ 100000) : fAdd (.lst xs) (.lst ys) h = some (.lst (xs ++ ys)) := by simp [fAdd, c]
@[simp] theorem pus_rep {k : Nat} {t : T} : pus (List.replicate k t) = (decide (k = 0) || t.pu) := by
  induction k with
  | zero => rfl
  | succ k ih => rw [List.replicate_succ, pus_cons, ih]; cases t.pu <;> simp
@[simp] theorem si_nil {h : Store} : sameIns [] h := fun i c fs hi _ => absurd hi (Nat.not_lt_zero i)
theorem range_at {a : Int} {n i : Nat} {x : T} (e : (rangeT a n)[i]? = some x) : x = .int (a + i) ∧ i < n := by
  unfold rangeT at e
  rw [List.getElem?_map] at e
  by_cases hi : i < n
  · rw [List.getElem?_range hi] at e
    exact ⟨(Option.some.inj e).symm, hi⟩
  · rw [List.getElem?_eq_none (by rw [List.length_range]; omega)] at e
    cases e
end Sm
namespace Sm
open PySem PySem.Spec PyProof.Rows L2
def okD : Nat → T → Prop
  | _, .non => True
  | _, .bl _ => True
  | _, .int _ => True
  | _, .str x => PyData.strOk x = true
  | n + 1, .tup xs => ∀ x ∈ xs, okD n x
  | n + 1, .lst xs => ∀ x ∈ xs, okD n x
  | _, _ => False
def datO (t : T) : PyData := (dat t).getD .none
theorem dats_of : ∀ {xs : List T}, (∀ x ∈ xs, ∃ d, dat x = some d) → dats xs = some (xs.map datO)
  | [], _ => by simp only [dats, List.map_nil]
  | x :: r, h => by
    obtain ⟨d, e⟩ := h x (List.mem_cons_self ..)
    simp only [dats, e, dats_of fun y m => h y (List.mem_cons_of_mem _ m), List.map_cons, datO, Option.getD_some]
theorem okD_dat : ∀ {n : Nat} {t : T}, okD n t → ∃ d, dat t = some d ∧ d.canLay0 = true ∧ d.depth ≤ n := by
  intro n
  induction n with
  | zero =>
    intro t h
    cases t with
    | non => exact ⟨_, rfl, by simp only [PyData.canLay0], by simp only [PyData.depth]; exact Nat.le_refl _⟩
    | bl b => exact ⟨_, rfl, by simp only [PyData.canLay0], by simp only [PyData.depth]; exact Nat.le_refl _⟩
    | int i => exact ⟨_, rfl, by simp only [PyData.canLay0], by simp only [PyData.depth]; exact Nat.le_refl _⟩
    | str x => exact ⟨_, rfl, by simp only [PyData.canLay0]; exact h, by simp only [PyData.depth]; exact Nat.le_refl _⟩
    | tup xs => exact absurd h (by simp [okD])
    | lst xs => exact absurd h (by simp [okD])
    | loc m => exact absurd h (by simp [okD])
    | scr m => exact absurd h (by simp [okD])
    | emp => exact absurd h (by simp [okD])
    | adr m d f ts => exact absurd h (by simp [okD])
    | fnc x => exact absurd h (by simp [okD])
    | dct ks ts => exact absurd h (by simp [okD])
  | succ n ih =>
    have many : ∀ xs : List T, (∀ x ∈ xs, okD n x) → dats xs = some (xs.map datO) ∧ PyData.canLayAll0 (xs.map datO) = true ∧ PyData.depthAll (xs.map datO) ≤ n := by
      intro xs h
      refine ⟨dats_of fun x m => let ⟨d, e, _⟩ := ih (h x m); ⟨d, e⟩, ?_, ?_⟩
      · induction xs with
        | nil => simp only [List.map_nil, PyData.canLayAll0]
        | cons x r ih2 =>
          obtain ⟨d, e, c, _⟩ := ih (h x (List.mem_cons_self ..))
          simp only [List.map_cons, PyData.canLayAll0, ih2 fun y m => h y (List.mem_cons_of_mem _ m), Bool.and_true]
          simp only [datO, e, Option.getD_some, c]
      · induction xs with
        | nil => simp only [List.map_nil, PyData.depthAll]; exact Nat.zero_le _
        | cons x r ih2 =>
          obtain ⟨d, e, _, c⟩ := ih (h x (List.mem_cons_self ..))
          have := ih2 fun y m => h y (List.mem_cons_of_mem _ m)
          simp only [List.map_cons, PyData.depthAll, datO, e, Option.getD_some]
          exact Nat.max_le.mpr ⟨c, this⟩
    intro t h
    cases t with
    | non => exact ⟨_, rfl, by simp only [PyData.canLay0], by simp only [PyData.depth]; exact Nat.zero_le _⟩
    | bl b => exact ⟨_, rfl, by simp only [PyData.canLay0], by simp only [PyData.depth]; exact Nat.zero_le _⟩
    | int i => exact ⟨_, rfl, by simp only [PyData.canLay0], by simp only [PyData.depth]; exact Nat.zero_le _⟩
    | str x => exact ⟨_, rfl, by simp only [PyData.canLay0]; exact h, by simp only [PyData.depth]; exact Nat.zero_le _⟩
    | tup xs =>
      obtain ⟨a, b, c⟩ := many xs h
      exact ⟨.tuple (xs.map datO), by simp only [dat, a, Option.map_some], by simp only [PyData.canLay0]; exact b, by simp only [PyData.depth]; omega⟩
    | lst xs =>
      obtain ⟨a, b, c⟩ := many xs h
      exact ⟨.list (xs.map datO), by simp only [dat, a, Option.map_some], by simp only [PyData.canLay0]; exact b, by simp only [PyData.depth]; omega⟩
    | loc m => exact absurd h (by simp [okD])
    | scr m => exact absurd h (by simp [okD])
    | adr m d f ts => exact absurd h (by simp [okD])
    | fnc x => exact absurd h (by simp [okD])
    | dct ks ts => exact absurd h (by simp [okD])
    | emp => exact absurd h (by simp [okD])
def beqT (a b : T) : Bool := PyData.eqv (datO a) (datO b)
theorem eqG_ok {a b : T} {h : Store} {n m : Nat} (ha : okD n a) (hb : okD m b) (hn : n ≤ 64) (hm : m ≤ 64) : eqG a b h = some (beqT a b) := by
  obtain ⟨d, e1, c1, l1⟩ := okD_dat ha
  obtain ⟨e, e2, c2, l2⟩ := okD_dat hb
  have s1 : datS h a = some d := by cases a <;> first | exact e1 | (simp [dat] at e1)
  have s2 : datS h b = some e := by cases b <;> first | exact e2 | (simp [dat] at e2)
  unfold eqG
  rw [s1, s2]
  have k1 : SeqAt.shaped d = true := by unfold SeqAt.shaped; rw [c1, decide_eq_true (by omega)]; rfl
  have k2 : SeqAt.shaped e = true := by unfold SeqAt.shaped; rw [c2, decide_eq_true (by omega)]; rfl
  show (if _ then _ else _) = _
  rw [if_pos ⟨k1, k2⟩]
  simp only [beqT, datO, e1, e2, Option.getD_some]
theorem eqB_okD {a b : T} {h : Store} {n m : Nat} (ha : okD n a) (hb : okD m b) (hn : n ≤ 64) (hm : m ≤ 64) : eqB a b h = some (beqT a b) := by
  have g := eqG_ok (h := h) ha hb hn hm
  cases a <;> cases b <;> first
    | exact g
    | (rename_i x y
       simp only [eqB, beqT, datO, dat, Option.getD_some, PyData.eqv]
       by_cases e : x = y <;> simp [e])
theorem fNe_ok {a b : T} {h : Store} {n m : Nat} (ha : okD n a) (hb : okD m b) (hn : n ≤ 64) (hm : m ≤ 64) : fNe a b h = some (.bl (!beqT a b)) := by unfold fNe; rw [eqB_okD ha hb hn hm]; rfl
theorem datO_lst {xs : List T} (h : ∀ x ∈ xs, ∃ d, dat x = some d) : datO (.lst xs) = .list (xs.map datO) := by simp only [datO, dat, dats_of h, Option.map_some, Option.getD_some]
theorem okD_has {n : Nat} {xs : List T} (h : ∀ x ∈ xs, okD n x) : ∀ x ∈ xs, ∃ d, dat x = some d := fun x m => let ⟨d, e, _⟩ := okD_dat (h x m); ⟨d, e⟩
theorem beq_lst_nil {n : Nat} {xs : List T} (h : ∀ x ∈ xs, okD n x) : beqT (.lst xs) (.lst []) = xs.isEmpty := by
  unfold beqT
  rw [datO_lst (okD_has h), datO_lst (by simp)]
  cases xs <;> simp [PyData.eqv, PyData.eqvAll]
@[simp] theorem okD_loc {n m : Nat} : okD n (.loc m) = False := by cases n <;> simp [okD]
@[simp] theorem okD_scr {n : Nat} {ns : List Int} : okD n (.scr ns) = False := by cases n <;> simp [okD]
@[simp] theorem okD_dct {n : Nat} {ks : List Str} {ts : List T} : okD n (.dct ks ts) = False := by cases n <;> simp [okD]
@[simp] theorem okD_fnc {n : Nat} {x : Str} : okD n (.fnc x) = False := by cases n <;> simp [okD]
@[simp] theorem okD_adr {n : Nat} {a d : Addr} {f : Str} {ts : List T} : okD n (.adr a d f ts) = False := by cases n <;> simp [okD]
@[simp] theorem okD_emp {n : Nat} : okD n .emp = False := by cases n <;> simp [okD]
@[simp] theorem okD_int {n : Nat} {i : Int} : okD n (.int i) = True := by cases n <;> simp [okD]
@[simp] theorem okD_bl {n : Nat} {b : Bool} : okD n (.bl b) = True := by cases n <;> simp [okD]
@[simp] theorem okD_non {n : Nat} : okD n .non = True := by cases n <;> simp [okD]
@[simp] theorem okD_str {n : Nat} {z : Str} : okD n (.str z) = (PyData.strOk z = true) := by cases n <;> simp [okD]
@[simp] theorem okD_tup {n : Nat} {xs : List T} : okD (n + 1) (.tup xs) = ∀ x ∈ xs, okD n x := by simp [okD]
@[simp] theorem okD_lst {n : Nat} {xs : List T} : okD (n + 1) (.lst xs) = ∀ x ∈ xs, okD n x := by simp [okD]
@[simp] theorem q3_max {i j : Int} {h : Store} : fMax [.int i, .int j] h = some (.int (if j > i then j else i)) := rfl
@[simp] theorem q3_min {i j : Int} {h : Store} : fMin [.int i, .int j] h = some (.int (if j < i then j else i)) := rfl
@[simp] theorem q3_intB {b : Bool} {h : Store} : fInt [.bl b] h = some (.int (if b then 1 else 0)) := rfl
@[simp] theorem truF_bl {b : Bool} {h : Store} : truF (.bl b) h = some b := rfl
@[simp] theorem q3_isB {a b : Bool} {h : Store} : fIs (.bl a) (.bl b) h = some (.bl (decide (a = b))) := rfl
@[simp] theorem q3_isnotB {a b : Bool} {h : Store} : fIsNot (.bl a) (.bl b) h = some (.bl (!decide (a = b))) := rfl
@[simp] theorem q3_powI {i j : Int} {h : Store} : fPow (.int i) (.int j) h = if 0 ≤ j ∧ j ≤ 100000 ∧ i.natAbs < 2 ^ 64 then some (.int (i ^ j.toNat)) else none := rfl
theorem eqT_int {a b : Int} : eqT (.int a) (.int b) = decide (b = a) := by
  show (a == b) = _
  by_cases q : b = a
  · subst q; simp
  · rw [decide_eq_false q]
    exact beq_eq_false_iff_ne.mpr fun e => q e.symm
theorem cut_from {xs : List T} {k : Int} (h : 0 ≤ k) : cutT xs (some k) none = xs.drop k.toNat := by
  unfold cutT HT.sIx
  simp only [Int.not_lt.mpr h, if_false]
  rw [List.take_of_length_le (by rw [List.length_drop]; exact Nat.le_refl _)]
  by_cases c : k.toNat ≤ xs.length
  · rw [Nat.min_eq_left c]
  · rw [Nat.min_eq_right (by omega), List.drop_length, List.drop_eq_nil_of_le (by omega)]
theorem cut_to {xs : List T} {k : Int} (h : 0 ≤ k) : cutT xs none (some k) = xs.take k.toNat := by
  unfold cutT HT.sIx
  simp only [Int.not_lt.mpr h, if_false, List.drop_zero, Nat.sub_zero]
  by_cases c : k.toNat ≤ xs.length
  · rw [Nat.min_eq_left c]
  · rw [Nat.min_eq_right (by omega), List.take_length, List.take_of_length_le (by omega)]
@[simp] theorem sl_tup {xs : List T} {lo hi : Option Int} {h : Store} : fSl (.tup xs) lo hi h = some (.tup (cutT xs lo hi)) := rfl
@[simp] theorem sl_lst {xs : List T} {lo hi : Option Int} {h : Store} : fSl (.lst xs) lo hi h = some (.lst (cutT xs lo hi)) := rfl
end Sm
namespace Sm
open PySem PySem.Spec PyProof.Rows L2
def mEmp : M T := fun _ h => .ok .emp h
@[simp] theorem q1_emp {env : Env'} {h : Store} : mEmp env h = .ok .emp h := rfl
theorem rgV_reps {K : PySem.W.Frag} {ω : Wd} (a b : Int) : Reps K ω (rangeT a (b - a).toNat) (rgV a b) := by
  unfold rangeT rgV
  generalize List.range (b - a).toNat = l
  induction l with
  | nil => exact Reps.nil
  | cons i r ih => exact Reps.cons rep_int ih
def mTupR (r : M (List T)) : M T := fun env h => (r env h).bind fun as h1 => (asR2 as h1).bind fun s h2 => .ok (.tup s.items) h2
def mLstR (r : M (List T)) : M (List T) := fun env h => (r env h).bind fun as h1 => (asR2 as h1).bind fun s h2 => .ok s.items h2
def mZero (m : M T) : M (List T) := fun env h => (m env h).bind fun a h1 => .ok [.int 0, a] h1
def mTwo (m n : M T) : M (List T) := fun env h => (m env h).bind fun a h1 => (n env h1).bind fun b h2 => .ok [a, b] h2
@[simp] theorem q1_tupR {r : M (List T)} {env : Env'} {h : Store} : mTupR r env h = (r env h).bind fun as h1 => (asR2 as h1).bind fun s h2 => .ok (.tup s.items) h2 := rfl
@[simp] theorem q1_lstR {r : M (List T)} {env : Env'} {h : Store} : mLstR r env h = (r env h).bind fun as h1 => (asR2 as h1).bind fun s h2 => .ok s.items h2 := rfl
@[simp] theorem q1_zero {m : M T} {env : Env'} {h : Store} : mZero m env h = (m env h).bind fun a h1 => .ok [.int 0, a] h1 := rfl
@[simp] theorem q1_two {m n : M T} {env : Env'} {h : Store} : mTwo m n env h = (m env h).bind fun a h1 => (n env h1).bind fun b h2 => .ok [a, b] h2 := rfl
section
variable {X : Cx} {cl : Nat → Addr} {W : WX} {e a b : Expr} {m n : M T} {r : M (List T)} {p p2 pos pos2 : Pos}
theorem k_emp : PE X (.Dict [] [] pos) (tE X.K cl W mEmp) := pe_dnewK.weak fun σ H Q ⟨env, h, ω, he, S, q⟩ p hp => by
  refine q _ _ (nx_newF S hp) (S.newF hp) _ ?_
  simp only [Rep]
  exact ⟨p, rfl, upd_same⟩
def tR (K : PySem.W.Frag) (cl : Nat → Addr) (W : WX) (r : M (List T)) : L2.St → Hp → (Int → Int → Hp → Prop) → Prop := fun σ H Q => ∃ env h ω, EnvOk K ω env σ ∧ StOk K cl ω h H ∧
  PostG K cl W ω H σ (r env h) fun as h1 ω1 H1 => ∃ i j, as = [.int i, .int j] ∧ Q i j H1
theorem prg_weak {t t' : L2.St → Hp → (Int → Int → Hp → Prop) → Prop} (h : PRg X e t) (w : ∀ σ H Q, t' σ H Q → t σ H Q) : PRg X e t' := fun pins s σ H Q I q => h pins s σ H Q I (w σ H Q q)
theorem kr_1 (hg : Gl X "range") (hm : X.mg "range" = none) (ha : PE X a (tE X.K cl W m)) (na : starEach [a] X.env = (false, eval a X.env) :: starEach [] X.env := by rfl) : PRg X (.Call (.Name "range" p) [a] [] pos) (tR X.K cl W (mZero m)) :=
  prg_weak (prg_1 hg hm ha na) fun σ H Q ⟨env, h, ω, he, S, q⟩ => ⟨env, h, ω, he, S, (PostG.bind q).mono fun t h1 ω1 H1 N1 S1 q1 v r => by
    obtain ⟨i, j, e, q2⟩ := q1 ω1 H1 (Nx.refl _ _) S1
    cases e
    exact ⟨j, r.int_inv, q2⟩⟩
theorem rg_ok {i j : Int} (c : i < 1000000 ∧ -1000000 < i ∧ j < 1000000 ∧ -1000000 < j) : RgOk i j := ⟨by omega, by omega, by omega, by omega, by omega⟩
theorem asR2_inv {as : List T} {h : Store} {R : Src → Store → Prop} {X : Ex → Store → Prop} (q : (asR2 as h).wp R X) : ∃ i j, as = [.int i, .int j] ∧ (i < 1000000 ∧ -1000000 < i ∧ j < 1000000 ∧ -1000000 < j) ∧ asR2 as h = .ok ⟨rangeT i (j - i).toNat, []⟩ h := by
  unfold asR2 at q ⊢
  split at q
  · rename_i i j
    by_cases c : i < 1000000 ∧ -1000000 < i ∧ j < 1000000 ∧ -1000000 < j
    · exact ⟨i, j, rfl, c, if_pos c⟩
    · rw [if_neg c] at q; exact q.elim
  · exact q.elim
theorem k_tupR (hc : X.calm = true) (z : X.mg "tuple" = none) (he : PRg X e (tR X.K cl W r)) (hg : Gl X "tuple" := by rfl) (na : starEach [e] X.env = (false, eval e X.env) :: starEach [] X.env := by rfl) :
    PE X (.Call (.Name "tuple" p) [e] [] pos) (tE X.K cl W (mTupR r)) := by
  refine (pe_tupRg hc hg z he na).weak fun σ H Q ⟨env, h, ω, he, S, q⟩ => ⟨env, h, ω, he, S, (PostG.bind q).mono fun as h1 ω1 H1 N1 S1 q1 => ?_⟩
  have w : (asR2 as h1).wp (fun _ _ => True) (fun _ _ => True) := by
    revert q1
    cases asR2 as h1 with
    | bad => exact fun z => z
    | ok a h => exact fun _ => trivial
    | ex e h => exact fun _ => trivial
  obtain ⟨i, j, e, c, e2⟩ := asR2_inv w
  rw [e2] at q1
  refine ⟨i, j, e, rg_ok c, fun p hp => ?_⟩
  refine q1 _ _ (nx_newF S1 hp) (S1.newF hp) _ ?_
  simp only [Rep]
  exact ⟨p, _, rfl, SqT.of upd_same, rgV_reps i j⟩
end
@[simp] theorem isi_emp_int {h : Store} : fIsi "int" .emp h = some (.bl false) := rfl
@[simp] theorem isi_emp_bool {h : Store} : fIsi "bool" .emp h = some (.bl false) := rfl
@[simp] theorem isi_emp_str {h : Store} : fIsi "str" .emp h = some (.bl false) := rfl
@[simp] theorem isi_emp_tuple {h : Store} : fIsi "tuple" .emp h = some (.bl false) := rfl
@[simp] theorem isi_emp_list {h : Store} : fIsi "list" .emp h = some (.bl false) := rfl
@[simp] theorem isi_emp_dict {h : Store} : fIsi "dict" .emp h = some (.bl true) := rfl
@[simp] theorem isNon_emp : isNon .emp = false := rfl
@[simp] theorem pu_emp : T.emp.pu = true := rfl
mutual
def T.plain : T → Bool
  | .loc _ => false
  | .scr _ => false
  | .adr _ _ _ _ => false
  | .dct _ _ => false
  | .fnc _ => false
  | .tup xs => plains xs
  | .lst xs => plains xs
  | _ => true
def plains : List T → Bool
  | [] => true
  | x :: r => x.plain && plains r
end
@[simp] theorem plain_non : T.non.plain = true := rfl
@[simp] theorem plain_bl {b : Bool} : (T.bl b).plain = true := rfl
@[simp] theorem plain_int {i : Int} : (T.int i).plain = true := rfl
@[simp] theorem plain_str {z : Str} : (T.str z).plain = true := rfl
@[simp] theorem pu_adr {a d : Addr} {f : Str} {ts : List T} : (T.adr a d f ts).pu = false := rfl
@[simp] theorem pu_fnc {x : Str} : (T.fnc x).pu = false := rfl
@[simp] theorem isNon_fnc {x : Str} : isNon (.fnc x) = false := rfl
@[simp] theorem plain_fnc {x : Str} : (T.fnc x).plain = false := rfl
@[simp] theorem isNon_adr {a d : Addr} {f : Str} {ts : List T} : isNon (.adr a d f ts) = false := rfl
@[simp] theorem plain_adr {a d : Addr} {f : Str} {ts : List T} : (T.adr a d f ts).plain = false := rfl
@[simp] theorem plain_emp : T.emp.plain = true := rfl
@[simp] theorem plain_dct {ks : List Str} {ts : List T} : (T.dct ks ts).plain = false := rfl
@[simp] theorem isNon_dct {ks : List Str} {ts : List T} : isNon (.dct ks ts) = false := rfl
@[simp] theorem plain_loc {n : Nat} : (T.loc n).plain = false := rfl
@[simp] theorem plain_scr {ns : List Int} : (T.scr ns).plain = false := rfl
@[simp] theorem plain_tup {xs : List T} : (T.tup xs).plain = plains xs := by simp only [T.plain]
@[simp] theorem plain_lst {xs : List T} : (T.lst xs).plain = plains xs := by simp only [T.plain]
@[simp] theorem plains_nil : plains [] = true := by simp only [plains]
@[simp] theorem plains_cons {x : T} {r : List T} : plains (x :: r) = (x.plain && plains r) := by simp only [plains]
@[simp] theorem plains_app {xs ys : List T} : plains (xs ++ ys) = (plains xs && plains ys) := by
  induction xs with
  | nil => simp
  | cons x r ih => simp [ih, Bool.and_assoc]
mutual
theorem plain_pu : ∀ {t : T}, t.plain = true → t.pu = true
  | .non, _ => rfl
  | .bl _, _ => rfl
  | .int _, _ => rfl
  | .str _, _ => rfl
  | .emp, _ => rfl
  | .loc _, h => by simp at h
  | .adr _ _ _ _, h => by simp at h
  | .dct _ _, h => by simp at h
  | .fnc _, h => by simp at h
  | .scr _, h => by simp at h
  | .tup xs, h => by rw [pu_tup]; rw [plain_tup] at h; exact plains_pus h
  | .lst xs, h => by rw [pu_lst]; rw [plain_lst] at h; exact plains_pus h
theorem plains_pus : ∀ {ts : List T}, plains ts = true → pus ts = true
  | [], _ => pus_nil
  | x :: r, h => by
    rw [plains_cons, Bool.and_eq_true] at h
    rw [pus_cons, plain_pu h.1, plains_pus h.2]
    rfl
end
end Sm
namespace Sm
open PySem PySem.Spec PyProof.Rows L2
section
variable {K : PySem.W.Frag} {cl : Nat → Addr} {ω : Wd} {h : Store} {H : Hp} {f : Str} {t : T} {v : V}
theorem RepKV.size {κ : Type} : ∀ {a : List (κ × T)} {b : List (κ × V)}, RepKV K ω a b → a.length = b.length
  | [], _, r => by
    cases (show _ = [] from r)
    rfl
  | (g, x) :: l, _, ⟨y, m, q, r1, r2⟩ => by
    subst q
    rw [List.length_cons, List.length_cons, RepKV.size r2]
def insOf (c : Nat) (h : Store) : T → Option (Nat × List (Str × T))
  | .loc n => match h[n]? with
    | some (.ins c' fs) => if c' = c then some (n, fs) else none
    | _ => none
  | _ => none
end
def mFld (c : Nat) (f : Str) (m : M T) : M T := fun env h => (m env h).bind fun a h1 => Out.ofO ((insOf c h1 a).bind fun p => p.2.lookup f) h1
structure CalM (P : Program) (w : World) (K : PySem.W.Frag) (mg : Str → Option Value) (base : Heap) (cl : Nat → Addr) (c : Nat) (x : Str) (j : Nat) (ps : List Str) (F : Fn) (n : Nat) : Prop where
  cls : Cls K (cl c)
  ex : ∃ f fd, FnOk P w K mg base (L2N.CX P w) j f fd ps (spF K cl F n) ∧ Meth K (cl c) x f ∧ Binds K fd ps []
  len : ∀ ts h, ts.length ≠ n → F ts h = .bad
structure CalI (P : Program) (w : World) (K : PySem.W.Frag) (mg : Str → Option Value) (base : Heap) (cl : Nat → Addr) (c : Nat) (x : Str) (j : Nat) (ps : List Str) (F : Fn) (n : Nat) : Prop where
  ex : ∃ f fd, FnOk P w K mg base (L2N.CX P w) j f fd ps (spF K cl F n) ∧ Mk K (cl c) f ∧ mg x = some (.ref (cl c)) ∧ Binds K fd ps []
  len : ∀ ts h, ts.length ≠ n → F ts h = .bad
def Flat (W : WX) : Prop := ∀ cls d σ σ' H, W cls d σ H → W cls d σ' H
section
variable {X : Cx} {cl : Nat → Addr} {W : WX} {o e ev : Expr} {es : List Expr} {m mo mv : M T} {r : M (List T)} {F : Fn} {c j k n : Nat} {x f : Str} {ps : List Str} {p pos apos pos' : Pos}
theorem PostG.flat {K : PySem.W.Frag} {α : Type} {ω : Wd} {H : Hp} {σ : L2.St} {o : Out α} {R : α → Store → Wd → Hp → Prop} (fl : Flat W) (q : PostG K cl W ω H σ o R) : PostG K cl (fun cls d _ H' => W cls d [] H') ω H [] o R := by
  cases o with
  | ok a h => exact q
  | ex z h => exact fun ω' H' cls d N S x => fl cls d σ [] H' (q ω' H' cls d N S x)
  | bad => exact q
end
section
variable {P : Program} {w : World} {K : PySem.W.Frag} {mg : Str → Option Value} {base : Heap} {cl : Nat → Addr}
end
def nmC : Nat → Str
  | 0 => "Ways"
  | 1 => "Table"
  | 2 => "Bench"
  | 3 => "Desk"
  | 10 => "FractError"
  | 11 => "AtRest"
  | 12 => "TooMany"
  | 13 => "NoText"
  | 14 => "NoNumber"
  | 15 => "NoOrder"
  | 16 => "NoProgram"
  | 17 => "Shared"
  | 18 => "NoPowers"
  | 19 => "NoTrail"
  | 20 => "NoName"
  | 21 => "NoDeed"
  | 22 => "NoRow"
  | _ => "none"
def clK (K : PySem.W.Frag) (c : Nat) : Addr := He.ga K (nmC c)
section
variable {X : Cx}
end
end Sm
namespace Sm
open PySem PySem.Spec PyProof.Rows L2 ClX
structure ExcF (K : PySem.W.Frag) (mg : Str → Option Value) (cl : Nat → Addr) (c : Nat) (x : Str) : Prop where
  gC : mg x = some (.ref (cl c))
  q : PySem.W.excIn K (cl c) He.veBase "ValueError.__new__" = true
  kC : PySem.W.keepIn K (.ref (cl c)) = true
  bC : PySem.W.subIn K (.ref (cl c)) (.type "BaseException") = some true
  tC : PySem.W.typeIn K (.ref (cl c)) = some (.type "type")
def sRaise (e : Ex) : MS := fun env h => .ex e env h
section
variable {X : Cx} {cl : Nat → Addr} {W : WX} {k c : Nat} {x msg : Str} {j : Nat} {p p2 p3 pos : Pos}
theorem ks_raise (co : Ok X W k) (E : ExcF X.K X.mg cl c x) (hg : Gl X x := by rfl) (hdb : (x == ("__debug__" : Str)) = false := by decide) :
    PS X (.Raise (some (.Call (.Name x p) [.Constant (.str msg) j p2] [] p3)) none pos) (tS X.K cl W (sRaise (.txt c))) :=
  (L2N.ps_raise co.calm co.tk (L2N.pmk_own PySem.F.excBase_ValueError E.q E.gC E.kC (raises_own E.bC E.tC) hg hdb)).weak fun D σ H ⟨env, h, ω, he, hs, q⟩ => q ω H σ (.ref (cl c)) none (Nx.refl _ _) hs he ⟨rfl, rfl⟩
end
structure FldF (K : PySem.W.Frag) (mg : Str → Option Value) (C B : Addr) (f b x : Str) : Prop where
  oc : OexC K C
  gC : mg x = some (.ref C)
  gB : mg b = some (.ref B)
  nf : PySem.W.findIn K (.ref C) f = some none
  rd : ∃ mc, CRead K B mc ∧ PySem.W.findCls K (.ref B) mc "__init__" = some (.val (.builtin "ValueError.__init__"))
section
variable {X : Cx} {C B : Addr} {f b x : Str} {e : Expr} {es : List Expr} {ta : TA} {p1 p2 pos : Pos}
end
def spRest (f : Str) (C : Addr) : Sp := fun vs H Q _ => ∃ (a : Addr) (v : V), vs = [.ref a, v] ∧ H a = some (exo a C none) ∧ ∀ d, H d = none → d ≠ a → Q .non (upd (upd H d (exd d [(f, v)])) a (exo a C (some d)))
section
variable {P : Program} {w : World} {mg : Str → Option Value} {base : Heap} {K : PySem.W.Frag}
end
section
variable {X : Cx} {cl : Nat → Addr} {W : WX} {k c : Nat} {x f b : Str} {e : Expr} {m : M T} {p p3 pos : Pos}
structure FldE (P : Program) (w : World) (K : PySem.W.Frag) (mg : Str → Option Value) (base : Heap) (cl : Nat → Addr) (c : Nat) (f x : Str) : Prop where
  ex : ∃ B b fI fd, FldF K mg (cl c) B f b x ∧ PySem.W.findIn K (.ref (cl c)) "__init__" = some (some (.ref fI)) ∧ PySem.W.typeIn K (.ref fI) = some (.type "function") ∧
    FnOk P w K mg base (L2N.CX P w) 1 fI fd ["self", f] (spRest f (cl c)) ∧ Binds K fd ["self", f] []
end
structure SaysY (fa : List He.Fa) (fn : List He.DefD) (ex : PySem.W.Frag → Bool) (K : PySem.W.Frag) : Prop where
  t : He.SaysD fa fn K
  more : ex K = true
def reachY (n : Nat) (g : Addr → Option Obj) : PySem.W.Frag := He.frG g (He.asD g n ++ [cStatics])
def obsY (n : Nat) (fa : List He.Fa) (fn : List He.DefD) (ex : PySem.W.Frag → Bool) (g : Addr → Option Obj) : He.AlD × Bool := (He.obsD fa fn (reachY n g), ex (reachY n g))
def hookY (n : Nat) (fa : List He.Fa) (fn : List He.DefD) (ex : PySem.W.Frag → Bool) : PySem.W.Hook where
  α := He.AlD × Bool
  obs := fun s => obsY n fa fn ex s.heap.get?
  val := fun _ => (He.valD fn, true)
  says := fun _ h => ∃ K : PySem.W.Frag, K.In h ∧ SaysY fa fn ex K
  of := fun _ _ e => ⟨_, He.frG_in, ⟨congrArg Prod.fst e, congrArg Prod.snd e⟩⟩
  keeps := fun _ _ _ ⟨K, inn, says⟩ k => ⟨K, PySem.W.Frag.In.keeps inn k, says⟩
theorem obsY_eq {n : Nat} {fa : List He.Fa} {fn : List He.DefD} {ex : PySem.W.Frag → Bool} {g : Addr → Option Obj} {s : Shared} (h : ∀ a, g a = s.heap.get? a) : obsY n fa fn ex g = (hookY n fa fn ex).obs s := by
  obtain rfl : g = s.heap.get? := funext h
  rfl
end Sm
namespace Sm
open PySem PySem.Spec PyProof.Rows L2 L2H
def blsOf : List T → Option (List Bool)
  | [] => some []
  | .bl b :: r => (blsOf r).map (b :: ·)
  | _ => none
def fCount : FM := fun a as h => match as with
  | [.bl b] => match lstOf h a with
    | some xs => (blsOf xs).map fun bs => (.int ((bs.count b : Nat) : Int), h)
    | none => none
  | _ => none
theorem blsOf_ok {K : PySem.W.Frag} {ω : Wd} : ∀ {xs : List T} {bs : List Bool} {vs : List V} {us : List Value}, blsOf xs = some bs → Reps K ω xs vs → Vals vs us → us = bs.map Value.bool
  | [], bs, vs, us, e, r, v => by
    cases e
    rw [r.nil_inv] at v
    cases v
    rfl
  | x :: xs, bs, vs, us, e, r, v => by
    cases x with
    | bl b =>
      simp only [blsOf, Option.map_eq_some_iff] at e
      obtain ⟨cs, e1, rfl⟩ := e
      obtain ⟨w, vr, rfl, r1, r2⟩ := r.inv
      cases v with
      | cons v1 v2 =>
        rw [r1.bl_inv] at v1
        cases v1
        rw [blsOf_ok e1 r2 v2]
        rfl
    | _ => cases e
def isB (b : Bool) : Value → Bool
  | .bool c => c == b
  | _ => false
theorem countB (b : Bool) : ∀ bs : List Bool, (bs.map Value.bool).countP (isB b) = bs.count b
  | [] => rfl
  | c :: r => by
    rw [List.map_cons, List.countP_cons, List.count_cons, countB b r]
    rfl
section
variable {X : Cx} {cl : Nat → Addr} {W : WX}
theorem m_count : MtR X "list.count" (rVM X.K cl fCount) := by
  intro pins s σ H x xs v us Q I rx rxs ⟨a, as, h, ω, t, h', S, ra, ras, e, q⟩
  unfold fCount at e
  split at e
  · rename_i b
    split at e
    · rename_i ys ey
      rw [Option.map_eq_some_iff] at e
      obtain ⟨bs, eb, e2⟩ := e
      cases e2
      obtain ⟨p, vs, rfl, b1, c1⟩ := lstOf_ok S ra ey
      obtain ⟨w, wr, rfl, r1, r2⟩ := ras.inv
      rw [r2.nil_inv, r1.bl_inv] at rxs
      cases rx
      cases rxs with
      | cons v1 v2 =>
        cases v1
        cases v2
        obtain ⟨its, rv, lst, _⟩ := I.list (SqL.of b1)
        obtain ⟨⟨cls, dd, dat, sl⟩, m, at_, isL, nd, isD⟩ := lst
        simp only at isL isD
        subst isL isD
        have ei := blsOf_ok eb c1 rv
        refine call_meets PySem.F.slot_list_count ⟨_, at_, rfl⟩ PySem.F.entry_list_count (PySem.F.args_list_count_2 _ _) (SeqAt.list_countAt p its.toArray m dd sl (.bool b) (isB b)) ⟨at_, fun y hy => ?_, ?_⟩
        · have hy' : y ∈ its := by simpa using hy
          rw [ei] at hy'
          obtain ⟨c, _, rfl⟩ := List.mem_map.mp hy'
          exact SeqAt.EqAt.bool_bool c b
        · refine ⟨.int ((bs.count b : Nat) : Int), H, I.tok _, ⟨s.toks, ?_⟩, q _ _ _ (Nx.refl _ _) S rep_int⟩
          show Value.int ((its.toArray.toList.countP (isB b) : Nat) : Int) s.toks = Value.int ((bs.count b : Nat) : Int) s.toks
          rw [show its.toArray.toList = bs.map Value.bool from ei, countB]
    · cases e
  · cases e
end
structure FnP (P : Program) (w : World) (K : PySem.W.Frag) (mg : Str → Option Value) (base : Heap) (k : Nat) (f : Addr) (fd : FuncData) (ps : List Str) (spp : Addr × Obj → Sp) : Prop where
  len : ∀ p vs H Q E, spp p vs H Q E → vs.length = ps.length
  run : ∀ (p : Addr × Obj) (A : Around) (outer : List Env) (s : Shared) (H : Hp) (args : Args) (us : List Value) (vs : List V) (Q : VK) (E : XK), Hot1 A p → RoomH k A → PinOk outer H s p → Env0 P w K mg base A outer s H → BindsTo s fd args (ps.zip us) → Vals vs us → spp p vs H Q E →
    codeAny (model P w) A (.call (.ref f) args) (CR (L2N.CX P w) outer P w H s Q E) s
section
variable {P : Program} {w : World} {K : PySem.W.Frag} {mg : Str → Option Value} {base : Heap} {k : Nat} {f : Addr} {fd : FuncData} {x qual : Str} {params : Arguments} {body : List Stmt} {scope : Scope} {N ps : List Str} {spp : Addr × Obj → Sp}
theorem FnP.of (F : FunD K x qual params body scope [] [] f fd) (S : FnScope N ps scope) (len : ∀ p vs H Q E, spp p vs H Q E → vs.length = ps.length)
    (hB : ∀ (cdv : Value) (p : Addr × Obj) (A : Around) (outer : List Env) (s : Shared) (H : Hp) (vs : List V) (Q : VK) (E : XK), Hot1 A p → RoomH k (A.deeper (envOfC qual scope s.heap.objs.size f cdv)) → spp p vs H Q E →
      ∃ t, PSs (cxH (L2N.CX P w) P w K mg base N qual scope f cdv A outer s H E p) body t ∧ t { nx := fun _ H' => Q .non H', rt := Q } (L2.start N vs) H) : FnP P w K mg base (k + 1) f fd ps spp := by
  obtain ⟨oc, od, dV, kV, doc, pm, an, cdv, ct, osl, rfl, at_, code, _, _⟩ := F.ex
  refine ⟨len, fun p A outer s H args us vs Q E hot room pinned env0 bound vals sp1 => ?_⟩
  have same : vs.length = ps.length := len _ _ _ _ _ sp1
  have inK : K.In s.heap := env0.mod.kin.keeps fun b o z => (env0.bs b o z).1
  have kinds : ∀ y ∈ ps.zip us, scope.names.lookup y.1 = some .local ∨ (scope.names.lookup y.1 = some .cell ∧ ((cellsFrom (s.heap.objs.size + 1) scope.names []).lookup y.1).isSome = true) := fun y hy =>
    (S.par y.1 (List.of_mem_zip hy).1).elim .inl fun z => .inr ⟨z, PySem.W.cellsFrom_some _ _ _ (.inl z)⟩
  refine codeAny_call_function room.depth (inK _ _ at_) rfl S.co S.gen rfl (PySem.W.codeRec_of inK code) (bound _ _ _ _ (wpAny_newFunctionEnv_cells S.kind kinds fun env e1 s1 made => ?_))
  subst e1
  refine ⟨(env0.mod.nolimit.keeps fun b o z => (env0.bs b o z).1).keeps made.toInCall.keep, codeAny_func ?_⟩
  obtain ⟨t, run1, rd⟩ := hB cdv p A outer s H vs Q E hot (room.deeper _) sp1
  have inv : Inv (cxH (L2N.CX P w) P w K mg base N qual scope f cdv A outer s H E p) [] (L2.start N vs) H s1 := inv_startH S pinned env0 same vals made
  refine wpAny_mono (run1.run [] s1 _ H _ inv rd) (fun fl s2 out => ?_) fun _ _ z => z
  cases fl with
  | ret u =>
    obtain ⟨v, σ2, H2, inv2, rv, q⟩ := out
    exact ⟨v, H2, inv2.os, inv2.bare, inv2.base, inv2.hok, rv, q⟩
  | next =>
    obtain ⟨σ2, H2, inv2, q⟩ := out
    exact ⟨.non, H2, inv2.os, inv2.bare, inv2.base, inv2.hok, rfl, q⟩
  | brk => exact out.elim fun _ z => z.elim fun _ y => y.2.elim
  | cont => exact out.elim fun _ z => z.elim fun _ y => y.2.elim
end
section
variable {X : Cx} {k : Nat} {f : Addr} {fd : FuncData} {ps : List Str} {spp : Addr × Obj → Sp} {x : Str} {p : Addr × Obj} {q pos : Pos} {e : Expr} {es : List Expr} {ta : TA}
theorem pe_callP (F : FnP X.prog X.w X.K X.mg X.base k f fd ps spp) (room : RoomH k X.A) (hot : Hot1 X.A p) (mem : p ∈ X.pn) (hg : Gl X x) (hm : X.mg x = some (.ref f)) (kp : PySem.W.keepIn X.K (.ref f) = true) (hb : Binds X.K fd ps [])
    (args : PA X (e :: es) ta) (hdb : (x == ("__debug__" : Str)) = false := by decide) (h1 : starEach (e :: es) X.env = (false, eval e X.env) :: starEach es X.env := by rfl) (h2 : (backTo pos (starEach es X.env)).any (·.1) = false := by rfl) :
    PE X (.Call (.Name x q) (e :: es) [] pos) (fun σ H Q => ta σ H fun vs H1 => spp p vs H1 Q fun _ _ _ => False) := ⟨fun pins s σ H Q inv rd => by
  refine wpAny_Call_Name_kw (ld_glob inv hg hm (PySem.W.callWith_K (h₀ := X.base) inv.ok.mod.kin kp (thn (args.run pos pins s σ H _ inv rd) fun us s1 z => ?_) h1 h2) hdb)
  obtain ⟨vs, H1, inv1, rv, sp1⟩ := z
  have pin1 := inv1.pin p (List.mem_append_left _ mem)
  have pinned : PinOk X.stack H1 s1 p := ⟨pin1.1, pin1.2.1, fun z => (List.mem_cons.mp (inv1.stkSub p.1 z)).elim pin1.2.2.1 pin1.2.2.2.1, pin1.2.2.2.2⟩
  have bnd := hb s1 us inv1.kIn (by rw [List.append_nil, ← rv.length]; exact F.len _ _ _ _ _ sp1)
  rw [List.append_nil] at bnd
  refine ⟨inv1.kIn, wpAny_call (codeAny_mono (F.run p X.A X.stack s1 H1 ⟨us, []⟩ us vs Q _ hot room pinned inv1.env0 bnd rv sp1) fun res s2 out => ?_)⟩
  cases res with
  | error er => exact (show False from by obtain ⟨_, _, _, _, _, _, _, _, _, _, _, _, z⟩ := out; exact z).elim
  | ok fl => cases fl with
    | ret u => exact inv1.after out
    | _ => exact False.elim out⟩
end
def Ex.c : Ex → Nat
  | .txt c => c
  | .fld c _ _ => c
def exT (a d : Addr) : Ex → T
  | .txt _ => .adr a d "" []
  | .fld _ f t => .adr a d f [t]
def dOf (d : Addr) : Ex → Option Addr
  | .txt _ => none
  | .fld _ _ _ => some d
structure OkX (X : Cx) (cl : Nat → Addr) (k : Nat) (a d : Addr) (oe : Obj) (e : Ex) : Prop where
  nd : X.N.Nodup
  hot : Hot1 X.A (a, oe)
  mem : (a, oe) ∈ X.pn
  room : RoomH k X.A
  zn : L2N.Zn (.ref (cl e.c)) (dOf d e) oe
theorem OkX.hu {X : Cx} {cl : Nat → Addr} {k : Nat} {a d : Addr} {oe : Obj} {e : Ex} (c : OkX X cl k a d oe e) : X.A.units + 64 < cLine := by have := c.room.un; omega
theorem OkX.hu0 {X : Cx} {cl : Nat → Addr} {k : Nat} {a d : Addr} {oe : Obj} {e : Ex} (c : OkX X cl k a d oe e) : X.A.units < cLine := by have := c.room.un; omega
theorem OkX.flds {X : Cx} {cl : Nat → Addr} {k : Nat} {a d : Addr} {oe : Obj} {e : Ex} (c : OkX X cl k a d oe e) : ∃ vs, oe.data = .fields vs := by
  obtain ⟨_, vs, h, _⟩ := c.hot
  exact ⟨vs, h⟩
structure ExcI (K : PySem.W.Frag) (D : Addr) : Prop where
  isC : (PySem.W.clsIn K D).isSome = true
  ga : PySem.W.findIn K (.ref D) "__getattribute__" = some (some (.builtin "BaseException.__getattribute__"))
  gt : PySem.W.findIn K (.ref D) "__getattr__" = some none
  sb : PySem.W.subIn K (.ref D) (.type "BaseException") = some true
  ac : PySem.W.findIn K (.ref D) "__class__" = some (some (.builtin "object.__class__"))
  gs : PySem.W.specialIn K (.builtin "object.__class__") "__get__" = some (some (.builtin "getset_descriptor.__get__"))
  tk : PySem.W.takesIn K (.builtin "object.__class__") = some true
  mo : PySem.W.mroIn K D (.type "object") = some true
  hasD : PySem.W.hasDictIn K D = true
def rIsX (K : PySem.W.Frag) (D a : Addr) (dd : Option Addr) : List V → Hp → VK → Prop := fun xs H Q => ∃ (c : V) (cv : Value) (b : Bool), xs = [.ref a, c] ∧ (∀ u, RelV c u → u = cv) ∧ PySem.W.kitOne K (.ref D) cv = some b ∧ (∀ dx, dd = some dx → ∃ fs, H dx = some (.xd fs)) ∧ Q (.bl b) H
theorem call_isX {X : Cx} {a D : Addr} {dd : Option Addr} {oe : Obj} (C : ExcI X.K D) (mem : (a, oe) ∈ X.pn) (hz : Zc (.ref D) dd oe) (hf : ∃ vs, oe.data = .fields vs) : CallR X (.builtin "isinstance") (rIsX X.K D a dd) := fun pins s σ H xs us Q inv rel rd => by
  obtain ⟨c, cv, b, rfl, hcv, kit, hdx, q⟩ := rd
  obtain ⟨vs, hv⟩ := hf
  have pinned := (inv.pin (a, oe) (List.mem_append_left _ mem)).1
  have there : ∃ od, PySem.W.InstAt s.heap a oe D od := by
    cases dd with
    | none => exact ⟨none, pinned, hz.1, by unfold PySem.W.notCls; rw [hv], by rw [hz.2]; trivial⟩
    | some dx =>
      obtain ⟨fs, hfs⟩ := hdx dx rfl
      have ok : ObjOk X.prog X.w H s.heap dx (.xd fs) := inv.hok dx _ hfs
      obtain ⟨mA, hns, _⟩ := ok
      obtain ⟨od, hod, _⟩ := lookIn_ns hns
      exact ⟨some od, pinned, hz.1, by unfold PySem.W.notCls; rw [hv], by rw [hz.2]; exact hod⟩
  obtain ⟨od, inst⟩ := there
  cases rel with
  | cons r1 r2 => cases r2 with
    | cons r2 r3 =>
      cases r3
      cases r1
      have e := hcv _ r2
      subst e
      exact PySem.W.kia_one (PySem.W.kitx_exc (od := od) C.isC C.ga C.gt C.sb C.ac C.gs C.tk C.mo) inv.kIn inst kit (fun z => nomatch z) fun tk => ⟨.bl b, H, inv.kept (t' := tk) fun _ _ z => z, rfl, q⟩
open Classical in
noncomputable def mIsX (t0 : T) (b : Bool) (m : M T) : M T := fun env h => (m env h).bind fun t h1 => if t = t0 then .ok (.bl b) h1 else .bad
open Classical in
section
variable {X : Cx} {cl : Nat → Addr} {W : WX} {k : Nat} {a d : Addr} {oe : Obj} {e : Ex} {ev : Expr} {m : M T} {x : Str} {p p2 pos : Pos} {b : Bool}
theorem exT_rep {K : PySem.W.Frag} {ω : Wd} {h : Store} {H : Hp} {v : V} (S : StOk K cl ω h H) (r : Rep K ω (exT a d e) v) : v = .ref a ∧ ∀ dx, dOf d e = some dx → ∃ fs, H dx = some (.xd fs) := by
  cases e with
  | txt c =>
    simp only [exT, Rep] at r
    exact ⟨r.1, fun dx z => by cases z⟩
  | fld c f t =>
    simp only [exT, Rep] at r
    obtain ⟨e1, ws, c1, _⟩ := r
    exact ⟨e1, fun dx z => by cases z; exact ⟨_, S.phi _ _ (c1 (by simp))⟩⟩
theorem k_isX {D2 : Addr} (c : OkX X cl k a d oe e) (I : ExcI X.K (cl e.c)) (he : PE X ev (tE X.K cl W m)) (z : X.mg "isinstance" = none) (gx : X.mg x = some (.ref D2)) (kit : PySem.W.kitOne X.K (.ref (cl e.c)) (.ref D2) = some b) (hg : Gl X "isinstance" := by rfl) (hg2 : Gl X x := by rfl)
    (hdb2 : (x == ("__debug__" : Str)) = false := by decide)
    (hst : starEach [ev, .Name x p2] X.env = (false, eval ev X.env) :: starEach [.Name x p2] X.env := by rfl) (hst2 : starEach [.Name x p2] X.env = (false, eval (.Name x p2) X.env) :: starEach [] X.env := by rfl) (hpl : (backTo pos (starEach [.Name x p2] X.env)).any (·.1) = false := by rfl) :
    PE X (.Call (.Name "isinstance" p) [ev, .Name x p2] [] pos) (tE X.K cl W (mIsX (exT a d e) b m)) := by
  have a2 : PE X (.Name x p2) (tC (.ref D2)) := pe_glob hg2 gx rfl hdb2
  refine (pe_callB (call_isX I c.mem c.zn.zc c.flds) hg z boot_isinstance (pa_cons he (pa_cons a2 pa_nil hst2) hst) (by decide) (by decide) hst hpl).weak fun σ H Q ⟨env, h, ω, henv, hs, q⟩ => ⟨env, h, ω, henv, hs, (PostG.bind q).mono fun t h1 ω1 H1 N1 S1 q1 v r => ?_⟩
  split at q1
  · rename_i et
    subst et
    obtain ⟨rfl, hdx⟩ := exT_rep S1 r
    exact ⟨.ref D2, .ref D2, b, rfl, fun u z => z, kit, hdx, q1 ω1 H1 (Nx.refl _ _) S1 _ rep_bl⟩
  · exact q1.elim
theorem k_isXB {ty : String} (c : OkX X cl k a d oe e) (I : ExcI X.K (cl e.c)) (he : PE X ev (tE X.K cl W m)) (z : X.mg "isinstance" = none) (z2 : X.mg x = none) (hv2 : bootBuiltins x = some (.type ty)) (kit : PySem.W.kitOne X.K (.ref (cl e.c)) (.type ty) = some b) (hg : Gl X "isinstance" := by rfl) (hg2 : Gl X x := by rfl)
    (hn2 : x ≠ "__name__" := by decide) (hdb2 : (x == ("__debug__" : Str)) = false := by decide)
    (hst : starEach [ev, .Name x p2] X.env = (false, eval ev X.env) :: starEach [.Name x p2] X.env := by rfl) (hst2 : starEach [.Name x p2] X.env = (false, eval (.Name x p2) X.env) :: starEach [] X.env := by rfl) (hpl : (backTo pos (starEach [.Name x p2] X.env)).any (·.1) = false := by rfl) :
    PE X (.Call (.Name "isinstance" p) [ev, .Name x p2] [] pos) (tE X.K cl W (mIsX (exT a d e) b m)) := by
  have a2 : PE X (.Name x p2) (tC (.ty ty)) := pe_bltn hg2 z2 hv2 rfl hn2 hdb2
  refine (pe_callB (call_isX I c.mem c.zn.zc c.flds) hg z boot_isinstance (pa_cons he (pa_cons a2 pa_nil hst2) hst) (by decide) (by decide) hst hpl).weak fun σ H Q ⟨env, h, ω, henv, hs, q⟩ => ⟨env, h, ω, henv, hs, (PostG.bind q).mono fun t h1 ω1 H1 N1 S1 q1 v r => ?_⟩
  split at q1
  · rename_i et
    subst et
    obtain ⟨rfl, hdx⟩ := exT_rep S1 r
    exact ⟨.ty ty, .type ty, b, rfl, fun u z => z, kit, hdx, q1 ω1 H1 (Nx.refl _ _) S1 _ rep_bl⟩
  · exact q1.elim
end
def spX (K : PySem.W.Frag) (cl : Nat → Addr) (F : Addr → Addr → Ex → Fn) (n : Nat) (ok : Ex → Prop) : Addr × Obj → Sp := fun p vs H Q _ => vs.length = n ∧ ∃ (d : Addr) (e : Ex), ok e ∧ L2N.Zn (.ref (cl e.c)) (dOf d e) p.2 ∧
  ∃ ts h ω, StOk K cl ω h H ∧ Reps K ω ts vs ∧ PostG K cl W0 ω H [] (F p.1 d e ts h) fun t _ ω' H' => ∀ v, Rep K ω' t v → Q v H'
structure CalX (P : Program) (w : World) (K : PySem.W.Frag) (mg : Str → Option Value) (base : Heap) (cl : Nat → Addr) (x : Str) (j : Nat) (ps : List Str) (F : Addr → Addr → Ex → Fn) (n : Nat) (ok : Ex → Prop) : Prop where
  ex : ∃ f fd, FnP P w K mg base j f fd ps (spX K cl F n ok) ∧ mg x = some (.ref f) ∧ PySem.W.keepIn K (.ref f) = true ∧ Binds K fd ps []
  len : ∀ a d e ts h, ts.length ≠ n → F a d e ts h = .bad
section
variable {P : Program} {w : World} {K : PySem.W.Frag} {mg : Str → Option Value} {base : Heap} {cl : Nat → Addr}
theorem q_fnX {x qual : Str} {params : Arguments} {body : List Stmt} {scope : Scope} {f : Addr} {fd : FuncData} {N ps : List Str} {k nargs nslots : Nat} {ok : Ex → Prop} {sem : Addr → Addr → Ex → MS} (F : FunD K x qual params body scope [] [] f fd) (S : FnScope N ps scope) (hn : N.length = nslots) (hps : ps.length = nargs)
    (hm : mg x = some (.ref f)) (hb : Binds K fd ps [])
    (hB : ∀ (cdv : Value) (A : Around) (outer : List Env) (s : Shared) (H : Hp) (E : XK) (a d : Addr) (oe : Obj) (e : Ex), ok e → OkX (cxH (L2N.CX P w) P w K mg base N qual scope f cdv A outer s H E (a, oe)) cl k a d oe e →
      PSs (cxH (L2N.CX P w) P w K mg base N qual scope f cdv A outer s H E (a, oe)) body (tS K cl W0 (sem a d e))) :
    CalX P w K mg base cl x (k + 1) ps (fun a d e => fn nargs nslots false (sem a d e)) nargs ok := by
  refine ⟨⟨f, fd, FnP.of F S (fun p vs H Q E h => h.1.trans hps.symm) (fun cdv p A outer s H vs Q E hot room sp1 => ?_), hm, F.kp, hb⟩, fun a d e => fn_len⟩
  obtain ⟨hl, d, e, oke, zn, ts, h, ω, hS, hR, hP⟩ := sp1
  have c : OkX (cxH (L2N.CX P w) P w K mg base N qual scope f cdv A outer s H E (p.1, p.2)) cl k p.1 d p.2 e := ⟨S.nd, hot, List.mem_cons_self, room, zn⟩
  refine ⟨_, hB cdv A outer s H E p.1 d p.2 e oke c, startE nslots ts, h, ω, startE_ok hn hR, hS, ?_⟩
  have hP : PostG K cl (fun cls d _ H' => (fun _ _ _ => False : XK) cls d H') ω H [] (fn nargs nslots false (sem p.1 d e) ts h) fun t _ ω' H' => ∀ v, Rep K ω' t v → Q v H' := hP
  unfold fn at hP
  split at hP
  · exact fin_ok hS hP
  · exact hP.elim
end
section
variable {X : Cx} {cl : Nat → Addr} {W : WX} {k j n : Nat} {a d : Addr} {oe : Obj} {e : Ex} {ps : List Str} {F : Addr → Addr → Ex → Fn} {x : Str} {q pos : Pos} {ev : Expr} {es : List Expr} {r : M (List T)} {ok : Ex → Prop}
theorem k_callX (c : OkX X cl k a d oe e) (G : CalX X.prog X.w X.K X.mg X.base cl x j ps F n ok) (hj : j ≤ k) (oke : ok e) (hg : Gl X x) (args : PA X (ev :: es) (tA X.K cl W0 r)) (hdb : (x == ("__debug__" : Str)) = false := by decide)
    (h1 : starEach (ev :: es) X.env = (false, eval ev X.env) :: starEach es X.env := by rfl) (h2 : (backTo pos (starEach es X.env)).any (·.1) = false := by rfl) :
    PE X (.Call (.Name x q) (ev :: es) [] pos) (tE X.K cl W0 (mCall (F a d e) r)) := by
  obtain ⟨f, fd, G1, m, kp, b⟩ := G.ex
  refine (pe_callP G1 (c.room.mono hj) c.hot c.mem hg m kp b args hdb h1 h2).weak fun σ H Q ⟨env, h, ω, henv, hs, q⟩ => ⟨env, h, ω, henv, hs, (PostG.bind q).mono fun as h1 ω1 H1 N1 S1 q1 vs rvs => ?_⟩
  refine ⟨Classical.byContradiction fun z => ?_, d, e, oke, c.zn, as, h1, ω1, S1, rvs, q1.reW⟩
  rw [G.len a d e as h1 (by rw [rvs.length]; exact z)] at q1
  exact q1
end
def okE (cs : List Nat) (e : Ex) : Prop := e.c ∈ cs ∧ ∀ c f t, e = .fld c f t → c = 11 ∧ f = "steps"
open Classical in
noncomputable def sTry (i : Nat) (cs : List Nat) (body : MS) (hd : Addr → Addr → Ex → MS) : MS := fun env h => match body env h with
  | .ex e env1 h1 => if q : (i < env1.length ∧ okE cs e) ∧ ∃ t, ∀ a d, hd a d e (env1.set i (some (exT a d e))) h1 = .rt t h1 then .rt (choose q.2) h1 else .bad
  | o => o
theorem sTry_ex {i : Nat} {cs : List Nat} {body : MS} {hd : Addr → Addr → Ex → MS} {env env1 : Env'} {h h1 : Store} {e : Ex} {t : T} (hb : body env h = .ex e env1 h1) (hi : i < env1.length) (hc : okE cs e) (ht : ∀ a d, hd a d e (env1.set i (some (exT a d e))) h1 = .rt t h1) : sTry i cs body hd env h = .rt t h1 := by
  have q : (i < env1.length ∧ okE cs e) ∧ ∃ t, ∀ a d, hd a d e (env1.set i (some (exT a d e))) h1 = .rt t h1 := ⟨⟨hi, hc⟩, t, ht⟩
  unfold sTry
  rw [hb]
  simp only
  rw [dif_pos q]
  have := Classical.choose_spec q.2 0 0
  rw [ht 0 0] at this
  cases this
  rfl
section
variable {X : Cx} {cl : Nat → Addr} {W : WX} {k i c0 : Nat} {cs : List Nat} {x n : Str} {np pos pos' : Pos} {body suite : List Stmt} {b0 : Stmt} {sem : MS} {hd : Addr → Addr → Ex → MS}
theorem ks_try (co : Ok X W k) (hi : X.N[i]? = some n) (hln : X.env.kindOf n = some .local) (hc : Names X x (.ref (cl c0))) (hm : ∀ c ∈ cs, PySem.W.exmOne X.K (.ref (cl c)) (.ref (cl c0)) = some true)
    (hb : ∀ (W' : WX) (pn : List (Addr × Obj)) (xe : Value → Shared → Prop), Ok (X.tr pn xe) W' k → PSs (X.tr pn xe) body (tS X.K cl W' sem))
    (hsu : ∀ (a d : Addr) (oe : Obj) (e : Ex) (pn : List (Addr × Obj)), okE cs e → OkX (X.suite a ((a, oe) :: pn)) cl k a d oe e → PSs (X.suite a ((a, oe) :: pn)) (b0 :: suite) (tS X.K cl W0 (hd a d e)))
    (hs : X.stack = X.env :: X.outer := by rfl) (hf : X.env.frame = some X.env.locals := by rfl) :
    PS X (.Try body [.ExceptHandler (some (.Name x np)) (some n) (b0 :: suite) pos'] [] [] pos) (tS X.K cl W (sTry i cs sem hd)) := by
  refine (L2N.ps_try_as (tb := fun W' => tS X.K cl W' sem) (ts := fun a cls d D σ H => ∃ (e : Ex) (d1 : Addr), okE cs e ∧ cls = .ref (cl e.c) ∧ d = dOf d1 e ∧ tS X.K cl W0 (hd a d1 e) D σ H) (Wout := W) hs hf co.nd hi hln hc co.tk
    (fun W' pn xe tk hp => hb W' pn xe ⟨co.calm, co.nd, tk, hp, co.room⟩) (fun a oe cls d pn zn hf => ⟨fun pins s σ H D inv z => ?_⟩)).weak fun D σ H ⟨env, h, ω, he, hS, q⟩ => ⟨env, h, ω, he, hS, ?_⟩
  · obtain ⟨e, d1, ec, e1, e2, z⟩ := z
    obtain ⟨vs, hv⟩ := hf
    refine (hsu a d1 oe e pn ec ⟨co.nd, ⟨rfl, vs, hv, zn.2.2 vs hv⟩, List.mem_cons_self, ⟨co.room.dp, co.room.un⟩, ?_⟩).run pins s σ H D inv z
    rw [← e1, ← e2]
    exact zn
  · unfold sTry at q
    revert q
    cases sem env h with
    | ex e env1 h1 =>
      intro q
      simp only at q
      split at q
      · rename_i c
        intro ω1 H1 σ1 cls dd N1 S1 he1 xo
        have hx := hm e.c c.1.2.1
        have spec := Classical.choose_spec c.2
        generalize Classical.choose c.2 = t at q spec
        cases e with
        | txt c1 =>
          obtain ⟨rfl, rfl⟩ := xo
          refine ⟨true, hx, fun _ a na => ⟨.txt c1, 0, c.1.2, rfl, rfl, env1.set i (some (exT a 0 (.txt c1))), h1, ω1, he1.set i ⟨rfl, [], fun z => absurd rfl z, Reps.nil⟩, S1, ?_⟩, fun z => nomatch z⟩
          rw [spec a 0]
          exact fun ω2 H2 v N2 S2 r => q ω2 H2 v (N1.trans N2) S2 r
        | fld c1 f u =>
          obtain ⟨rfl, up, dx, v, rfl, hd1, rv⟩ := xo
          have nr : dx ∉ ω1.rho := fun z => by
            obtain ⟨j, hj, ej⟩ := List.getElem_of_mem z
            have hj2 : j < h1.length := by rw [← S1.len]; exact hj
            have ck := S1.cells j h1[j] dx (List.getElem?_eq_getElem hj2) (by rw [List.getElem?_eq_getElem hj, ej])
            revert ck
            cases h1[j] with
            | lst xs => exact fun ⟨_, vs, z, _⟩ => by rw [hd1] at z; cases z
            | dK xs => exact fun ⟨_, vs, z, _⟩ => by rw [hd1] at z; cases z
            | dT xs => exact fun ⟨_, vs, z, _⟩ => z.elim (fun z => absurd z.1 (by rw [hd1]; exact fun w => by cases w)) fun y => absurd y.2 (by rw [hd1]; exact fun w => by cases w)
            | dead => exact fun ⟨o, z, n⟩ => by rw [hd1] at z; exact n _ (Option.some.inj z).symm
            | ins c xs => exact fun ⟨_, vs, z, _⟩ => by rw [hd1] at z; cases z
          have fixed : ∃ ω2, Nx ω1 H1 ω2 H1 ∧ StOk X.K cl ω2 h1 H1 ∧ ω2.Phi dx = some (.xd [(f, v)]) := by
            cases hp : ω1.Phi dx with
            | none => exact ⟨_, Nx.fixX hp, S1.fixIt hd1 hp nr, upd_same⟩
            | some o =>
              have := S1.phi dx o hp
              rw [hd1] at this
              cases this
              exact ⟨ω1, Nx.refl _ _, S1, hp⟩
          obtain ⟨ω2, N2, S2, hp⟩ := fixed
          refine ⟨true, hx, fun _ a na => ⟨.fld c1 f u, dx, c.1.2, rfl, rfl, env1.set i (some (exT a dx (.fld c1 f u))), h1, ω2, (he1.mono N2.toGr).set i ⟨rfl, [v], fun _ => hp, Reps.one (rv.mono N2.toGr)⟩, S2, ?_⟩, fun z => nomatch z⟩
          rw [spec a dx]
          exact fun ω3 H3 w N3 S3 r => q ω3 H3 w (N1.trans (N2.trans N3)) S3 r
      · exact q.elim
    | nx env1 h1 => exact fun q => q
    | rt t h1 => exact fun q => q
    | bk env1 h1 => exact fun q => q
    | ct env1 h1 => exact fun q => q
    | bad => exact fun q => q
end
structure TryF (K : PySem.W.Frag) (cl : Nat → Addr) (R A : List Nat) (c0 : Nat) : Prop where
  i : ∀ c ∈ R, ExcI K (cl c)
  k : ∀ c ∈ R, ∀ y ∈ A, PySem.W.kitOne K (.ref (cl c)) (.ref (cl y)) = some (decide (c = y))
  v : ∀ c ∈ R, PySem.W.kitOne K (.ref (cl c)) (.type "ValueError") = some true
  m : ∀ c ∈ R, PySem.W.exmOne K (.ref (cl c)) (.ref (cl c0)) = some true
def excIB (K : PySem.W.Frag) (D : Addr) : Bool := (PySem.W.clsIn K D).isSome && (He.eqO (PySem.W.findIn K (.ref D) "__getattribute__") (some (some (.builtin "BaseException.__getattribute__"))) && (He.eqO (PySem.W.findIn K (.ref D) "__getattr__") (some none) &&
  (decide (PySem.W.subIn K (.ref D) (.type "BaseException") = some true) && (He.eqO (PySem.W.findIn K (.ref D) "__class__") (some (some (.builtin "object.__class__"))) && (He.eqO (PySem.W.specialIn K (.builtin "object.__class__") "__get__") (some (some (.builtin "getset_descriptor.__get__"))) &&
  (decide (PySem.W.takesIn K (.builtin "object.__class__") = some true) && (decide (PySem.W.mroIn K D (.type "object") = some true) && PySem.W.hasDictIn K D)))))))
theorem excIB_ok {K : PySem.W.Frag} {D : Addr} (t : excIB K D = true) : ExcI K D := by
  unfold excIB at t
  simp only [Bool.and_eq_true, decide_eq_true_eq] at t
  obtain ⟨t1, t2, t3, t4, t5, t6, t7, t8, t9⟩ := t
  exact ⟨t1, He.eqO_ok t2, He.eqO_ok t3, t4, He.eqO_ok t5, He.eqO_ok t6, t7, t8, t9⟩
def tryB (K : PySem.W.Frag) (R A : List Nat) (c0 : Nat) : Bool := R.all fun c => excIB K (clK K c) && ((A.all fun y => decide (PySem.W.kitOne K (.ref (clK K c)) (.ref (clK K y)) = some (decide (c = y)))) && (decide (PySem.W.kitOne K (.ref (clK K c)) (.type "ValueError") = some true) &&
  decide (PySem.W.exmOne K (.ref (clK K c)) (.ref (clK K c0)) = some true)))
theorem tryB_ok {K : PySem.W.Frag} {R A : List Nat} {c0 : Nat} (t : tryB K R A c0 = true) : TryF K (clK K) R A c0 := by
  unfold tryB at t
  rw [List.all_eq_true] at t
  have h : ∀ c ∈ R, excIB K (clK K c) = true ∧ (∀ y ∈ A, PySem.W.kitOne K (.ref (clK K c)) (.ref (clK K y)) = some (decide (c = y))) ∧ PySem.W.kitOne K (.ref (clK K c)) (.type "ValueError") = some true ∧ PySem.W.exmOne K (.ref (clK K c)) (.ref (clK K c0)) = some true := fun c hc => by
    have := t c hc
    simp only [Bool.and_eq_true, decide_eq_true_eq, List.all_eq_true] at this
    exact this
  exact ⟨fun c hc => excIB_ok (h c hc).1, fun c hc => (h c hc).2.1, fun c hc => (h c hc).2.2.1, fun c hc => (h c hc).2.2.2⟩
end Sm
namespace Sm
open PySem PySem.Spec PyProof.Rows L2
section
variable {X : Cx} {W : WX} {cl : Nat → Addr} {k j n : Nat} {ps : List Str} {F : Fn} {x z : Str} {p pos : Pos} {e : Expr} {es : List Expr} {r : M (List T)} {env : Env'} {h : Store}
end
end Sm
namespace Sm
open PySem PySem.Spec PyProof.Rows L2
section
variable {K : PySem.W.Frag} {cl : Nat → Addr} {ω : Wd} {h : Store} {H : Hp}
end
section
variable {X : Cx} {W : WX} {cl : Nat → Addr} {r : M (List T)}
end
end Sm
namespace Sm
open PySem PySem.Spec PyProof.Rows L2
section
variable {X : Cx} {cl : Nat → Addr} {W : WX} {tg : Expr} {r : M (List T)} {env : Env'} {h : Store}
end
end Sm
namespace Sm
open PySem PySem.Spec PyProof.Rows L2 HT
open PySem.W (krv_all krv_range)
section
variable {E : Value → Shared → Prop} {s : Shared} {w : World} {prog : Program} {A : Around}
theorem sa_rev {sl : Addr} {vl vu vs : Value} {n : Nat} {R : Int × Int × Nat → Shared → Prop} (is : s.heap.IsSliceOf sl vl vu vs) (p1 : IsPart vl none) (p2 : IsPart vu none) (p3 : IsPart vs (some (-1)))
    (q : R ((n : Int) - 1, -1, n) s) : wpAny (model prog w) A (Builtin.Slice.sliceApplied (.ref sl) (pure (n : Int))) R E s := by
  obtain ⟨so, gs, cs, ds⟩ := id is
  delta Builtin.Slice.sliceFields Builtin.Slice.sliceApplied
  refine wpAny_bind (wpAny_bind (wpAny_field gs ds (x := vl) rfl (wpAny_bind (wpAny_field gs ds (x := vu) rfl (wpAny_bind (wpAny_field gs ds (x := vs) rfl (wpAny_pure ?_)))))))
  refine wpAny_bind (slicePart_ p3 ?_)
  show wpAny _ _ (if ((-1 : Int) == 0) = true then _ else _) _ _ s
  rw [if_neg (by decide)]
  have e : Builtin.Slice.slicePlaces ((n : Int) - 1) (-1) (-1) = n := by
    delta Builtin.Slice.slicePlaces
    show Int.toNat (if (-1 : Int) > 0 then _ else _) = n
    rw [if_neg (by decide)]
    by_cases z : (n : Int) - 1 > -1
    · rw [if_pos z, show (-(-1 : Int)) = 1 from rfl, Int.ediv_one]
      omega
    · rw [if_neg z]
      omega
  refine wpAny_bind (slicePart_ p1 (wpAny_bind (slicePart_ p2 (wpAny_bind (wpAny_pure ?_)))))
  show wpAny _ _ (pure ((n : Int) - 1, (-1 : Int), Builtin.Slice.slicePlaces ((n : Int) - 1) (-1) (-1))) _ _ s
  rw [e]
  exact wpAny_pure q
theorem fm_like {α β : Type} {f g : α → Option β} : ∀ {l : List α}, (∀ x ∈ l, f x = g x) → l.filterMap f = l.filterMap g
  | [], _ => rfl
  | x :: r, k => by
    rw [List.filterMap_cons, List.filterMap_cons, k x (List.mem_cons_self ..), fm_like fun y hy => k y (List.mem_cons_of_mem _ hy)]
theorem pick_rev (xs : Array Value) : ((List.range xs.size).filterMap fun (k : Nat) => xs[((xs.size : Int) - 1 + (k : Int) * (-1)).toNat]?).toArray = xs.toList.reverse.toArray := by
  congr 1
  have e1 : (List.range xs.size).filterMap (fun (k : Nat) => xs[((xs.size : Int) - 1 + (k : Int) * (-1)).toNat]?) = ((List.range xs.size).map fun k => xs.size - 1 - k).filterMap fun j => xs[j]? := by
    rw [List.filterMap_map]
    refine fm_like fun k hk => ?_
    have := List.mem_range.mp hk
    show xs[((xs.size : Int) - 1 + (k : Int) * (-1)).toNat]? = xs[xs.size - 1 - k]?
    congr 1
    omega
  rw [e1, krv_range, List.filterMap_reverse, krv_all]
theorem item_rev {t sl : Addr} {its : Array Value} {vl vu vs : Value} {R : Value → Shared → Prop} (ht : IsTup s.heap t its) (is : s.heap.IsSliceOf sl vl vu vs) (p1 : IsPart vl none) (p2 : IsPart vu none) (p3 : IsPart vs (some (-1)))
    (q : R (.ref s.heap.objs.size) { s with heap := s.heap.push { cls := .type "tuple", data := .seq its.toList.reverse.toArray } }) (hz : its.size ≤ sizeLine) : wpAny (model prog w) A (getItem (.ref t) (.ref sl)) R E s := by
  have room : sizeOk (.seq its.toList.reverse.toArray) := by
    show its.toList.reverse.toArray.size ≤ sizeLine
    rw [List.size_toArray, List.length_reverse, Array.length_toList]
    exact hz
  obtain ⟨so, gs, cs, ds⟩ := id is
  have isS : s.TypeIs (.ref sl) "slice" := ⟨so, gs, cs⟩
  unfold getItem
  try with_reducible refine wpAny_holding (?_)
  first | refine wpAny_bind (wpAny_pure (?_)) | skip
  refine wpAny_bind (wpAny_sequenceKey ht.typeIs (by decide) (?_))
  have sg := PyProof.Rows.slot_tuple_getitem
  refine wpAny_bind (wpAny_callSpecial?_slot (name := Str.ofString "__getitem__") ht.typeIs sg (wpAny_call_entry sg ht.typeIs entry_tuple_getitem (?_) (args_tuple_getitem _ _)))
  show wpAny _ _ (Builtin.Tuple.tupleItemsOf (Value.ref t) >>= _) _ _ s
  refine wpAny_bind (tupleItemsOf_ ht (?_))
  refine wpAny_bind (wpAny_typeOf isS ?_)
  rw [if_pos (by decide)]
  refine wpAny_bind (sa_rev is p1 p2 p3 ?_)
  have no : ¬ ((((its.size : Int) - 1) == 0 && (-1 : Int) == 1 && its.size == its.size) = true) := by
    rw [show ((-1 : Int) == 1) = false from rfl, Bool.and_false, Bool.false_and]
    exact Bool.false_ne_true
  show wpAny _ _ (if (((its.size : Int) - 1) == 0 && (-1 : Int) == 1 && its.size == its.size) = true then _ else _) _ _ s
  rw [if_neg no, pick_rev]
  first
    | exact wpAny_bind (m := Builtin.Tuple.tupleExact _) (wpAny_newObj_type (wpAny_pure ⟨_, rfl, wpAny_pure q⟩) room)
    | exact wpAny_bind (m := Builtin.Tuple.tupleExact _) (wpAny_newObj_type (wpAny_bind (wpAny_pure (wpAny_pure ⟨_, rfl, wpAny_pure q⟩))) room)
    | exact wpAny_bind (wpAny_bind (m := Builtin.Tuple.tupleExact _) (wpAny_newObj_type (wpAny_pure (wpAny_pure ⟨_, rfl, wpAny_pure q⟩)) room))
    | exact wpAny_bind (wpAny_bind (m := Builtin.Tuple.tupleExact _) (wpAny_newObj_type (wpAny_pure ⟨_, rfl, wpAny_pure q⟩) room))
end
def tRevT (K : PySem.W.Frag) (te : TE) : TE := fun σ H Q => te σ H fun x H1 => ∃ a xs, x = .ref a ∧ ((SqT K H1 a xs ∧ ∀ p, H1 p = none → Q (.ref p) (upd H1 p (.tup xs.reverse))) ∨ (SqL K H1 a xs ∧ ∀ p, H1 p = none → Q (.ref p) (upd H1 p (.lst xs.reverse))))
section
variable {X : Cx} {cl : Nat → Addr} {W : WX} {m : M T} {env : Env'} {h : Store}
theorem pe_revT {e : Expr} {te : TE} {k : Nat} {p1 p2 p3 pos : Pos} (he : PE X e te) : PE X (.Subscript e (.Slice none none (some (.UnaryOp .USub (.Constant (.int 1) k p1) p2)) p3) pos) (tRevT X.K te) := by
  refine ⟨fun pins s σ H Q I hw => Subscript_ (thn (he.run pins s σ H _ I hw) fun v s1 ⟨x, H1, I1, r1, q1⟩ => ?_)⟩
  obtain ⟨t0, xs, rfl, qq⟩ := q1
  cases r1
  have sp : PO X (some (.UnaryOp .USub (.Constant (.int 1) k p1) p2)) (tPart (tUn (rU fun i => .int (-i)) (tC (.int 1)))) := po_some (pe_un un_neg pe_int)
  refine wpAny_Slice (thn (po_none.run pins s1 σ H1 (fun o K => o = none ∧ K = H1) I1 ⟨rfl, rfl⟩) fun vl s2 ⟨l, H2, I2, pl, el, e2⟩ => ?_)
  cases el
  cases e2
  refine thn (po_none.run pins s2 σ H1 (fun o H3 => o = none ∧ H3 = H1) I2 ⟨rfl, rfl⟩) fun vu s3 ⟨u, H3, I3, pu, eu, e3⟩ => ?_
  cases eu
  cases e3
  refine thn (sp.run pins s3 σ H1 (fun o H4 => o = some (-1) ∧ H4 = H1) I3 ⟨1, rfl, -1, rfl, rfl, rfl⟩) fun vs s4 ⟨o, H4, I4, ps, eo, e4⟩ => ?_
  cases eo
  cases e4
  have I5 : Inv X pins σ H1 { s4 with heap := s4.heap.push { cls := .type "slice", data := .fields #[vl, vu, vs] } } := I4.kept (t' := s4.toks) fun b ob z => Heap.get?_push_of_some _ z
  show wpAny (model X.prog X.w) X.A (subscriptTail e (.Slice none none (some (.UnaryOp .USub (.Constant (.int 1) k p1) p2)) p3) (.ref t0) (.ref s4.heap.objs.size)) (EP X pins σ Q) X.xe { s4 with heap := s4.heap.push { cls := .type "slice", data := .fields #[vl, vu, vs] } }
  rcases qq with ⟨hx, q⟩ | ⟨hx, q⟩
  · obtain ⟨its, r, ht, hz⟩ := I5.tuple hx
    have hl := r.length
    refine tail_any (ops := [.ref t0, .ref s4.heap.objs.size]) ht.typeIs PyProof.Rows.slot_tuple_getitem.lookup ?_ (by with_unfolding_all rfl)
    refine item_rev ht (Heap.IsSliceOf.new _ vl vu vs) pl pu ps ?_ (by rw [List.size_toArray, ← hl]; exact hz)
    refine ⟨.ref _, _, I5.laid (t' := s4.toks) (o := .tup xs.reverse) (fun b ob z => Heap.get?_push_of_some _ z) (Nat.le_refl _) ⟨by rw [List.length_reverse]; exact hz, _, r.reverse, IsTup.new _ _⟩, rfl, q _ (I5.hok.fresh (Nat.le_refl _))⟩
  · obtain ⟨its, r, ht, hz⟩ := I5.list hx
    have hl := r.length
    refine tail_any (ops := [.ref t0, .ref s4.heap.objs.size]) ht.isList.typeIs PySem.slot_list_getitem.lookup ?_ (by with_unfolding_all rfl)
    refine wpAny_getItem_list_slice ht.isList (Heap.IsSliceOf.new _ vl vu vs) pl pu ps (by decide) ?_ (by rw [List.size_toArray, ← hl]; exact hz)
    rw [PySem.W.krv_pick its.toArray]
    refine ⟨.ref _, _, I5.laid (t' := s4.toks) (o := .lst xs.reverse) (fun b ob z => Heap.get?_push_of_some _ z) (Nat.le_refl _) ⟨by rw [List.length_reverse]; exact hz, _, 0, r.reverse, Heap.get?_push_size _ rfl⟩, rfl, q _ (I5.hok.fresh (Nat.le_refl _))⟩
theorem Reps.rev {K : PySem.W.Frag} {ω : Wd} : ∀ {ts : List T} {vs : List V}, Reps K ω ts vs → Reps K ω ts.reverse vs.reverse := by
  intro ts
  induction ts with
  | nil =>
    intro vs r
    rw [r.nil_inv]
    exact Reps.nil
  | cons t ts ih =>
    intro vs r
    obtain ⟨v, vr, rfl, r1, r2⟩ := r.inv
    rw [List.reverse_cons, List.reverse_cons (a := v)]
    exact (ih r2).append (Reps.one r1)
def fRev (a : T) (h : Store) : Option T := match a with
  | .tup xs => some (.tup xs.reverse)
  | a => (lstOf h a).map fun xs => .lst xs.reverse
def mRev (m : M T) : M T := fun env h => (m env h).bind fun a h1 => Out.ofO (fRev a h1) h1
theorem k_rev {a : Expr} {k : Nat} {p1 p2 p3 pos : Pos} (he : PE X a (tE X.K cl W m)) : PE X (.Subscript a (.Slice none none (some (.UnaryOp .USub (.Constant (.int 1) k p1) p2)) p3) pos) (tE X.K cl W (mRev m)) := by
  refine (pe_revT he).weak fun σ H Q ⟨env, h, ω, he, hs, q⟩ => ⟨env, h, ω, he, hs, (PostG.bind q).mono fun t h1 ω1 H1 N1 S1 q1 v r => ?_⟩
  obtain ⟨t', e, q2⟩ := q1.ofO
  unfold fRev at e
  split at e
  · rename_i xs
    cases e
    obtain ⟨p, vs, rfl, b1, c1⟩ := tupOf_ok (xs := xs) S1 r rfl
    exact ⟨p, vs, rfl, .inl ⟨b1, fun p hp => give_tup S1 (Reps.rev c1) (fun ω' H' v N S r => q2 ω' H' N S v r) hp⟩⟩
  · rw [Option.map_eq_some_iff] at e
    obtain ⟨xs, e1, rfl⟩ := e
    obtain ⟨p, vs, rfl, b1, c1⟩ := lstOf_ok S1 r e1
    exact ⟨p, vs, rfl, .inr ⟨SqL.of b1, fun p hp => give_lst S1 (Reps.rev c1) (fun ω' H' v N S r => q2 ω' H' N S v r) hp⟩⟩
end
end Sm
namespace Sm
open PySem PySem.Spec PyProof.Rows L2
abbrev KX (K : PySem.W.Frag) (ω : Wd) := Paired fun (p : List Int × T) (q : List Int × Addr × Value) => p.1 = q.1 ∧ SqT K ω.Phi q.2.1 (p.1.map V.int) ∧ ∃ v, RelV v q.2.2 ∧ Rep K ω p.2 v
section
variable {K : PySem.W.Frag} {ω ω' : Wd} {kvs : List (List Int × T)} {xs : List (List Int × Addr × Value)} {l : List DRow} {k : List Int} {t : T} {v : V} {u : Value} {b : Addr}
end
section
variable {X : Cx} {pins : List (Addr × Obj)} {σ : L2.St} {H : Hp} {s : Shared} {cl : Nat → Addr} {ω : Wd} {h : Store} {n : Nat} {kvs : List (List Int × T)} {ks : List Int} {v : V} {b : Addr}
end
section
variable {X : Cx} {cl : Nat → Addr} {W : WX} {a b o e f : Expr} {m n mo me mx mv mi : M T} {r : M (List T)} {pos p apos cpos : Pos}
end
end Sm
namespace Sm
open PySem PySem.Spec PyProof.Rows L2
section
variable {X : Cx} {cl : Nat → Addr} {W : WX} {o i e : Expr} {mo mi mv : M T} {tpos pos : Pos}
end
end Sm
set_option maxHeartbeats 4000000
namespace Sm
open PySem PySem.Spec PyProof.Rows L2
section
variable {X : Cx} {cl : Nat → Addr} {W : WX} {k : Nat} {r : M (List T)} {e : Expr} {es : List Expr} {p pos : Pos}
end
end Sm
set_option maxHeartbeats 4000000
namespace Sm
open PySem PySem.Spec PyProof.Rows L2
section
variable {P : Program} {w : World} {A : Around} {E : Value → Shared → Prop} {s : Shared}
set_option maxHeartbeats 6000000 in
end
section
variable {X : Cx} {cl : Nat → Addr} {W : WX} {k : Nat} {a : Expr} {m : M T} {p p2 pos q : Pos}
end
end Sm
set_option maxHeartbeats 2000000
namespace Sm
open PySem PySem.Spec PyProof.Rows L2
section
variable {X : Cx} {pins : List (Addr × Obj)} {σ : L2.St} {H : Hp} {s : Shared} {d : Addr} {o : Obj} {l : List DRow} {es : Array DictEntry} {ep : Nat}
end
section
variable {X : Cx} {cl : Nat → Addr} {W : WX} {e a b : Expr} {m n : M T} {tg : Expr} {r : M (List T)} {apos cpos p p2 pos pos2 : Pos}
end
end Sm
set_option maxHeartbeats 2000000
namespace Sm
open PySem PySem.Spec PyProof.Rows L2
section
variable {X : Cx} {cl : Nat → Addr} {W : WX} {k : Nat} {r : M (List T)} {e : Expr} {es : List Expr} {p pos : Pos}
end
end Sm
set_option maxHeartbeats 2000000
namespace Sm
open PySem PySem.Spec PyProof.Rows L2
section
variable {X : Cx} {pins : List (Addr × Obj)} {σ : L2.St} {H : Hp} {s : Shared} {vs : List V} {p0 : Addr} {a e : Expr} {ta : TE}
theorem sqF_at (I : Inv X pins σ H s) (q : SqF X.K H p0 vs) : ∃ o its, s.heap.get? p0 = some o ∧ o.dict = none ∧ o.cls = .type "tuple" ∧ IsTup s.heap p0 its ∧ Vals vs its.toList := by
  rcases q with ⟨o, q, d⟩ | ⟨o, its, n, k, ⟨c, d⟩, dt, _, r⟩
  · obtain ⟨g, _, its, r, o2, g2, c2, n, d2⟩ := I.hok _ _ q
    have g0 := g2
    rw [g] at g2
    cases g2
    exact ⟨o, its.toArray, g, d, c2, ⟨o, g, c2, n, d2⟩, by simpa using r⟩
  · have g := I.kIn _ o k
    exact ⟨o, its, g, d, c, ⟨o, g, c, n, dt⟩, r⟩
end
def unF : T → T
  | .dct [] (x :: r) => .tup (x :: r)
  | t => t
def mUnF (m : M T) : M T := fun env h => (m env h).bind fun a h1 => .ok (unF a) h1
def ixF : T → T → Option T
  | .dct [] (x :: r), .int k => (intsOf? (x :: r)).bind fun ns => if k ∈ ns then some (.int (ns.idxOf k : Nat)) else none
  | _, _ => none
def mIxF (mo me : M T) : M T := fun env h => (mo env h).bind fun a h1 => match a with
  | .dct [] (_ :: _) => (me env h1).bind fun b h2 => Out.ofO (ixF a b) h2
  | _ => .bad
section
variable {X : Cx} {cl : Nat → Addr} {W : WX} {a b c e o : Expr} {m mo me : M T} {r : M (List T)} {p pos apos cpos : Pos}
theorem rep_fix {K : PySem.W.Frag} {ω : Wd} {H : Hp} {h : Store} (S : StOk K cl ω h H) {q : Addr} {ob : Obj} {xs : List T} {vs : List V} (hq : H q = none) (d : ob.dict = none) (rs : Reps K ω xs vs) : Rep K (ω.fix q (.frz ob (.tup vs))) (.dct [] xs) (.ref q) := by
  simp only [Rep]
  exact ⟨q, vs, rfl, .inr ⟨rfl, .inl ⟨ob, upd_same, d⟩⟩, rs.mono (gr_fix (S.freshF hq))⟩
theorem sqF_T {K : PySem.W.Frag} {H : Hp} {q : Addr} {vs : List V} (h : SqF K H q vs) : SqT K H q vs := by
  rcases h with ⟨ob, h, _⟩ | ⟨ob, its, n, k, ⟨cc, _⟩, r⟩
  · exact .inl (.inr ⟨ob, h⟩)
  · exact .inr ⟨ob, its, n, k, cc, r⟩
theorem fix_is {K : PySem.W.Frag} {ω : Wd} {x : T} {xs : List T} {v : V} (r : Rep K ω (.dct [] (x :: xs)) v) : ∃ q vs, v = .ref q ∧ SqF K ω.Phi q vs ∧ Reps K ω (x :: xs) vs := by
  simp only [Rep] at r
  obtain ⟨q, vs, e1, f, rs⟩ := r
  rcases f with ⟨ob, f, l⟩ | ⟨_, f⟩
  · exact absurd l (by simp)
  · exact ⟨q, vs, e1, f, rs⟩
theorem rep_unF {K : PySem.W.Frag} {ω : Wd} {t : T} {v : V} (r : Rep K ω t v) : Rep K ω (unF t) v := by
  unfold unF
  split
  · obtain ⟨q, vs, e1, f, rs⟩ := fix_is r
    simp only [Rep]
    exact ⟨q, vs, e1, sqF_T f, rs⟩
  · exact r
theorem k_unF (h : PE X e (tE X.K cl W m)) : PE X e (tE X.K cl W (mUnF m)) := h.weak fun σ H Q ⟨env, st, ω, he, S, q⟩ => ⟨env, st, ω, he, S, (PostG.bind q).mono fun t h1 ω1 H1 N1 S1 q1 v rv => q1 ω1 H1 (Nx.refl _ _) S1 v (rep_unF rv)⟩
theorem sqF_phi {K : PySem.W.Frag} {H H2 : Hp} {q : Addr} {vs : List V} (m : ∀ a o, H a = some o → H2 a = some o) (r : SqF K H q vs) : SqF K H2 q vs := by
  rcases r with ⟨o, r, d⟩ | r
  · exact .inl ⟨o, m _ _ r, d⟩
  · exact .inr r
theorem k_ixF (ho : PE X o (tE X.K cl W mo)) (he : PE X e (tE X.K cl W me)) (hba : attributeBase o "index" X.env (eval o X.env) = eval o X.env := by rfl)
    (hfew : ((backTo cpos (starEach [e] X.env)).all (fun x => !x.1) && (backToKw cpos (keywordEach [] X.env)).all (fun x => x.1.isSome) && decide (([e] : List Expr).length + ([] : List Keyword).length + (if ([] : List Keyword).isEmpty then 0 else 1) < 30)) = true := by rfl)
    (hline : (apos.endLine == cpos.line) = true := by rfl) (htr : starEach [e] X.env = (false, eval e X.env) :: starEach [] X.env := by rfl) : PE X (.Call (.Attribute o "index" apos) [e] [] cpos) (tE X.K cl W (mIxF mo me)) := by
  refine ⟨fun pins s σ H Q I hh => wpAny_Call_method hba hfew hline F.plainAttrs_tuple F.slot_tuple_index F.type_tuple_index ?_⟩
  obtain ⟨env, h0, ω0, hen, S0, q0⟩ := hh
  refine thn (ho.run pins s σ H _ I ⟨env, h0, ω0, hen, S0, (PostG.bind q0).mono fun ta h1 ω1 H1 N1 S1 q1 x rx => (⟨ta, h1, ω1, hen.mono N1.toGr, S1, rx, q1⟩ : ∃ ta h1 ω1, EnvOk X.K ω1 env σ ∧ StOk X.K cl ω1 h1 H1 ∧ Rep X.K ω1 ta x ∧ PostG X.K cl W ω1 H1 σ (match ta with
    | .dct [] (_ :: _) => (me env h1).bind fun b h2 => Out.ofO (ixF ta b) h2
    | _ => .bad) _)⟩) ?_
  rintro u1 s1 ⟨x, H1, I1, r1, ta, h1, ω1, he1, S1, rx, q1⟩
  match ta, rx, q1 with
  | .dct [] (y :: ys), rx, q1 =>
    obtain ⟨q, vs, rfl, f, rs⟩ := fix_is rx
    obtain ⟨ob, its, g, d, cc, tp, rel⟩ := sqF_at I1 (sqF_phi S1.phi f)
    cases (show u1 = .ref q from r1)
    refine ⟨⟨ob, g, cc⟩, fun c2 z => by cases z; exact ⟨ob, g, d⟩, ?_⟩
    rw [htr]
    refine Calls.callWith_builtin rfl (Calls.evalArgs_plain ?_)
    refine Calls.spliced_cons (thn (he.run pins s1 σ H1 _ I1 ⟨env, h1, ω1, he1, S1, (PostG.bind q1).mono fun tb h2 ω2 H2 N2 S2 q2 z rz => (⟨tb, h2, ω2, S2, rx.mono N2.toGr, rz, q2⟩ : ∃ tb h2 ω2, StOk X.K cl ω2 h2 H2 ∧ Rep X.K ω2 (.dct [] (y :: ys)) (.ref q) ∧ Rep X.K ω2 tb z ∧ PostG X.K cl W ω2 H2 σ (Out.ofO (ixF (.dct [] (y :: ys)) tb) h2) _)⟩) ?_)
    rintro u2 s2 ⟨z, H2, I2, r2, tb, h2, ω2, S2, rx2, rz, q2⟩
    refine Calls.spliced_nil ?_
    cases ex : ixF (.dct [] (y :: ys)) tb with
    | none => rw [ex] at q2; exact q2.elim
    | some t =>
      rw [ex] at q2
      unfold ixF at ex
      split at ex
      · rename_i y2 ys2 k heq
        cases heq
        rw [Option.bind_eq_some_iff] at ex
        obtain ⟨ns, e1, e2⟩ := ex
        split at e2
        · rename_i km
          cases e2
          obtain ⟨q', vs2, eq', f2, rs2⟩ := fix_is rx2
          cases eq'
          obtain ⟨ob2, its2, _, _, _, tp2, rel2⟩ := sqF_at I2 (sqF_phi S2.phi f2)
          rw [rs2.ints e1] at rel2
          rw [rz.int_inv] at r2
          obtain ⟨tk, rfl⟩ := r2
          exact SeqAt.tuple_index_ints (vs := its2.toList) (by rw [Array.toArray_toList]; exact tp2) rel2.ints km ⟨.int _, H2, I2.tok _, ⟨_, rfl⟩, q2 _ _ (Nx.refl _ _) S2 _ rep_int⟩
        · cases e2
      · cases ex
  | .non, rx, q1 => exact q1.elim
  | .bl _, rx, q1 => exact q1.elim
  | .int _, rx, q1 => exact q1.elim
  | .str _, rx, q1 => exact q1.elim
  | .tup _, rx, q1 => exact q1.elim
  | .lst _, rx, q1 => exact q1.elim
  | .loc _, rx, q1 => exact q1.elim
  | .scr _, rx, q1 => exact q1.elim
  | .emp, rx, q1 => exact q1.elim
  | .adr _ _ _ _, rx, q1 => exact q1.elim
  | .fnc _, rx, q1 => exact q1.elim
  | .dct [] [], rx, q1 => exact q1.elim
  | .dct (_ :: _) _, rx, q1 => exact q1.elim
end
end Sm
set_option maxHeartbeats 2000000
namespace Sm
open PySem PySem.Spec PyProof.Rows L2
def fIntT : FA := fun as _ => match as with
  | [.str z] => if z.length ≤ 640 then (intText? z).map .int else none
  | _ => none
def fMulS : F2
  | .str z, .int k, _ => if k = 0 then some (.str Str.empty) else if k = 1 then some (.str z) else if 2 ≤ k ∧ k ≤ 100 ∧ 1 ≤ z.length ∧ z.length ≤ 100 then some (.str ⟨(List.replicate k.toNat z.cps).foldl (· ++ ·) #[]⟩) else none
  | _, _, _ => none
def fLeS : F2
  | .str x, .str y, _ => some (.bl (!decide (y.cps.toList < x.cps.toList)))
  | _, _, _ => none
def strsOf? : List T → Option (List Str)
  | [] => some []
  | .str z :: r => (strsOf? r).map (z :: ·)
  | _ :: _ => none
def mSplit (mo me : M T) : M (List T) := fun env h => (mo env h).bind fun a h1 => match a with
  | .str x => (me env h1).bind fun b h2 => match b with
    | .str y => if (y.length == 0) = false ∧ x.length ≤ 100000 then .ok ((Txt.split x y).map .str) h2 else .bad
    | _ => .bad
  | _ => .bad
def mJoin (mo me : M T) : M T := fun env h => (mo env h).bind fun a h1 => match a with
  | .str x => (me env h1).bind fun b h2 => match (lstOf h2 b).bind strsOf? with
    | some ys => if (ys.map (·.length)).sum + ys.length * x.length ≤ 100000 then .ok (.str (Txt.join x ys)) h2 else .bad
    | none => .bad
  | _ => .bad
section
variable {X : Cx} {cl : Nat → Addr} {W : WX} {k : Nat} {r : M (List T)} {o e : Expr} {es : List Expr} {mo me : M T} {p pos apos : Pos}
theorem c_intT : CallR X (.type "int") (rVA X.K cl fIntT) := by
  intro pins s σ H xs us Q I rx ⟨as, h, ω, t, S, ra, ee, q⟩
  unfold fIntT at ee
  split at ee
  · rename_i z
    obtain ⟨c, ee⟩ : z.length ≤ 640 ∧ (intText? z).map T.int = some t := by
      split at ee
      · exact ⟨by assumption, ee⟩
      · cases ee
    rw [Option.map_eq_some_iff] at ee
    obtain ⟨n, e1, rfl⟩ := ee
    obtain ⟨v, vr, rfl, a, b⟩ := ra.inv
    rw [b.nil_inv, a.str_inv] at rx
    exact call_int_str pins s σ H _ us Q I rx ⟨z, n, rfl, e1, c, q _ _ _ (Nx.refl _ _) S rep_int⟩
  · cases ee
theorem q_intT (z : X.mg "int" = none) (ha : PA X (e :: es) (tA X.K cl W r)) (hg : Gl X "int" := by rfl) (he : starEach (e :: es) X.env = (false, eval e X.env) :: starEach es X.env := by rfl) (hpl : (backTo pos (starEach es X.env)).any (·.1) = false := by rfl) : PE X (.Call (.Name "int" p) (e :: es) [] pos) (tE X.K cl W (mCallF fIntT r)) := k_callTy c_intT hg z boot_int ha (by decide) (by decide) he hpl
theorem fold_size {z : Array Nat} : ∀ (n : Nat) (a : Array Nat), ((List.replicate n z).foldl (· ++ ·) a).size = a.size + n * z.size
  | 0, a => by simp
  | n + 1, a => by
    rw [List.replicate_succ, List.foldl_cons, fold_size n, Array.size_append, Nat.succ_mul]
    omega
theorem o_mulS : OpR X (binaryOp .Mult) (rV2 X.K cl fMulS) := by
  intro pins s σ H x y v u Q I rx ry ⟨a, b, h, ω, t, S, ra, rb, ee, q⟩
  unfold fMulS at ee
  split at ee
  · rename_i z n
    rw [ra.str_inv] at rx
    rw [rb.int_inv] at ry
    obtain ⟨t1, rfl⟩ := rx
    obtain ⟨t2, rfl⟩ := ry
    by_cases c : n = 0
    · rw [if_pos c] at ee
      cases ee
      exact P.mul_str_none (by omega) (by omega) ⟨.str _, H, I.tok _, ⟨_, rfl⟩, q _ _ _ (Nx.refl _ _) S rep_str⟩
    · rw [if_neg c] at ee
      by_cases c1 : n = 1
      · rw [if_pos c1] at ee
        cases ee
        subst c1
        refine P.mul_str (by decide) (fun _ z => by simp at z) (fun _ z => by simp at z) ?_
        rw [if_neg (by decide), if_pos (by simp)]
        exact ⟨.str _, H, I, ⟨_, rfl⟩, q _ _ _ (Nx.refl _ _) S rep_str⟩
      · rw [if_neg c1] at ee
        split at ee
        · rename_i g
          cases ee
          have n1 : ¬ n < 1 := by omega
          have n2 : ¬ ((n == 1 || z.length == 0) = true) := by
            simp only [Bool.or_eq_true, beq_iff_eq]
            omega
          refine P.mul_str (by
            rw [Bool.or_eq_false_iff, decide_eq_false_iff_not, decide_eq_false_iff_not]
            omega) (fun _ _ z => ?_) (fun _ _ => ?_) ?_
          · have a : (100 : Int) ≤ (2 ^ 63 - 1) / n := Int.le_ediv_of_mul_le (by omega) (by omega)
            omega
          · show decide (_ > sizeLine) = false
            rw [decide_eq_false_iff_not, sizeLine_eq]
            have : z.length * n.toNat ≤ 100 * 100 := Nat.mul_le_mul g.2.2.2 (by omega)
            omega
          · rw [if_neg n1, if_neg n2]
            refine ⟨?_, .str _, H, I.tok _, ⟨_, rfl⟩, q _ _ _ (Nx.refl _ _) S rep_str⟩
            show ((List.replicate n.toNat z.cps).foldl (· ++ ·) #[]).size ≤ sizeLine
            rw [fold_size, sizeLine_eq]
            have : n.toNat * z.length ≤ 100 * 100 := Nat.mul_le_mul (by omega) g.2.2.2
            show 0 + n.toNat * z.length ≤ _
            omega
        · cases ee
  · cases ee
theorem o_leS : OpR X (compareOp .LtE) (rV2 X.K cl fLeS) := by
  intro pins s σ H x y v u Q I rx ry ⟨a, b, h, ω, t, S, ra, rb, ee, q⟩
  unfold fLeS at ee
  split at ee
  · cases ee
    rw [ra.str_inv] at rx
    rw [rb.str_inv] at ry
    exact op_le_str pins s σ H _ _ v u Q I rx ry ⟨_, _, rfl, rfl, q _ _ _ (Nx.refl _ _) S rep_bl⟩
  · cases ee
theorem reps_str {K : PySem.W.Frag} {ω : Wd} : ∀ {ys : List Str}, Reps K ω (ys.map T.str) (ys.map V.str)
  | [] => Reps.nil
  | y :: r => Reps.cons rep_str reps_str
theorem strs_inv {K : PySem.W.Frag} {ω : Wd} : ∀ {ts : List T} {vs : List V} {ys : List Str}, Reps K ω ts vs → strsOf? ts = some ys → vs = ys.map V.str
  | [], vs, ys, r, ee => by
    cases ee
    rw [r.nil_inv]
    rfl
  | x :: ts, vs, ys, r, ee => by
    obtain ⟨v, vr, rfl, a, b⟩ := r.inv
    cases x with
    | str z =>
      simp only [strsOf?, Option.map_eq_some_iff] at ee
      obtain ⟨zs, e1, rfl⟩ := ee
      rw [strs_inv b e1, a.str_inv]
      rfl
    | _ => cases ee
theorem kn_split (ho : PE X o (tE X.K cl W mo)) (he : PE X e (tE X.K cl W me)) (hs : starEach [e] X.env = [(false, eval e X.env)] := by rfl) (hbase : attributeBase o "split" X.env (eval o X.env) = eval o X.env := by rfl) (hline : (apos.endLine == pos.line) = true := by rfl) :
    PE X (.Call (.Attribute o "split" apos) [e] [] pos) (tN X.K cl W (mSplit mo me)) := by
  refine (pe_split ho he hs hbase hline).weak fun σ H Q ⟨env, h, ω, hen, S, q⟩ => ⟨env, h, ω, hen, S, (PostG.bind q).mono fun ta h1 ω1 H1 N1 S1 q1 v rv => ?_⟩
  split at q1
  · rename_i x
    rw [rv.str_inv]
    refine ⟨⟨x, rfl⟩, env, h1, ω1, hen.mono N1.toGr, S1, (PostG.bind q1).mono fun tb h2 ω2 H2 N2 S2 q2 u ru => ?_⟩
    split at q2
    · rename_i y
      split at q2
      · rename_i c
        rw [ru.str_inv]
        refine ⟨x, y, rfl, rfl, c.1, by rw [sizeLine_eq]; omega, fun l hl => ?_⟩
        exact q2 _ _ (nx_lay hl) (S2.lay hl) l _ reps_str upd_same (S2.freshF hl) (S2.freshR hl) (N1.dom l (N2.dom l hl))
      · exact q2.elim
    · exact q2.elim
  · exact q1.elim
theorem k_join (ho : PE X o (tE X.K cl W mo)) (he : PE X e (tE X.K cl W me)) (hs : starEach [e] X.env = [(false, eval e X.env)] := by rfl) (hbase : attributeBase o "join" X.env (eval o X.env) = eval o X.env := by rfl) (hline : (apos.endLine == pos.line) = true := by rfl) :
    PE X (.Call (.Attribute o "join" apos) [e] [] pos) (tE X.K cl W (mJoin mo me)) := by
  refine (pe_join ho he hs hbase hline).weak fun σ H Q ⟨env, h, ω, hen, S, q⟩ => ⟨env, h, ω, hen, S, (PostG.bind q).mono fun ta h1 ω1 H1 N1 S1 q1 v rv => ?_⟩
  split at q1
  · rename_i x
    rw [rv.str_inv]
    refine ⟨⟨x, rfl⟩, env, h1, ω1, hen.mono N1.toGr, S1, (PostG.bind q1).mono fun tb h2 ω2 H2 N2 S2 q2 u ru => ?_⟩
    split at q2
    · rename_i ys ee
      split at q2
      · rename_i c
        rw [Option.bind_eq_some_iff] at ee
        obtain ⟨ts, e1, e2⟩ := ee
        obtain ⟨l, vs, rfl, b1, c1⟩ := lstOf_ok S2 ru e1
        have := strs_inv c1 e2
        subst this
        exact ⟨x, l, ys, rfl, rfl, .inl (SqL.of b1), by omega, q2 _ _ (Nx.refl _ _) S2 _ rep_str⟩
      · exact q2.elim
    · exact q2.elim
  · exact q1.elim
end
def tupD (K : PySem.W.Frag) (x : Str) : Bool := match K.lookup (He.ga K x) with
  | some ⟨.type c, none, .seq _ _, _⟩ => decide (c = "tuple")
  | _ => false
theorem con_intsF {K : PySem.W.Frag} {mg : Str → Option Value} {x : Str} {n : Int} {ns : List Int} (hm : mg x = some (.ref (He.ga K x))) (h : He.tupB K x ((n :: ns).map He.Dv.int) = true) (d : tupD K x = true) : Con K mg x (.dct [] ((n :: ns).map T.int)) := by
  refine ⟨.ref (He.ga K x), _, hm, rfl, fun ω => ?_⟩
  have sq := He.tupB_ok h (fun _ => none)
  simp only [Rep]
  refine ⟨_, (n :: ns).map V.int, rfl, .inr ⟨rfl, .inr ?_⟩, ?_⟩
  · rcases sq with ⟨z⟩ | ⟨o, its, m, k, cc, dt, sz, rel⟩
    · rcases z with z | ⟨_, z⟩ <;> cases z
    · unfold tupD at d
      rw [k] at d
      obtain ⟨oc, od, odt, osl⟩ := o
      cases cc
      cases dt
      cases od with
      | some _ => cases d
      | none =>
        refine ⟨_, its, m, k, ⟨rfl, rfl⟩, rfl, sz, ?_⟩
        have e : ∀ l : List Int, (l.map He.Dv.int).map (He.Dv.v K) = l.map V.int := fun l => by
          rw [List.map_map]
          rfl
        rw [← e]
        exact rel
  · generalize n :: ns = l
    induction l with
    | nil => exact Reps.nil
    | cons i r ih => exact Reps.cons rep_int ih
end Sm
set_option maxHeartbeats 2000000
namespace Sm
open PySem PySem.Spec PyProof.Rows L2
section
variable {X : Cx} {cl : Nat → Addr} {W : WX} {es : List Expr} {t : TA} {r : M (List T)} {pos : Pos}
theorem pe_tupK {x1} (ha : PA X es t) : PE X (.Tuple es x1 pos) (fun σ H Q => t σ H fun xs H1 => xs.length ≤ sizeLine ∧ ∀ p o, H1 p = none → o.dict = none → Q (.ref p) (upd H1 p (.frz o (.tup xs)))) := by
  refine ⟨fun pins s σ H Q I hq => wpAny_Tuple_spliced (thn (ha.run pos pins s σ H _ I hq) ?_)⟩
  rintro us s1 ⟨xs, H1, I1, rel, sz, q⟩
  refine ⟨by rw [← rel.length]; exact sz, ?_⟩
  have ob : ObjOk X.prog X.w (upd H1 s1.heap.objs.size (.frz { cls := .type "tuple", data := .seq us.toArray } (.tup xs))) (s1.heap.push { cls := .type "tuple", data := .seq us.toArray }) s1.heap.objs.size (.frz { cls := .type "tuple", data := .seq us.toArray } (.tup xs)) :=
    ⟨Heap.get?_push_size _ rfl, sz, us, rel, IsTup.new _ _⟩
  exact ⟨.ref s1.heap.objs.size, _, I1.laid (t' := s1.toks) (fun b o g => Heap.get?_push_of_some _ g) (Nat.le_refl _) ob, rfl, q _ _ (I1.hok.fresh (Nat.le_refl _)) rfl⟩
def mTupK (r : M (List T)) : M T := fun env h => (r env h).bind fun ts h1 => if ts.length ≤ 10000 then .ok (.dct [] ts) h1 else .bad
theorem k_tupK {x1} (hr : PA X es (tA X.K cl W r)) : PE X (.Tuple es x1 pos) (tE X.K cl W (mTupK r)) :=
  (pe_tupK hr).weak fun σ H Q ⟨env, h, ω, he, S, q⟩ => ⟨env, h, ω, he, S, (PostG.bind q).mono fun ts h1 ω1 H1 N1 S1 q1 vs rs => by
    split at q1
    · rename_i hl
      exact ⟨by rw [← rs.length]; exact le_line hl, fun q ob hq d => q1 _ _ (nx_newF S1 hq) (S1.newF hq) _ (rep_fix S1 hq d rs)⟩
    · exact q1.elim⟩
end
end Sm
namespace Gd
open PySem PySem.Spec PyProof.Rows L2 Sm
noncomputable section
def t_MOST_FIGURES : T := (.int 13)
def t_FIGURES : T := (.str "0123456789")
def t_GREATEST : T := (.int 1000000)
def t_PRIMES_d : T := (.dct [] (([2, 3, 5, 7, 11, 13, 17, 19, 23, 29] : List Int).map T.int))
def t_PRIMES : T := (.tup (([2, 3, 5, 7, 11, 13, 17, 19, 23, 29] : List Int).map T.int))
def b_law_whole : MS := (sRet (mAndV (mUn (fIsi "int") (mVar 0)) (mNotV (mUn (fIsi "bool") (mVar 0)))))
def F_law_whole : Fn := fn 1 1 false b_law_whole
def b_law_same (rc : Fn) : MS := (sSeq (sIf (mTst (mBin fIs (mVar 1) (mC .non)))
  (sRet (mBin fIs (mVar 0) (mC .non)))
  sNil)
  (sSeq (sIf (mTru (mUn (fIsi "bool") (mVar 1)))
  (sRet (mAndV (mUn (fIsi "bool") (mVar 0)) (mBin fEq (mVar 0) (mVar 1))))
  sNil)
  (sSeq (sIf (mTru (mUn (fIsi "int") (mVar 1)))
  (sRet (mAndV (mCall F_law_whole (mCons (mVar 0) mNil)) (mBin fEq (mVar 0) (mVar 1))))
  sNil)
  (sSeq (sIf (mTru (mUn (fIsi "str") (mVar 1)))
  (sRet (mAndV (mUn (fIsi "str") (mVar 0)) (mBin fEq (mVar 0) (mVar 1))))
  sNil)
  (sSeq (sIf (mOrT (mTst (mBin fNe (mUn (fIsi "tuple") (mVar 1)) (mUn (fIsi "tuple") (mVar 0)))) (mTst (mBin fNe (mUn (fIsi "list") (mVar 1)) (mUn (fIsi "list") (mVar 0)))))
  (sRet (mC (.bl false)))
  sNil)
  (sRet (mAndV (mBin fEq (mCallF fLen (mCons (mVar 0) mNil)) (mCallF fLen (mCons (mVar 1) mNil))) (mCallF fAll (mCons (mFrz (mComp (mZip (mCons (mVar 0) (mCons (mVar 1) mNil))) [2, 3] (.tup [2, 3]) mYes (mCall rc (mCons (mVar 2) (mCons (mVar 3) mNil))))) mNil)))))))))
def F_law_same : Nat → Fn
  | 0 => fun _ _ => .bad
  | n + 1 => fn 2 4 false (b_law_same (F_law_same n))
def b_law_pot : MS := (sSeq (sIf (mTst (mBin fGe (mVar 0) (mBin fPow (mC (.int 10)) (mC (.int 18)))))
  (sRet (mCell (mLst (mCons (mBin fSub (mVar 0) (mBin fPow (mC (.int 10)) (mC (.int 18)))) mNil))))
  sNil)
  (sSeq (sSet 1 (mC (.int 0)))
  (sSeq (sFor (mRange1 (mCons (mC (.int 64)) mNil)) (.one 2) [2, 3]
  (sSeq (sSet 3 (mBin fMod (mBin fMul (mBin fAdd (mBin fAdd (mBin fMod (mVar 0) (mC (.int 2147483629))) (mBin fMul (mC (.int 7919)) (mVar 2))) (mC (.int 1))) (mC (.int 48271))) (mC (.int 2147483647))))
  (sSeq (sSet 3 (mBin fMod (mBin fAdd (mBin fAdd (mBin fMul (mVar 3) (mVar 3)) (mBin fMul (mC (.int 69621)) (mVar 2))) (mC (.int 7))) (mC (.int 2147483587))))
  (sSet 1 (mBin fAdd (mBin fMul (mVar 1) (mC (.int 2147483587))) (mVar 3))))))
  (sRet (mCell (mLst (mCons (mVar 1) mNil)))))))
def F_law_pot : Fn := fn 1 4 true b_law_pot
def b_law_take : MS := (sSeq (sSet 2 (mBin fMod (mBin fIdx (mVar 0) (mC (.int 0))) (mVar 1)))
  (sSeq (sItem (mBin fFdiv (mBin fIdx (mVar 0) (mC (.int 0))) (mVar 1)) (mVar 0) (mC (.int 0)))
  (sRet (mVar 2))))
def F_law_take : Fn := fn 2 3 false b_law_take
def b_law_line : MS := (sSeq (sSet 3 (mCell (mNew2 fRep (mFrz (mLst (mCons (mC (.int 0)) mNil))) (mC (.int 10)))))
  (sSeq (sFor (mSeq (mVar 1)) (.one 4) [1, 4]
  (sItem (mCall F_law_take (mCons (mVar 0) (mCons (mBin fAdd (mVar 2) (mC (.int 1))) mNil))) (mVar 3) (mVar 4)))
  (sSeq (sIf (mTst (mBin fEq (mCall F_law_take (mCons (mVar 0) (mCons (mC (.int 6)) mNil))) (mC (.int 0))))
  (sItem (mCall F_law_take (mCons (mVar 0) (mCons (mBin fAdd (mVar 2) (mC (.int 1))) mNil))) (mVar 3) (mCall F_law_take (mCons (mVar 0) (mCons (mC (.int 10)) mNil))))
  sNil)
  (sRet (mCallF fTuple (mCons (mVar 3) mNil))))))
def F_law_line : Fn := fn 3 5 false b_law_line
def b_law_primes : MS := (sRet (mTup (mCons (mC (.int 2)) (mCons (mC (.int 3)) (mCons (mC (.int 5)) (mCons (mC (.int 7)) (mCons (mC (.int 11)) (mCons (mC (.int 13)) (mCons (mC (.int 17)) (mCons (mC (.int 19)) (mCons (mC (.int 23)) (mCons (mC (.int 29)) mNil))))))))))))
def F_law_primes : Fn := fn 0 0 false b_law_primes
def b_law_kind_of (ea ed : Addr) (ee : Ex) : MS := (sSeq (sSet 1 (mFrz (mLst (mCons (mIsX (exT ea ed ee) (decide (ee.c = 11)) (mVar 0)) (mCons (mIsX (exT ea ed ee) (decide (ee.c = 21)) (mVar 0)) (mCons (mIsX (exT ea ed ee) (decide (ee.c = 20)) (mVar 0)) (mCons (mIsX (exT ea ed ee) (decide (ee.c = 14)) (mVar 0)) mNil)))))))
  (sSeq (sSet 1 (mBin fAdd (mVar 1) (mFrz (mLst (mCons (mIsX (exT ea ed ee) (decide (ee.c = 15)) (mVar 0)) (mCons (mIsX (exT ea ed ee) (decide (ee.c = 18)) (mVar 0)) (mCons (mIsX (exT ea ed ee) (decide (ee.c = 16)) (mVar 0)) (mCons (mIsX (exT ea ed ee) (decide (ee.c = 22)) (mVar 0)) mNil))))))))
  (sSeq (sSet 1 (mBin fAdd (mVar 1) (mFrz (mLst (mCons (mIsX (exT ea ed ee) (decide (ee.c = 13)) (mVar 0)) (mCons (mIsX (exT ea ed ee) (decide (ee.c = 19)) (mVar 0)) (mCons (mIsX (exT ea ed ee) (decide (ee.c = 17)) (mVar 0)) (mCons (mIsX (exT ea ed ee) (decide (ee.c = 12)) (mVar 0)) mNil))))))))
  (sSeq (sIf (mOrT (mTst (mBin fNe (mMethL fCount (mVar 1) (mCons (mC (.bl true)) mNil)) (mC (.int 1)))) (mNotT (mTru (mIsX (exT ea ed ee) true (mVar 0)))))
  (sRet (mC (.str "other")))
  sNil)
  (sSeq (sSet 2 (mFrz (mLst (mCons (mC (.str "rest")) (mCons (mC (.str "deed")) (mCons (mC (.str "name")) (mCons (mC (.str "number")) (mCons (mC (.str "order")) (mCons (mC (.str "powers")) (mCons (mC (.str "program")) (mCons (mC (.str "row")) mNil)))))))))))
  (sSeq (sSet 2 (mBin fAdd (mVar 2) (mFrz (mLst (mCons (mC (.str "text")) (mCons (mC (.str "trail")) (mCons (mC (.str "shared")) (mCons (mC (.str "many")) mNil))))))))
  (sRet (mBin fIdx (mVar 2) (mMethL fIndex (mVar 1) (mCons (mC (.bl true)) mNil))))))))))
def F_law_kind_of : Addr → Addr → Ex → Fn := fun ea ed ee => fn 1 3 false (b_law_kind_of ea ed ee)
def b_law_cell_at : MS := (sSeq (sIf (mTst (mBin fLt (mVar 1) (mCallF fLen (mCons (mVar 0) mNil))))
  (sRet (mBin fIdx (mVar 0) (mVar 1)))
  sNil)
  (sRet (mC (.int 0))))
def F_law_cell_at : Fn := fn 2 2 false b_law_cell_at
def b_law_order : MS := (sSeq (sSet 2 (mCell (mLst mNil)))
  (sSeq (sFor (mRange1 (mCons (mVar 1) mNil)) (.one 3) [1, 3]
  (sExp (mMethL fInsert (mVar 2) (mCons (mCall F_law_take (mCons (mVar 0) (mCons (mBin fAdd (mVar 3) (mC (.int 1))) mNil))) (mCons (mVar 3) mNil)))))
  (sRet (mCallF fTuple (mCons (mVar 2) mNil)))))
def F_law_order : Fn := fn 2 4 false b_law_order
def b_law_places : MS := (sSeq (sSet 1 (mBin fAdd (mC (.int 1)) (mCall F_law_take (mCons (mVar 0) (mCons (mC (.int 5)) mNil)))))
  (sSeq (sIf (mTst (mBin fEq (mCall F_law_take (mCons (mVar 0) (mCons (mC (.int 2)) mNil))) (mC (.int 0))))
  (sRet (mTupR (mZero (mVar 1))))
  sNil)
  (sRet (mSl (mCall F_law_order (mCons (mVar 0) (mCons (mC (.int 10)) mNil))) (mPart none) (mPart (some (mVar 1)))))))
def F_law_places : Fn := fn 1 2 false b_law_places
def b_law_line_text_v2 : MS := (sSeq (sSet 1 (mC (.str "")))
  (sSeq (sFor (mZip (mCons (mCall F_law_primes mNil) (mCons (mVar 0) mNil))) (.tup [3, 2]) [0, 2, 3]
  (sIf (mTst (mBin fGt (mVar 2) (mC (.int 0))))
  (sSet 1 (mBin fAdd (mBin fAdd (mBin fAdd (mBin fAdd (mVar 1) (mBin fMulS (mC (.str "*")) (mCallF fInt (mCons (mBin fNe (mVar 1) (mC (.str ""))) mNil)))) (mCallF fStr (mCons (mVar 3) mNil))) (mC (.str "^"))) (mCallF fStr (mCons (mVar 2) mNil))))
  sNil))
  (sSeq (sIf (mTst (mBin fEq (mVar 1) (mC (.str ""))))
  (sRet (mC (.str "1")))
  sNil)
  (sRet (mVar 1)))))
def F_law_line_text_v2 : Fn := fn 1 4 false b_law_line_text_v2
def b_number_in : MS := (sSeq (sIf (mOrT (mNotT (mTst (mChain fLe fLe (mC (.int 1)) (mCallF fLen (mCons (mVar 0) mNil)) (mC t_MOST_FIGURES)))) (mAndT (mTst (mBin fEq (mBin fIdx (mVar 0) (mC (.int 0))) (mC (.str "0")))) (mTst (mBin fNe (mVar 0) (mC (.str "0"))))))
  (sRet (mC .non))
  sNil)
  (sSeq (sFor (mSeq (mVar 0)) (.one 1) [1]
  (sIf (mTst (mBin fNotIn (mVar 1) (mC t_FIGURES)))
  (sRet (mC .non))
  sNil))
  (sRet (mCallF fIntT (mCons (mVar 0) mNil)))))
def F_number_in : Fn := fn 1 2 false b_number_in
def b_part_in : MS := (sSeq (sSet 1 (mFrz (mComp (mSeq (mFrz (mSplit (mVar 0) (mC (.str "^"))))) [2] (.one 2) mYes (mCall F_number_in (mCons (mVar 2) mNil)))))
  (sSeq (sIf (mOrT (mTst (mBin fNe (mCallF fLen (mCons (mVar 1) mNil)) (mC (.int 2)))) (mOrT (mTst (mBin fNotIn (mBin fIdx (mVar 1) (mC (.int 0))) (mC t_PRIMES))) (mOrT (mTst (mBin fIs (mBin fIdx (mVar 1) (mC (.int 1))) (mC .non))) (mNotT (mTst (mChain fLe fLe (mC (.int 1)) (mBin fIdx (mVar 1) (mC (.int 1))) (mC t_GREATEST)))))))
  (sRet (mC .non))
  sNil)
  (sRet (mTup (mCons (mIxF (mC t_PRIMES_d) (mBin fIdx (mVar 1) (mC (.int 0)))) (mCons (mBin fIdx (mVar 1) (mC (.int 1))) mNil))))))
def F_part_in : Fn := fn 1 3 false b_part_in
def b_powers_read : MS := (sSeq (sIf (mNotT (mTru (mUn (fIsi "str") (mVar 0))))
  (sRaise (.txt 13))
  sNil)
  (sSeq (sSet 1 (mCell (mNew2 fRep (mFrz (mLst (mCons (mC (.int 0)) mNil))) (mCallF fLen (mCons (mC t_PRIMES) mNil)))))
  (sSeq (sIf (mTst (mBin fEq (mVar 0) (mC (.str "1"))))
  (sRet (mCallF fTuple (mCons (mVar 1) mNil)))
  sNil)
  (sSeq (sSet 2 (mUn fNeg (mC (.int 1))))
  (sSeq (sFor (mSeq (mFrz (mSplit (mVar 0) (mC (.str "*"))))) (.one 3) [0, 3, 4]
  (sSeq (sSet 4 (mCall F_part_in (mCons (mVar 3) mNil)))
  (sSeq (sIf (mOrT (mTst (mBin fIs (mVar 4) (mC .non))) (mTst (mBin fLe (mBin fIdx (mVar 4) (mC (.int 0))) (mVar 2))))
  (sRaise (.txt 13))
  sNil)
  (sSeq (sSet 2 (mBin fIdx (mVar 4) (mC (.int 0))))
  (sItem (mBin fIdx (mVar 4) (mC (.int 1))) (mVar 1) (mVar 2))))))
  (sRet (mCallF fTuple (mCons (mVar 1) mNil))))))))
def F_powers_read : Fn := fn 1 5 false b_powers_read
def b_law_bent_text : MS := (sSeq (sSet 4 (mCall F_law_take (mCons (mVar 0) (mCons (mBin fAdd (mCallF fLen (mCons (mVar 1) mNil)) (mC (.int 1))) mNil))))
  (sSeq (sSet 5 (mBin fIdx (mVar 2) (mCall F_law_take (mCons (mVar 0) (mCons (mCallF fLen (mCons (mVar 2) mNil)) mNil)))))
  (sSeq (sSet 6 (mFrz (mSplit (mVar 1) (mC (.str " ")))))
  (sSeq (sSet 7 (mCall F_law_take (mCons (mVar 0) (mCons (mCallF fLen (mCons (mVar 6) mNil)) mNil))))
  (sSeq (sSet 8 (mBin fIdx (mVar 3) (mCall F_law_take (mCons (mVar 0) (mCons (mCallF fLen (mCons (mVar 3) mNil)) mNil)))))
  (sSeq (sSet 9 (mFrz (mLst (mCons (mVar 1) (mCons (mBin fAdd (mBin fAdd (mSl (mVar 1) (mPart none) (mPart (some (mVar 4)))) (mVar 5)) (mSl (mVar 1) (mPart (some (mVar 4))) (mPart none))) (mCons (mBin fAdd (mSl (mVar 1) (mPart none) (mPart (some (mVar 4)))) (mSl (mVar 1) (mPart (some (mBin fAdd (mVar 4) (mC (.int 1))))) (mPart none))) (mCons (mBin fAdd (mBin fAdd (mSl (mVar 1) (mPart none) (mPart (some (mVar 4)))) (mVar 5)) (mSl (mVar 1) (mPart (some (mBin fAdd (mVar 4) (mC (.int 1))))) (mPart none))) (mCons (mVar 8) mNil))))))))
  (sSeq (sSet 9 (mBin fAdd (mVar 9) (mFrz (mLst (mCons (mJoin (mC (.str " ")) (mBin fAdd (mSl (mVar 6) (mPart none) (mPart (some (mVar 7)))) (mSl (mVar 6) (mPart (some (mBin fAdd (mVar 7) (mC (.int 1))))) (mPart none)))) (mCons (mJoin (mC (.str " ")) (mBin fAdd (mSl (mVar 6) (mPart none) (mPart (some (mBin fAdd (mVar 7) (mC (.int 1)))))) (mSl (mVar 6) (mPart (some (mVar 7))) (mPart none)))) mNil))))))
  (sSeq (sSet 9 (mBin fAdd (mVar 9) (mFrz (mLst (mCons (mBin fAdd (mC (.str " ")) (mVar 1)) (mCons (mBin fAdd (mVar 1) (mC (.str " "))) (mCons (mJoin (mC (.str " ")) (mBin fAdd (mBin fAdd (mSl (mVar 6) (mPart none) (mPart (some (mVar 7)))) (mFrz (mLst (mCons (mVar 8) mNil)))) (mSl (mVar 6) (mPart (some (mBin fAdd (mVar 7) (mC (.int 1))))) (mPart none)))) (mCons (mBin fAdd (mVar 1) (mVar 5)) mNil))))))))
  (sRet (mBin fIdx (mVar 9) (mCall F_law_take (mCons (mVar 0) (mCons (mCallF fLen (mCons (mVar 9) mNil)) mNil)))))))))))))
def F_law_bent_text : Fn := fn 4 10 false b_law_bent_text
def b_law_figures_v2 : MS := (sSeq (sIf (mOrT (mTst (mBin fEq (mVar 0) (mC (.str "")))) (mOrT (mTst (mBin fGt (mCallF fLen (mCons (mVar 0) mNil)) (mC (.int 19)))) (mTst (mBin fNe (mFrz (mComp (mSeq (mVar 0)) [1] (.one 1) (mNotT (mTst (mChain fLeS fLeS (mC (.str "0")) (mVar 1) (mC (.str "9"))))) (mVar 1))) (mFrz (mLst mNil))))))
  (sRet (mC .non))
  sNil)
  (sSeq (sIf (mTst (mBin fNe (mCallF fStr (mCons (mCallF fIntT (mCons (mVar 0) mNil)) mNil)) (mVar 0)))
  (sRet (mC .non))
  sNil)
  (sRet (mCallF fIntT (mCons (mVar 0) mNil)))))
def F_law_figures_v2 : Fn := fn 1 2 false b_law_figures_v2
def b_law_primes_v3 : MS := (sRet (mTupK (mCons (mC (.int 2)) (mCons (mC (.int 3)) (mCons (mC (.int 5)) (mCons (mC (.int 7)) (mCons (mC (.int 11)) (mCons (mC (.int 13)) (mCons (mC (.int 17)) (mCons (mC (.int 19)) (mCons (mC (.int 23)) (mCons (mC (.int 29)) mNil))))))))))))
def F_law_primes_v3 : Fn := fn 0 0 false b_law_primes_v3
def b_law_line_text_v3 : MS := (sSeq (sSet 1 (mC (.str "")))
  (sSeq (sFor (mZip (mCons (mUnF (mCall F_law_primes_v3 mNil)) (mCons (mVar 0) mNil))) (.tup [3, 2]) [0, 2, 3]
  (sIf (mTst (mBin fGt (mVar 2) (mC (.int 0))))
  (sSet 1 (mBin fAdd (mBin fAdd (mBin fAdd (mBin fAdd (mVar 1) (mBin fMulS (mC (.str "*")) (mCallF fInt (mCons (mBin fNe (mVar 1) (mC (.str ""))) mNil)))) (mCallF fStr (mCons (mVar 3) mNil))) (mC (.str "^"))) (mCallF fStr (mCons (mVar 2) mNil))))
  sNil))
  (sSeq (sIf (mTst (mBin fEq (mVar 1) (mC (.str ""))))
  (sRet (mC (.str "1")))
  sNil)
  (sRet (mVar 1)))))
def F_law_line_text_v3 : Fn := fn 1 4 false b_law_line_text_v3
def b_law_line_due : MS := (sSeq (sSet 1 (mCell (mNew2 fRep (mFrz (mLst (mCons (mC (.int 0)) mNil))) (mC (.int 10)))))
  (sSeq (sIf (mTst (mBin fEq (mVar 0) (mC (.str "1"))))
  (sRet (mCallF fTuple (mCons (mVar 1) mNil)))
  sNil)
  (sSeq (sSet 2 (mC (.int 0)))
  (sSeq (sFor (mSeq (mFrz (mSplit (mVar 0) (mC (.str "*"))))) (.one 4) [0, 3, 4]
  (sSeq (sSet 3 (mFrz (mComp (mSeq (mFrz (mSplit (mVar 4) (mC (.str "^"))))) [5] (.one 5) mYes (mCall F_law_figures_v2 (mCons (mVar 5) mNil)))))
  (sSeq (sIf (mOrT (mTst (mBin fNe (mCallF fLen (mCons (mVar 3) mNil)) (mC (.int 2)))) (mOrT (mTst (mBin fIn (mC .non) (mVar 3))) (mOrT (mTst (mBin fNotIn (mBin fIdx (mVar 3) (mC (.int 0))) (mUnF (mCall F_law_primes_v3 mNil)))) (mTst (mBin fLe (mBin fIdx (mVar 3) (mC (.int 0))) (mVar 2))))))
  (sRet (mC .non))
  sNil)
  (sSeq (sIf (mNotT (mTst (mChain fLe fLe (mC (.int 1)) (mBin fIdx (mVar 3) (mC (.int 1))) (mBin fPow (mC (.int 10)) (mC (.int 6))))))
  (sRet (mC .non))
  sNil)
  (sSeq (sSet 2 (mBin fIdx (mVar 3) (mC (.int 0))))
  (sItem (mBin fIdx (mVar 3) (mC (.int 1))) (mVar 1) (mIxF (mCall F_law_primes_v3 mNil) (mVar 2))))))))
  (sRet (mCallF fTuple (mCons (mVar 1) mNil)))))))
def F_law_line_due : Fn := fn 1 6 false b_law_line_due
def b_law_told_v12 : MS := (sTry 1 [13]
  (sRet (mCall F_powers_read (mCons (mVar 0) mNil)))
  fun ea ed ee => (sRet (mCall (F_law_kind_of ea ed ee) (mCons (mVar 1) mNil))))
def F_law_told_v12 : Fn := fn 1 2 false b_law_told_v12
def b_law_k05 : MS := (sSeq (sFor (mRange1 (mCons (mCallF fMax (mCons (mC (.int 1)) (mCons (mCallF fMin (mCons (mCallF fLen (mCons (mVar 0) mNil)) (mCons (mC (.int 40)) mNil))) mNil))) mNil)) (.one 2) [1, 2, 3, 4, 5, 6, 7, 8, 9, 10]
  (sSeq (sSet 6 (mCall F_law_pot (mCons (mCall F_law_cell_at (mCons (mVar 0) (mCons (mVar 2) mNil))) mNil)))
  (sSeq (sSet 3 (mCall F_law_line (mCons (mVar 6) (mCons (mCall F_law_places (mCons (mVar 6) mNil)) (mCons (mBin fIdx (mFrz (mLst (mCons (mC (.int 9)) (mCons (mBin fPow (mC (.int 10)) (mC (.int 6))) mNil)))) (mCall F_law_take (mCons (mVar 6) (mCons (mC (.int 2)) mNil)))) mNil)))))
  (sSeq (sSet 7 (mCall F_law_line_text_v3 (mCons (mVar 3) mNil)))
  (sSeq (sSet 4 (mFrz (mLst (mCons (mC (.str "")) (mCons (mC (.str "2")) (mCons (mC (.str "2^")) (mCons (mC (.str "^2")) (mCons (mC (.str "2^0")) (mCons (mC (.str "4^1")) (mCons (mC (.str "31^1")) (mCons (mC (.str "2^1000000")) (mCons (mC (.str "2^1000001")) (mCons (mC (.str "2^01")) (mCons (mC (.str "02^1")) (mCons (mC (.str "1^1")) (mCons (mC (.str "1*2^1")) mNil))))))))))))))))
  (sSeq (sSet 4 (mBin fAdd (mVar 4) (mFrz (mLst (mCons (mC (.str "3^1*2^1")) (mCons (mC (.str "2^1*2^1")) (mCons (mC (.str "2^1*")) (mCons (mC (.str "*2^1")) (mCons (mC (.str "2^1 * 3^1")) (mCons (mC (.str "2^-1")) (mCons (mC (.str "2^1^1")) (mCons (mC (.str "0")) (mCons (mC (.str "11")) (mCons (mC (.str "2*3")) mNil))))))))))))))
  (sSeq (sFor (mRange1 (mCons (mC (.int 2)) mNil)) (.one 9) [1, 2, 5, 8, 9, 10]
  (sSeq (sSet 5 (mCall F_law_bent_text (mCons (mVar 6) (mCons (mVar 7) (mCons (mC (.str " *^0123456789-")) (mCons (mVar 4) mNil))))))
  (sSeq (sSet 1 (mCall F_law_line_due (mCons (mVar 5) mNil)))
  (sSeq (sIf (mTst (mBin fIs (mVar 1) (mC .non)))
  (sSet 1 (mC (.str "text")))
  sNil)
  (sIf (mNotT (mTru (mCall (F_law_same 8) (mCons (mCall F_law_told_v12 (mCons (mVar 5) mNil)) (mCons (mVar 1) mNil)))))
  (sRet (mC (.bl false)))
  sNil)))))
  (sSeq (sSet 10 (mJoin (mC (.str "*")) (mRev (mFrz (mSplit (mVar 7) (mC (.str "*")))))))
  (sSeq (sSet 1 (mCall F_law_line_due (mCons (mVar 10) mNil)))
  (sSeq (sIf (mTst (mBin fIs (mVar 1) (mC .non)))
  (sSet 1 (mC (.str "text")))
  sNil)
  (sSeq (sIf (mNotT (mTru (mCall (F_law_same 8) (mCons (mCall F_law_told_v12 (mCons (mVar 10) mNil)) (mCons (mVar 1) mNil)))))
  (sRet (mC (.bl false)))
  sNil)
  (sSeq (sSet 8 (mBin fIdx (mFrz (mLst (mCons (mC .non) (mCons (mC (.int 2)) (mCons (mC (.bl true)) (mCons (mFrz (mLst (mCons (mVar 7) mNil))) (mCons (mTup (mCons (mVar 7) mNil)) (mCons mEmp (mCons (mVar 3) mNil))))))))) (mCall F_law_take (mCons (mVar 6) (mCons (mC (.int 7)) mNil)))))
  (sIf (mOrT (mTst (mBin fNe (mCall F_law_told_v12 (mCons (mVar 8) mNil)) (mC (.str "text")))) (mNotT (mTru (mCall (F_law_same 8) (mCons (mCall F_law_told_v12 (mCons (mVar 7) mNil)) (mCons (mVar 3) mNil))))))
  (sRet (mC (.bl false)))
  sNil)))))))))))))
  (sRet (mBin fEq (mCall F_law_told_v12 (mCons (mC (.str "")) mNil)) (mC (.str "text")))))
def F_law_k05 : Fn := fn 1 11 false b_law_k05
end
end Gd
section
set_option maxHeartbeats 4000000
namespace K05
open PySem PySem.Spec PyProof.Rows L2 Sm Gd
def topS (i : Nat) : Stmt := PySem.Challenge.pw_wholefract_k05_texts_of_no_powers.main.body.getD i (.Pass ⟨0, 0, 0, 0⟩)
abbrev s_law_pot : Stmt := topS 24
theorem sc_law_pot : FnScope ["cell", "number", "j", "more"] ["cell"] (defScope s_law_pot) := ⟨rfl, rfl, rfl, by decide +kernel, rfl, by decide +kernel, by decide +kernel⟩
abbrev s_law_take : Stmt := topS 25
theorem sc_law_take : FnScope ["pot", "far", "found"] ["pot", "far"] (defScope s_law_take) := ⟨rfl, rfl, rfl, by decide +kernel, rfl, by decide +kernel, by decide +kernel⟩
abbrev s_law_line : Stmt := topS 28
theorem sc_law_line : FnScope ["pot", "places", "most", "found", "place"] ["pot", "places", "most"] (defScope s_law_line) := ⟨rfl, rfl, rfl, by decide +kernel, rfl, by decide +kernel, by decide +kernel⟩
abbrev s_law_primes : Stmt := topS 31
theorem sc_law_primes : FnScope [] [] (defScope s_law_primes) := ⟨rfl, rfl, rfl, by decide +kernel, rfl, by decide +kernel, by decide +kernel⟩
abbrev s_law_line_text : Stmt := topS 32
theorem sc_law_line_text : FnScope ["line", "found", "often", "prime"] ["line"] (defScope s_law_line_text) := ⟨rfl, rfl, rfl, by decide +kernel, rfl, by decide +kernel, by decide +kernel⟩
abbrev s_law_figures : Stmt := topS 34
theorem sc_law_figures : FnScope ["word", "sign"] ["word"] (defScope s_law_figures) := ⟨rfl, rfl, rfl, by decide +kernel, rfl, by decide +kernel, by decide +kernel⟩
abbrev s_law_line_due : Stmt := topS 35
theorem sc_law_line_due : FnScope ["text", "found", "last", "halves", "part", "half"] ["text"] (defScope s_law_line_due) := ⟨rfl, rfl, rfl, by decide +kernel, rfl, by decide +kernel, by decide +kernel⟩
abbrev s_number_in : Stmt := topS 19
theorem sc_number_in : FnScope ["word", "sign"] ["word"] (defScope s_number_in) := ⟨rfl, rfl, rfl, by decide +kernel, rfl, by decide +kernel, by decide +kernel⟩
abbrev s_part_in : Stmt := topS 20
theorem sc_part_in : FnScope ["part", "halves", "half"] ["part"] (defScope s_part_in) := ⟨rfl, rfl, rfl, by decide +kernel, rfl, by decide +kernel, by decide +kernel⟩
abbrev s_powers_read : Stmt := topS 21
theorem sc_powers_read : FnScope ["text", "found", "last", "part", "told"] ["text"] (defScope s_powers_read) := ⟨rfl, rfl, rfl, by decide +kernel, rfl, by decide +kernel, by decide +kernel⟩
abbrev s_law_kind_of : Stmt := topS 36
theorem sc_law_kind_of : FnScope ["e", "some", "words"] ["e"] (defScope s_law_kind_of) := ⟨rfl, rfl, rfl, by decide +kernel, rfl, by decide +kernel, by decide +kernel⟩
abbrev s_law_told : Stmt := topS 37
theorem sc_law_told : FnScope ["thing", "e"] ["thing"] (defScope s_law_told) := ⟨rfl, rfl, rfl, by decide +kernel, rfl, by decide +kernel, by decide +kernel⟩
abbrev s_law_cell_at : Stmt := topS 23
theorem sc_law_cell_at : FnScope ["script", "k"] ["script", "k"] (defScope s_law_cell_at) := ⟨rfl, rfl, rfl, by decide +kernel, rfl, by decide +kernel, by decide +kernel⟩
abbrev s_law_order : Stmt := topS 26
theorem sc_law_order : FnScope ["pot", "wide", "found", "k"] ["pot", "wide"] (defScope s_law_order) := ⟨rfl, rfl, rfl, by decide +kernel, rfl, by decide +kernel, by decide +kernel⟩
abbrev s_law_places : Stmt := topS 27
theorem sc_law_places : FnScope ["pot", "wide"] ["pot"] (defScope s_law_places) := ⟨rfl, rfl, rfl, by decide +kernel, rfl, by decide +kernel, by decide +kernel⟩
abbrev s_law_bent_text : Stmt := topS 33
theorem sc_law_bent_text : FnScope ["pot", "text", "signs", "odds", "at", "sign", "words", "place", "odd", "some"] ["pot", "text", "signs", "odds"] (defScope s_law_bent_text) := ⟨rfl, rfl, rfl, by decide +kernel, rfl, by decide +kernel, by decide +kernel⟩
abbrev s_law_whole : Stmt := topS 29
theorem sc_law_whole : FnScope ["found"] ["found"] (defScope s_law_whole) := ⟨rfl, rfl, rfl, by decide +kernel, rfl, by decide +kernel, by decide +kernel⟩
abbrev s_law_same : Stmt := topS 30
theorem sc_law_same : FnScope ["found", "due", "one", "other"] ["found", "due"] (defScope s_law_same) := ⟨rfl, rfl, rfl, by decide +kernel, rfl, by decide +kernel, by decide +kernel⟩
abbrev s_law : Stmt := topS 38
theorem sc_law : FnScope ["script", "due", "k", "line", "odds", "other", "pot", "text", "thing", "turn", "turned"] ["script"] (defScope s_law) := ⟨rfl, rfl, rfl, by decide +kernel, rfl, by decide +kernel, by decide +kernel⟩
section
variable {w : World} {K : PySem.W.Frag} {mg : Str → Option Value} {base : Heap} {cl : Nat → Addr}
abbrev PP : Program := PySem.Challenge.pw_wholefract_k05_texts_of_no_powers
theorem ok_law_pot {f : Addr} {fd : FuncData} (D : FunD K "_law_pot" "_law_pot" (defArgs s_law_pot) (defBody s_law_pot) (defScope s_law_pot) [] [] f fd) (m : mg "_law_pot" = some (.ref f)) (z_range : mg "range" = none) : Cal PP w K mg base cl "_law_pot" 1 ["cell"] F_law_pot 1 :=
  q_fn (k := 0) (sem := b_law_pot) D sc_law_pot rfl rfl m (FunD.bindsN (ps := ["cell"]) D fun _ _ _ _ _ _ us hl => match us, hl with | [_], _ => rfl) fun cdv A outer s H E c =>
  (ks_cons (ks_if (qt_ge (q_var 0) (k_bin o_pow k_int k_int))
  (ks_one (ks_ret (k_cell (kn_lst (ka_cons (k_bin o_sub (q_var 0) (k_bin o_pow k_int k_int)) ka_nil)))))
  ks_nil)
  (ks_cons (q_set c.nd 1 k_int)
  (ks_cons (ks_for c.hp c.calm (ki_range1 rfl z_range (ka_cons k_int ka_nil)) (q_one c.nd 2)
  (ks_cons (q_set c.nd 3 (k_bin o_mod (k_bin o_mul (k_bin o_add (k_bin o_add (k_bin o_mod (q_var 0) k_int) (k_bin o_mul k_int (q_var 2))) k_int) k_int) k_int))
  (ks_cons (q_set c.nd 3 (k_bin o_mod (k_bin o_add (k_bin o_add (k_bin o_mul (q_var 3) (q_var 3)) (k_bin o_mul k_int (q_var 2))) k_int) k_int))
  (ks_one (q_set c.nd 1 (k_bin o_add (k_bin o_mul (q_var 1) k_int) (q_var 3)))))))
  (ks_one (ks_ret (k_cell (kn_lst (ka_cons (q_var 1) ka_nil))))))))
theorem ok_law_take {f : Addr} {fd : FuncData} (D : FunD K "_law_take" "_law_take" (defArgs s_law_take) (defBody s_law_take) (defScope s_law_take) [] [] f fd) (m : mg "_law_take" = some (.ref f)) : Cal PP w K mg base cl "_law_take" 1 ["pot", "far"] F_law_take 2 :=
  q_fn (k := 0) (sem := b_law_take) D sc_law_take rfl rfl m (FunD.bindsN (ps := ["pot", "far"]) D fun _ _ _ _ _ _ us hl => match us, hl with | [_, _], _ => rfl) fun cdv A outer s H E c =>
  (ks_cons (q_set c.nd 2 (k_bin o_mod (q_idx (q_var 0) k_int) (q_var 1)))
  (ks_cons (ks_item (k_bin o_fdiv (q_idx (q_var 0) k_int) (q_var 1)) (q_var 0) k_int)
  (ks_one (ks_ret (q_var 2)))))
theorem ok_law_line {f : Addr} {fd : FuncData} (D : FunD K "_law_line" "_law_line" (defArgs s_law_line) (defBody s_law_line) (defScope s_law_line) [] [] f fd) (m : mg "_law_line" = some (.ref f)) (g_law_take : Cal PP w K mg base cl "_law_take" 1 ["pot", "far"] F_law_take 2) (z_tuple : mg "tuple" = none) : Cal PP w K mg base cl "_law_line" 2 ["pot", "places", "most"] F_law_line 3 :=
  q_fn (k := 1) (sem := b_law_line) D sc_law_line rfl rfl m (FunD.bindsN (ps := ["pot", "places", "most"]) D fun _ _ _ _ _ _ us hl => match us, hl with | [_, _, _], _ => rfl) fun cdv A outer s H E c =>
  (ks_cons (q_set c.nd 3 (k_cell (kn_bin n_rep (k_frz (kn_lst (ka_cons k_int ka_nil))) k_int)))
  (ks_cons (ks_for c.hp c.calm (ki_seq (q_var 1)) (q_one c.nd 4)
  (ks_one (ks_item (q_call c g_law_take (by decide) rfl (ka_cons (q_var 0) (ka_cons (k_bin o_add (q_var 2) k_int) ka_nil))) (q_var 3) (q_var 4))))
  (ks_cons (ks_if (qt_eq c.hu (q_call c g_law_take (by decide) rfl (ka_cons (q_var 0) (ka_cons k_int ka_nil))) k_int)
  (ks_one (ks_item (q_call c g_law_take (by decide) rfl (ka_cons (q_var 0) (ka_cons (k_bin o_add (q_var 2) k_int) ka_nil))) (q_var 3) (q_call c g_law_take (by decide) rfl (ka_cons (q_var 0) (ka_cons k_int ka_nil)))))
  ks_nil)
  (ks_one (ks_ret (q_tuple z_tuple (ka_cons (q_var 3) ka_nil)))))))
theorem ok_law_primes {f : Addr} {fd : FuncData} (D : FunD K "_law_primes" "_law_primes" (defArgs s_law_primes) (defBody s_law_primes) (defScope s_law_primes) [] [] f fd) (m : mg "_law_primes" = some (.ref f)) : Cal PP w K mg base cl "_law_primes" 1 [] F_law_primes_v3 0 :=
  q_fn (k := 0) (sem := b_law_primes_v3) D sc_law_primes rfl rfl m (FunD.bindsN (ps := []) D fun _ _ _ _ _ _ us hl => match us, hl with | [], _ => rfl) fun cdv A outer s H E c =>
  (ks_one (ks_ret (k_tupK (ka_cons k_int (ka_cons k_int (ka_cons k_int (ka_cons k_int (ka_cons k_int (ka_cons k_int (ka_cons k_int (ka_cons k_int (ka_cons k_int (ka_cons k_int ka_nil)))))))))))))
theorem ok_law_line_text {f : Addr} {fd : FuncData} (D : FunD K "_law_line_text" "_law_line_text" (defArgs s_law_line_text) (defBody s_law_line_text) (defScope s_law_line_text) [] [] f fd) (m : mg "_law_line_text" = some (.ref f)) (g_law_primes : Cal PP w K mg base cl "_law_primes" 1 [] F_law_primes_v3 0) (z_int : mg "int" = none) (z_str : mg "str" = none) (z_zip : mg "zip" = none) : Cal PP w K mg base cl "_law_line_text" 2 ["line"] F_law_line_text_v3 1 :=
  q_fn (k := 1) (sem := b_law_line_text_v3) D sc_law_line_text rfl rfl m (FunD.bindsN (ps := ["line"]) D fun _ _ _ _ _ _ us hl => match us, hl with | [_], _ => rfl) fun cdv A outer s H E c =>
  (ks_cons (q_set c.nd 1 k_str)
  (ks_cons (ks_for c.hp c.calm (ki_zip rfl z_zip (ka_cons (k_unF (q_call0 c g_law_primes (by decide) rfl)) (ka_cons (q_var 0) ka_nil))) (kg_tup c.calm (q_gcons c.nd 3 (q_gcons c.nd 2 kgs_nil)))
  (ks_one (ks_if (qt_gt (q_var 2) k_int)
  (ks_one (q_set c.nd 1 (k_bin o_add (k_bin o_add (k_bin o_add (k_bin o_add (q_var 1) (k_bin o_mulS k_str (q_int z_int (ka_cons (q_ne c.hu (q_var 1) k_str) ka_nil)))) (q_str z_str (ka_cons (q_var 3) ka_nil))) k_str) (q_str z_str (ka_cons (q_var 2) ka_nil)))))
  ks_nil)))
  (ks_cons (ks_if (qt_eq c.hu (q_var 1) k_str)
  (ks_one (ks_ret k_str))
  ks_nil)
  (ks_one (ks_ret (q_var 1))))))
theorem ok_law_figures {f : Addr} {fd : FuncData} (D : FunD K "_law_figures" "_law_figures" (defArgs s_law_figures) (defBody s_law_figures) (defScope s_law_figures) [] [] f fd) (m : mg "_law_figures" = some (.ref f)) (z_int : mg "int" = none) (z_len : mg "len" = none) (z_str : mg "str" = none) : Cal PP w K mg base cl "_law_figures" 1 ["word"] F_law_figures_v2 1 :=
  q_fn (k := 0) (sem := b_law_figures_v2) D sc_law_figures rfl rfl m (FunD.bindsN (ps := ["word"]) D fun _ _ _ _ _ _ us hl => match us, hl with | [_], _ => rfl) fun cdv A outer s H E c =>
  (ks_cons (ks_if (kt_bool (kw_or (qt_eq c.hu (q_var 0) k_str) (kw_or (qt_gt (q_len z_len (ka_cons (q_var 0) ka_nil)) k_int) (kw_or1 (qt_ne c.hu (k_frz (kn_comp c.calm c.nd (ki_seq (q_var 0)) (blkOk_by (own := [("sign", 1)]) (by rfl)) (by decide) (fun s1 H1 C1 l1 fp1 => (q_one (c.blk s1 H1 _ _ fp1).nd 1)) (fun s1 H1 C1 l1 fp1 => (kts_one (kt_not (kt_chain o_leS o_leS k_str (q_var 1) k_str)))) (fun s1 H1 C1 l1 fp1 => (q_var 1)))) (k_frz (kn_lst ka_nil)))))))
  (ks_one (ks_ret k_non))
  ks_nil)
  (ks_cons (ks_if (qt_ne c.hu (q_str z_str (ka_cons (q_intT z_int (ka_cons (q_var 0) ka_nil)) ka_nil)) (q_var 0))
  (ks_one (ks_ret k_non))
  ks_nil)
  (ks_one (ks_ret (q_intT z_int (ka_cons (q_var 0) ka_nil))))))
theorem ok_law_line_due {f : Addr} {fd : FuncData} (D : FunD K "_law_line_due" "_law_line_due" (defArgs s_law_line_due) (defBody s_law_line_due) (defScope s_law_line_due) [] [] f fd) (m : mg "_law_line_due" = some (.ref f)) (g_law_figures : Cal PP w K mg base cl "_law_figures" 1 ["word"] F_law_figures_v2 1) (g_law_primes : Cal PP w K mg base cl "_law_primes" 1 [] F_law_primes_v3 0) (z_len : mg "len" = none) (z_tuple : mg "tuple" = none) : Cal PP w K mg base cl "_law_line_due" 2 ["text"] F_law_line_due 1 :=
  q_fn (k := 1) (sem := b_law_line_due) D sc_law_line_due rfl rfl m (FunD.bindsN (ps := ["text"]) D fun _ _ _ _ _ _ us hl => match us, hl with | [_], _ => rfl) fun cdv A outer s H E c =>
  (ks_cons (q_set c.nd 1 (k_cell (kn_bin n_rep (k_frz (kn_lst (ka_cons k_int ka_nil))) k_int)))
  (ks_cons (ks_if (qt_eq c.hu (q_var 0) k_str)
  (ks_one (ks_ret (q_tuple z_tuple (ka_cons (q_var 1) ka_nil))))
  ks_nil)
  (ks_cons (q_set c.nd 2 k_int)
  (ks_cons (ks_for c.hp c.calm (ki_seq (k_frz (kn_split (q_var 0) k_str))) (q_one c.nd 4)
  (ks_cons (ks_setLc (i := 3) c.calm c.nd rfl rfl (sw_true rfl rfl rfl (by decide +kernel)) (ki_seq (k_frz (kn_split (q_var 4) k_str))) (blkOk_by (own := [("half", 5)]) (by rfl)) (by decide) (fun s2 H2 C2 l2 fp2 => (q_one (c.blk s2 H2 _ _ fp2).nd 5)) (fun s2 H2 C2 l2 fp2 => kts_nil) (fun s2 H2 C2 l2 fp2 => (q_call (c.blk s2 H2 _ _ fp2) g_law_figures (by decide) rfl (ka_cons (q_var 5) ka_nil))))
  (ks_cons (ks_if (kt_bool (kw_or (qt_ne c.hu (q_len z_len (ka_cons (q_var 3) ka_nil)) k_int) (kw_or (qt_in c.hu5 k_non (q_var 3)) (kw_or (qt_notin c.hu5 (q_idx (q_var 3) k_int) (k_unF (q_call0 c g_law_primes (by decide) rfl))) (kw_or1 (qt_le (q_idx (q_var 3) k_int) (q_var 2)))))))
  (ks_one (ks_ret k_non))
  ks_nil)
  (ks_cons (ks_if (kt_not (kt_chain o_le o_le k_int (q_idx (q_var 3) k_int) (k_bin o_pow k_int k_int)))
  (ks_one (ks_ret k_non))
  ks_nil)
  (ks_cons (q_set c.nd 2 (q_idx (q_var 3) k_int))
  (ks_one (ks_item (q_idx (q_var 3) k_int) (q_var 1) (k_ixF (q_call0 c g_law_primes (by decide) rfl) (q_var 2)))))))))
  (ks_one (ks_ret (q_tuple z_tuple (ka_cons (q_var 1) ka_nil))))))))
theorem ok_number_in {f : Addr} {fd : FuncData} (D : FunD K "number_in" "number_in" (defArgs s_number_in) (defBody s_number_in) (defScope s_number_in) [] [] f fd) (m : mg "number_in" = some (.ref f)) (z_int : mg "int" = none) (z_len : mg "len" = none) (h_MOST_FIGURES : Con K mg "MOST_FIGURES" t_MOST_FIGURES) (h_FIGURES : Con K mg "FIGURES" t_FIGURES) : Cal PP w K mg base cl "number_in" 1 ["word"] F_number_in 1 :=
  q_fn (k := 0) (sem := b_number_in) D sc_number_in rfl rfl m (FunD.bindsN (ps := ["word"]) D fun _ _ _ _ _ _ us hl => match us, hl with | [_], _ => rfl) fun cdv A outer s H E c =>
  (ks_cons (ks_if (kt_bool (kw_or (kt_not (kt_chain o_le o_le k_int (q_len z_len (ka_cons (q_var 0) ka_nil)) (q_con h_MOST_FIGURES))) (kw_or1 (kt_bool (kw_and (qt_eq c.hu (q_idx (q_var 0) k_int) k_str) (kw_and1 (qt_ne c.hu (q_var 0) k_str)))))))
  (ks_one (ks_ret k_non))
  ks_nil)
  (ks_cons (ks_for c.hp c.calm (ki_seq (q_var 0)) (q_one c.nd 1)
  (ks_one (ks_if (qt_notin c.hu5 (q_var 1) (q_con h_FIGURES))
  (ks_one (ks_ret k_non))
  ks_nil)))
  (ks_one (ks_ret (q_intT z_int (ka_cons (q_var 0) ka_nil))))))
theorem ok_part_in {f : Addr} {fd : FuncData} (D : FunD K "part_in" "part_in" (defArgs s_part_in) (defBody s_part_in) (defScope s_part_in) [] [] f fd) (m : mg "part_in" = some (.ref f)) (g_number_in : Cal PP w K mg base cl "number_in" 1 ["word"] F_number_in 1) (z_len : mg "len" = none) (h_GREATEST : Con K mg "GREATEST" t_GREATEST) (h_PRIMES : Con K mg "PRIMES" t_PRIMES) (h_PRIMES_d : Con K mg "PRIMES" t_PRIMES_d) : Cal PP w K mg base cl "part_in" 2 ["part"] F_part_in 1 :=
  q_fn (k := 1) (sem := b_part_in) D sc_part_in rfl rfl m (FunD.bindsN (ps := ["part"]) D fun _ _ _ _ _ _ us hl => match us, hl with | [_], _ => rfl) fun cdv A outer s H E c =>
  (ks_cons (ks_setLc (i := 1) c.calm c.nd rfl rfl (sw_true rfl rfl rfl (by decide +kernel)) (ki_seq (k_frz (kn_split (q_var 0) k_str))) (blkOk_by (own := [("half", 2)]) (by rfl)) (by decide) (fun s3 H3 C3 l3 fp3 => (q_one (c.blk s3 H3 _ _ fp3).nd 2)) (fun s3 H3 C3 l3 fp3 => kts_nil) (fun s3 H3 C3 l3 fp3 => (q_call (c.blk s3 H3 _ _ fp3) g_number_in (by decide) rfl (ka_cons (q_var 2) ka_nil))))
  (ks_cons (ks_if (kt_bool (kw_or (qt_ne c.hu (q_len z_len (ka_cons (q_var 1) ka_nil)) k_int) (kw_or (qt_notin c.hu5 (q_idx (q_var 1) k_int) (q_con h_PRIMES)) (kw_or (qt_is (q_idx (q_var 1) k_int) k_non) (kw_or1 (kt_not (kt_chain o_le o_le k_int (q_idx (q_var 1) k_int) (q_con h_GREATEST))))))))
  (ks_one (ks_ret k_non))
  ks_nil)
  (ks_one (ks_ret (k_tup (ka_cons (k_ixF (q_con h_PRIMES_d) (q_idx (q_var 1) k_int)) (ka_cons (q_idx (q_var 1) k_int) ka_nil)))))))
theorem ok_powers_read {f : Addr} {fd : FuncData} (D : FunD K "powers_read" "powers_read" (defArgs s_powers_read) (defBody s_powers_read) (defScope s_powers_read) [] [] f fd) (m : mg "powers_read" = some (.ref f)) (g_part_in : Cal PP w K mg base cl "part_in" 2 ["part"] F_part_in 1) (e_NoText : ExcF K mg cl 13 "NoText") (z_isinstance : mg "isinstance" = none) (z_len : mg "len" = none) (z_str : mg "str" = none) (z_tuple : mg "tuple" = none) (h_PRIMES : Con K mg "PRIMES" t_PRIMES) : Cal PP w K mg base cl "powers_read" 3 ["text"] F_powers_read 1 :=
  q_fn (k := 2) (sem := b_powers_read) D sc_powers_read rfl rfl m (FunD.bindsN (ps := ["text"]) D fun _ _ _ _ _ _ us hl => match us, hl with | [_], _ => rfl) fun cdv A outer s H E c =>
  (ks_cons (ks_if (kt_not (kt_tru (q_isi "str" (q_var 0) z_isinstance z_str)))
  (ks_one (ks_raise c e_NoText))
  ks_nil)
  (ks_cons (q_set c.nd 1 (k_cell (kn_bin n_rep (k_frz (kn_lst (ka_cons k_int ka_nil))) (q_len z_len (ka_cons (q_con h_PRIMES) ka_nil)))))
  (ks_cons (ks_if (qt_eq c.hu (q_var 0) k_str)
  (ks_one (ks_ret (q_tuple z_tuple (ka_cons (q_var 1) ka_nil))))
  ks_nil)
  (ks_cons (q_set c.nd 2 (q_neg k_int))
  (ks_cons (ks_for c.hp c.calm (ki_seq (k_frz (kn_split (q_var 0) k_str))) (q_one c.nd 3)
  (ks_cons (q_set c.nd 4 (q_call c g_part_in (by decide) rfl (ka_cons (q_var 3) ka_nil)))
  (ks_cons (ks_if (kt_bool (kw_or (qt_is (q_var 4) k_non) (kw_or1 (qt_le (q_idx (q_var 4) k_int) (q_var 2)))))
  (ks_one (ks_raise c e_NoText))
  ks_nil)
  (ks_cons (q_set c.nd 2 (q_idx (q_var 4) k_int))
  (ks_one (ks_item (q_idx (q_var 4) k_int) (q_var 1) (q_var 2)))))))
  (ks_one (ks_ret (q_tuple z_tuple (ka_cons (q_var 1) ka_nil)))))))))
theorem okx_law_kind_of {f : Addr} {fd : FuncData} (D : FunD K "_law_kind_of" "_law_kind_of" (defArgs s_law_kind_of) (defBody s_law_kind_of) (defScope s_law_kind_of) [] [] f fd) (m : mg "_law_kind_of" = some (.ref f)) (tf : TryF K cl [13] [11, 12, 13, 14, 15, 16, 17, 18, 19, 20, 21, 22] 10) (mc_NoNumber : mg "NoNumber" = some (.ref (cl 14))) (mc_NoName : mg "NoName" = some (.ref (cl 20))) (mc_NoDeed : mg "NoDeed" = some (.ref (cl 21))) (mc_AtRest : mg "AtRest" = some (.ref (cl 11))) (mc_NoRow : mg "NoRow" = some (.ref (cl 22))) (mc_NoProgram : mg "NoProgram" = some (.ref (cl 16))) (mc_NoPowers : mg "NoPowers" = some (.ref (cl 18))) (mc_NoOrder : mg "NoOrder" = some (.ref (cl 15))) (mc_TooMany : mg "TooMany" = some (.ref (cl 12))) (mc_Shared : mg "Shared" = some (.ref (cl 17))) (mc_NoTrail : mg "NoTrail" = some (.ref (cl 19))) (mc_NoText : mg "NoText" = some (.ref (cl 13))) (z_ValueError : mg "ValueError" = none) (z_isinstance : mg "isinstance" = none) : CalX PP w K mg base cl "_law_kind_of" 1 ["e"] F_law_kind_of 1 (okE [13]) :=
  q_fnX (k := 0) (sem := b_law_kind_of) D sc_law_kind_of rfl rfl m (FunD.bindsN (ps := ["e"]) D fun _ _ _ _ _ _ us hl => match us, hl with | [_], _ => rfl) fun cdv A outer s H E ea ed oe ee oke c =>
  (ks_cons (q_set c.nd 1 (k_frz (kn_lst (ka_cons (k_isX c (tf.i _ oke.1) (q_var 0) z_isinstance mc_AtRest (tf.k _ oke.1 11 (by decide))) (ka_cons (k_isX c (tf.i _ oke.1) (q_var 0) z_isinstance mc_NoDeed (tf.k _ oke.1 21 (by decide))) (ka_cons (k_isX c (tf.i _ oke.1) (q_var 0) z_isinstance mc_NoName (tf.k _ oke.1 20 (by decide))) (ka_cons (k_isX c (tf.i _ oke.1) (q_var 0) z_isinstance mc_NoNumber (tf.k _ oke.1 14 (by decide))) ka_nil)))))))
  (ks_cons (q_set c.nd 1 (k_bin o_add (q_var 1) (k_frz (kn_lst (ka_cons (k_isX c (tf.i _ oke.1) (q_var 0) z_isinstance mc_NoOrder (tf.k _ oke.1 15 (by decide))) (ka_cons (k_isX c (tf.i _ oke.1) (q_var 0) z_isinstance mc_NoPowers (tf.k _ oke.1 18 (by decide))) (ka_cons (k_isX c (tf.i _ oke.1) (q_var 0) z_isinstance mc_NoProgram (tf.k _ oke.1 16 (by decide))) (ka_cons (k_isX c (tf.i _ oke.1) (q_var 0) z_isinstance mc_NoRow (tf.k _ oke.1 22 (by decide))) ka_nil))))))))
  (ks_cons (q_set c.nd 1 (k_bin o_add (q_var 1) (k_frz (kn_lst (ka_cons (k_isX c (tf.i _ oke.1) (q_var 0) z_isinstance mc_NoText (tf.k _ oke.1 13 (by decide))) (ka_cons (k_isX c (tf.i _ oke.1) (q_var 0) z_isinstance mc_NoTrail (tf.k _ oke.1 19 (by decide))) (ka_cons (k_isX c (tf.i _ oke.1) (q_var 0) z_isinstance mc_Shared (tf.k _ oke.1 17 (by decide))) (ka_cons (k_isX c (tf.i _ oke.1) (q_var 0) z_isinstance mc_TooMany (tf.k _ oke.1 12 (by decide))) ka_nil))))))))
  (ks_cons (ks_if (kt_bool (kw_or (qt_ne c.hu (k_methL PySem.F.slot_list_count PySem.F.type_list_count m_count (q_var 1) (ka_cons k_bl ka_nil)) k_int) (kw_or1 (kt_not (kt_tru (k_isXB c (tf.i _ oke.1) (q_var 0) z_isinstance z_ValueError PyProof.Rows.Boot.«ValueError» (tf.v _ oke.1)))))))
  (ks_one (ks_ret k_str))
  ks_nil)
  (ks_cons (q_set c.nd 2 (k_frz (kn_lst (ka_cons k_str (ka_cons k_str (ka_cons k_str (ka_cons k_str (ka_cons k_str (ka_cons k_str (ka_cons k_str (ka_cons k_str ka_nil)))))))))))
  (ks_cons (q_set c.nd 2 (k_bin o_add (q_var 2) (k_frz (kn_lst (ka_cons k_str (ka_cons k_str (ka_cons k_str (ka_cons k_str ka_nil))))))))
  (ks_one (ks_ret (q_idx (q_var 2) (k_methL PySem.F.slot_list_index PySem.F.type_list_index m_index (q_var 1) (ka_cons k_bl ka_nil)))))))))))
theorem ok_law_told {f : Addr} {fd : FuncData} (D : FunD K "_law_told" "_law_told" (defArgs s_law_told) (defBody s_law_told) (defScope s_law_told) [] [] f fd) (m : mg "_law_told" = some (.ref f)) (g_powers_read : Cal PP w K mg base cl "powers_read" 3 ["text"] F_powers_read 1) (gx_law_kind_of : CalX PP w K mg base cl "_law_kind_of" 1 ["e"] F_law_kind_of 1 (okE [13])) (tf : TryF K cl [13] [11, 12, 13, 14, 15, 16, 17, 18, 19, 20, 21, 22] 10) (mc_FractError : mg "FractError" = some (.ref (cl 10))) : Cal PP w K mg base cl "_law_told" 4 ["thing"] F_law_told_v12 1 :=
  q_fn (k := 3) (sem := b_law_told_v12) D sc_law_told rfl rfl m (FunD.bindsN (ps := ["thing"]) D fun _ _ _ _ _ _ us hl => match us, hl with | [_], _ => rfl) fun cdv A outer s H E c =>
  (ks_one (ks_try (i := 1) (cl := cl) (c0 := 10) (cs := [13]) c rfl rfl ⟨rfl, by decide, .inl mc_FractError⟩ tf.m (fun W2 pn2 xe2 cT =>
  (ks_one (ks_ret (q_call cT g_powers_read (by decide) rfl (ka_cons (q_var 0) ka_nil))))) (fun ea ed oe ee pn oke cX =>
  (ks_one (ks_ret (k_callX cX gx_law_kind_of (by decide) oke rfl (ka_cons (q_var 1) ka_nil)))))))
theorem ok_law_cell_at {f : Addr} {fd : FuncData} (D : FunD K "_law_cell_at" "_law_cell_at" (defArgs s_law_cell_at) (defBody s_law_cell_at) (defScope s_law_cell_at) [] [] f fd) (m : mg "_law_cell_at" = some (.ref f)) (z_len : mg "len" = none) : Cal PP w K mg base cl "_law_cell_at" 1 ["script", "k"] F_law_cell_at 2 :=
  q_fn (k := 0) (sem := b_law_cell_at) D sc_law_cell_at rfl rfl m (FunD.bindsN (ps := ["script", "k"]) D fun _ _ _ _ _ _ us hl => match us, hl with | [_, _], _ => rfl) fun cdv A outer s H E c =>
  (ks_cons (ks_if (qt_lt c.hu0 (q_var 1) (q_len z_len (ka_cons (q_var 0) ka_nil)))
  (ks_one (ks_ret (q_idx (q_var 0) (q_var 1))))
  ks_nil)
  (ks_one (ks_ret k_int)))
theorem ok_law_order {f : Addr} {fd : FuncData} (D : FunD K "_law_order" "_law_order" (defArgs s_law_order) (defBody s_law_order) (defScope s_law_order) [] [] f fd) (m : mg "_law_order" = some (.ref f)) (g_law_take : Cal PP w K mg base cl "_law_take" 1 ["pot", "far"] F_law_take 2) (z_range : mg "range" = none) (z_tuple : mg "tuple" = none) : Cal PP w K mg base cl "_law_order" 2 ["pot", "wide"] F_law_order 2 :=
  q_fn (k := 1) (sem := b_law_order) D sc_law_order rfl rfl m (FunD.bindsN (ps := ["pot", "wide"]) D fun _ _ _ _ _ _ us hl => match us, hl with | [_, _], _ => rfl) fun cdv A outer s H E c =>
  (ks_cons (q_set c.nd 2 (k_cell (kn_lst ka_nil)))
  (ks_cons (ks_for c.hp c.calm (ki_range1 rfl z_range (ka_cons (q_var 1) ka_nil)) (q_one c.nd 3)
  (ks_one (ks_expr (k_methL PySem.F.slot_list_insert PySem.F.type_list_insert m_insert (q_var 2) (ka_cons (q_call c g_law_take (by decide) rfl (ka_cons (q_var 0) (ka_cons (k_bin o_add (q_var 3) k_int) ka_nil))) (ka_cons (q_var 3) ka_nil))))))
  (ks_one (ks_ret (q_tuple z_tuple (ka_cons (q_var 2) ka_nil))))))
theorem ok_law_places {f : Addr} {fd : FuncData} (D : FunD K "_law_places" "_law_places" (defArgs s_law_places) (defBody s_law_places) (defScope s_law_places) [] [] f fd) (m : mg "_law_places" = some (.ref f)) (g_law_take : Cal PP w K mg base cl "_law_take" 1 ["pot", "far"] F_law_take 2) (g_law_order : Cal PP w K mg base cl "_law_order" 2 ["pot", "wide"] F_law_order 2) (z_range : mg "range" = none) (z_tuple : mg "tuple" = none) : Cal PP w K mg base cl "_law_places" 3 ["pot"] F_law_places 1 :=
  q_fn (k := 2) (sem := b_law_places) D sc_law_places rfl rfl m (FunD.bindsN (ps := ["pot"]) D fun _ _ _ _ _ _ us hl => match us, hl with | [_], _ => rfl) fun cdv A outer s H E c =>
  (ks_cons (q_set c.nd 1 (k_bin o_add k_int (q_call c g_law_take (by decide) rfl (ka_cons (q_var 0) (ka_cons k_int ka_nil)))))
  (ks_cons (ks_if (qt_eq c.hu (q_call c g_law_take (by decide) rfl (ka_cons (q_var 0) (ka_cons k_int ka_nil))) k_int)
  (ks_one (ks_ret (k_tupR c.calm z_tuple (kr_1 rfl z_range (q_var 1)))))
  ks_nil)
  (ks_one (ks_ret (k_slice (q_call c g_law_order (by decide) rfl (ka_cons (q_var 0) (ka_cons k_int ka_nil))) ko_none (ko_some (q_var 1)))))))
theorem ok_law_bent_text {f : Addr} {fd : FuncData} (D : FunD K "_law_bent_text" "_law_bent_text" (defArgs s_law_bent_text) (defBody s_law_bent_text) (defScope s_law_bent_text) [] [] f fd) (m : mg "_law_bent_text" = some (.ref f)) (g_law_take : Cal PP w K mg base cl "_law_take" 1 ["pot", "far"] F_law_take 2) (z_len : mg "len" = none) : Cal PP w K mg base cl "_law_bent_text" 2 ["pot", "text", "signs", "odds"] F_law_bent_text 4 :=
  q_fn (k := 1) (sem := b_law_bent_text) D sc_law_bent_text rfl rfl m (FunD.bindsN (ps := ["pot", "text", "signs", "odds"]) D fun _ _ _ _ _ _ us hl => match us, hl with | [_, _, _, _], _ => rfl) fun cdv A outer s H E c =>
  (ks_cons (q_set c.nd 4 (q_call c g_law_take (by decide) rfl (ka_cons (q_var 0) (ka_cons (k_bin o_add (q_len z_len (ka_cons (q_var 1) ka_nil)) k_int) ka_nil))))
  (ks_cons (q_set c.nd 5 (q_idx (q_var 2) (q_call c g_law_take (by decide) rfl (ka_cons (q_var 0) (ka_cons (q_len z_len (ka_cons (q_var 2) ka_nil)) ka_nil)))))
  (ks_cons (q_set c.nd 6 (k_frz (kn_split (q_var 1) k_str)))
  (ks_cons (q_set c.nd 7 (q_call c g_law_take (by decide) rfl (ka_cons (q_var 0) (ka_cons (q_len z_len (ka_cons (q_var 6) ka_nil)) ka_nil))))
  (ks_cons (q_set c.nd 8 (q_idx (q_var 3) (q_call c g_law_take (by decide) rfl (ka_cons (q_var 0) (ka_cons (q_len z_len (ka_cons (q_var 3) ka_nil)) ka_nil)))))
  (ks_cons (q_set c.nd 9 (k_frz (kn_lst (ka_cons (q_var 1) (ka_cons (k_bin o_add (k_bin o_add (k_slice (q_var 1) ko_none (ko_some (q_var 4))) (q_var 5)) (k_slice (q_var 1) (ko_some (q_var 4)) ko_none)) (ka_cons (k_bin o_add (k_slice (q_var 1) ko_none (ko_some (q_var 4))) (k_slice (q_var 1) (ko_some (k_bin o_add (q_var 4) k_int)) ko_none)) (ka_cons (k_bin o_add (k_bin o_add (k_slice (q_var 1) ko_none (ko_some (q_var 4))) (q_var 5)) (k_slice (q_var 1) (ko_some (k_bin o_add (q_var 4) k_int)) ko_none)) (ka_cons (q_var 8) ka_nil))))))))
  (ks_cons (q_set c.nd 9 (k_bin o_add (q_var 9) (k_frz (kn_lst (ka_cons (k_join k_str (k_bin o_add (k_slice (q_var 6) ko_none (ko_some (q_var 7))) (k_slice (q_var 6) (ko_some (k_bin o_add (q_var 7) k_int)) ko_none))) (ka_cons (k_join k_str (k_bin o_add (k_slice (q_var 6) ko_none (ko_some (k_bin o_add (q_var 7) k_int))) (k_slice (q_var 6) (ko_some (q_var 7)) ko_none))) ka_nil))))))
  (ks_cons (q_set c.nd 9 (k_bin o_add (q_var 9) (k_frz (kn_lst (ka_cons (k_bin o_add k_str (q_var 1)) (ka_cons (k_bin o_add (q_var 1) k_str) (ka_cons (k_join k_str (k_bin o_add (k_bin o_add (k_slice (q_var 6) ko_none (ko_some (q_var 7))) (k_frz (kn_lst (ka_cons (q_var 8) ka_nil)))) (k_slice (q_var 6) (ko_some (k_bin o_add (q_var 7) k_int)) ko_none))) (ka_cons (k_bin o_add (q_var 1) (q_var 5)) ka_nil))))))))
  (ks_one (ks_ret (q_idx (q_var 9) (q_call c g_law_take (by decide) rfl (ka_cons (q_var 0) (ka_cons (q_len z_len (ka_cons (q_var 9) ka_nil)) ka_nil))))))))))))))
theorem ok_law_whole {f : Addr} {fd : FuncData} (D : FunD K "_law_whole" "_law_whole" (defArgs s_law_whole) (defBody s_law_whole) (defScope s_law_whole) [] [] f fd) (m : mg "_law_whole" = some (.ref f)) (z_bool : mg "bool" = none) (z_int : mg "int" = none) (z_isinstance : mg "isinstance" = none) : Cal PP w K mg base cl "_law_whole" 1 ["found"] F_law_whole 1 :=
  q_fn (k := 0) (sem := b_law_whole) D sc_law_whole rfl rfl m (FunD.bindsN (ps := ["found"]) D fun _ _ _ _ _ _ us hl => match us, hl with | [_], _ => rfl) fun cdv A outer s H E c =>
  (ks_one (ks_ret (k_and (q_isi "int" (q_var 0) z_isinstance z_int) (k_one (k_not (q_isi "bool" (q_var 0) z_isinstance z_bool))))))
theorem ok_law_same {f : Addr} {fd : FuncData} (D : FunD K "_law_same" "_law_same" (defArgs s_law_same) (defBody s_law_same) (defScope s_law_same) [] [] f fd) (m : mg "_law_same" = some (.ref f)) (g_law_whole : Cal PP w K mg base cl "_law_whole" 1 ["found"] F_law_whole 1) (z_all : mg "all" = none) (z_bool : mg "bool" = none) (z_int : mg "int" = none) (z_isinstance : mg "isinstance" = none) (z_len : mg "len" = none) (z_list : mg "list" = none) (z_str : mg "str" = none) (z_tuple : mg "tuple" = none) (z_zip : mg "zip" = none) : ∀ n, Cal PP w K mg base cl "_law_same" (1 + n) ["found", "due"] (F_law_same n) 2
  | 0 => q_bad D m (FunD.bindsN (ps := ["found", "due"]) D fun _ _ _ _ _ _ us hl => match us, hl with | [_, _], _ => rfl) rfl
  | n + 1 => by
    have g_rec := ok_law_same D m g_law_whole z_all z_bool z_int z_isinstance z_len z_list z_str z_tuple z_zip n
    exact q_fn (k := 1 + n) (sem := b_law_same (F_law_same n)) D sc_law_same rfl rfl m (FunD.bindsN (ps := ["found", "due"]) D fun _ _ _ _ _ _ us hl => match us, hl with | [_, _], _ => rfl) fun cdv A outer s H E c =>
  (ks_cons (ks_if (qt_is (q_var 1) k_non)
  (ks_one (ks_ret (q_is (q_var 0) k_non)))
  ks_nil)
  (ks_cons (ks_if (kt_tru (q_isi "bool" (q_var 1) z_isinstance z_bool))
  (ks_one (ks_ret (k_and (q_isi "bool" (q_var 0) z_isinstance z_bool) (k_one (q_eq c.hu (q_var 0) (q_var 1))))))
  ks_nil)
  (ks_cons (ks_if (kt_tru (q_isi "int" (q_var 1) z_isinstance z_int))
  (ks_one (ks_ret (k_and (q_call c g_law_whole (by omega) rfl (ka_cons (q_var 0) ka_nil)) (k_one (q_eq c.hu (q_var 0) (q_var 1))))))
  ks_nil)
  (ks_cons (ks_if (kt_tru (q_isi "str" (q_var 1) z_isinstance z_str))
  (ks_one (ks_ret (k_and (q_isi "str" (q_var 0) z_isinstance z_str) (k_one (q_eq c.hu (q_var 0) (q_var 1))))))
  ks_nil)
  (ks_cons (ks_if (kt_bool (kw_or (qt_ne c.hu (q_isi "tuple" (q_var 1) z_isinstance z_tuple) (q_isi "tuple" (q_var 0) z_isinstance z_tuple)) (kw_or1 (qt_ne c.hu (q_isi "list" (q_var 1) z_isinstance z_list) (q_isi "list" (q_var 0) z_isinstance z_list)))))
  (ks_one (ks_ret k_bl))
  ks_nil)
  (ks_one (ks_ret (k_and (q_eq c.hu (q_len z_len (ka_cons (q_var 0) ka_nil)) (q_len z_len (ka_cons (q_var 1) ka_nil))) (k_one (q_all c z_all (ka_cons (k_frz (kn_comp c.calm c.nd (ki_zip rfl z_zip (ka_cons (q_var 0) (ka_cons (q_var 1) ka_nil))) (blkOk_by (own := [("one", 2), ("other", 3)]) (by rfl)) (by decide) (fun s4 H4 C4 l4 fp4 => (kg_tup (c.blk s4 H4 _ _ fp4).calm (q_gcons (c.blk s4 H4 _ _ fp4).nd 2 (q_gcons (c.blk s4 H4 _ _ fp4).nd 3 kgs_nil)))) (fun s4 H4 C4 l4 fp4 => kts_nil) (fun s4 H4 C4 l4 fp4 => (q_call (c.blk s4 H4 _ _ fp4) g_rec (by omega) rfl (ka_cons (q_var 2) (ka_cons (q_var 3) ka_nil)))))) ka_nil)))))))))))
theorem ok_law {f : Addr} {fd : FuncData} (D : FunD K "law" "law" (defArgs s_law) (defBody s_law) (defScope s_law) [] [] f fd) (m : mg "law" = some (.ref f)) (g_law_pot : Cal PP w K mg base cl "_law_pot" 1 ["cell"] F_law_pot 1) (g_law_line : Cal PP w K mg base cl "_law_line" 2 ["pot", "places", "most"] F_law_line 3) (g_law_line_text : Cal PP w K mg base cl "_law_line_text" 2 ["line"] F_law_line_text_v3 1) (g_law_line_due : Cal PP w K mg base cl "_law_line_due" 2 ["text"] F_law_line_due 1) (g_law_told : Cal PP w K mg base cl "_law_told" 4 ["thing"] F_law_told_v12 1) (g_law_cell_at : Cal PP w K mg base cl "_law_cell_at" 1 ["script", "k"] F_law_cell_at 2) (g_law_places : Cal PP w K mg base cl "_law_places" 3 ["pot"] F_law_places 1) (g_law_bent_text : Cal PP w K mg base cl "_law_bent_text" 2 ["pot", "text", "signs", "odds"] F_law_bent_text 4) (g_law_same : Cal PP w K mg base cl "_law_same" 9 ["found", "due"] (F_law_same 8) 2) (g_law_take : Cal PP w K mg base cl "_law_take" 1 ["pot", "far"] F_law_take 2) (z_len : mg "len" = none) (z_max : mg "max" = none) (z_min : mg "min" = none) (z_range : mg "range" = none) : FnOk PP w K mg base (L2N.CX PP w) 10 f fd ["script"] (spF K cl F_law_k05 1) :=
  q_fnF (k := 9) (sem := b_law_k05) D sc_law rfl rfl fun cdv A outer s H E c =>
  (ks_cons (ks_for c.hp c.calm (ki_range1 rfl z_range (ka_cons (q_max c z_max (ka_cons k_int (ka_cons (q_min c z_min (ka_cons (q_len z_len (ka_cons (q_var 0) ka_nil)) (ka_cons k_int ka_nil))) ka_nil))) ka_nil)) (q_one c.nd 2)
  (ks_cons (q_set c.nd 6 (q_call c g_law_pot (by decide) rfl (ka_cons (q_call c g_law_cell_at (by decide) rfl (ka_cons (q_var 0) (ka_cons (q_var 2) ka_nil))) ka_nil)))
  (ks_cons (q_set c.nd 3 (q_call c g_law_line (by decide) rfl (ka_cons (q_var 6) (ka_cons (q_call c g_law_places (by decide) rfl (ka_cons (q_var 6) ka_nil)) (ka_cons (q_idx (k_frz (kn_lst (ka_cons k_int (ka_cons (k_bin o_pow k_int k_int) ka_nil)))) (q_call c g_law_take (by decide) rfl (ka_cons (q_var 6) (ka_cons k_int ka_nil)))) ka_nil)))))
  (ks_cons (q_set c.nd 7 (q_call c g_law_line_text (by decide) rfl (ka_cons (q_var 3) ka_nil)))
  (ks_cons (q_set c.nd 4 (k_frz (kn_lst (ka_cons k_str (ka_cons k_str (ka_cons k_str (ka_cons k_str (ka_cons k_str (ka_cons k_str (ka_cons k_str (ka_cons k_str (ka_cons k_str (ka_cons k_str (ka_cons k_str (ka_cons k_str (ka_cons k_str ka_nil))))))))))))))))
  (ks_cons (q_set c.nd 4 (k_bin o_add (q_var 4) (k_frz (kn_lst (ka_cons k_str (ka_cons k_str (ka_cons k_str (ka_cons k_str (ka_cons k_str (ka_cons k_str (ka_cons k_str (ka_cons k_str (ka_cons k_str (ka_cons k_str ka_nil))))))))))))))
  (ks_cons (ks_for c.hp c.calm (ki_range1 rfl z_range (ka_cons k_int ka_nil)) (q_one c.nd 9)
  (ks_cons (q_set c.nd 5 (q_call c g_law_bent_text (by decide) rfl (ka_cons (q_var 6) (ka_cons (q_var 7) (ka_cons k_str (ka_cons (q_var 4) ka_nil))))))
  (ks_cons (q_set c.nd 1 (q_call c g_law_line_due (by decide) rfl (ka_cons (q_var 5) ka_nil)))
  (ks_cons (ks_if (qt_is (q_var 1) k_non)
  (ks_one (q_set c.nd 1 k_str))
  ks_nil)
  (ks_one (ks_if (kt_not (kt_tru (q_call c g_law_same (by decide) rfl (ka_cons (q_call c g_law_told (by decide) rfl (ka_cons (q_var 5) ka_nil)) (ka_cons (q_var 1) ka_nil)))))
  (ks_one (ks_ret k_bl))
  ks_nil))))))
  (ks_cons (q_set c.nd 10 (k_join k_str (k_rev (k_frz (kn_split (q_var 7) k_str)))))
  (ks_cons (q_set c.nd 1 (q_call c g_law_line_due (by decide) rfl (ka_cons (q_var 10) ka_nil)))
  (ks_cons (ks_if (qt_is (q_var 1) k_non)
  (ks_one (q_set c.nd 1 k_str))
  ks_nil)
  (ks_cons (ks_if (kt_not (kt_tru (q_call c g_law_same (by decide) rfl (ka_cons (q_call c g_law_told (by decide) rfl (ka_cons (q_var 10) ka_nil)) (ka_cons (q_var 1) ka_nil)))))
  (ks_one (ks_ret k_bl))
  ks_nil)
  (ks_cons (q_set c.nd 8 (q_idx (k_frz (kn_lst (ka_cons k_non (ka_cons k_int (ka_cons k_bl (ka_cons (k_frz (kn_lst (ka_cons (q_var 7) ka_nil))) (ka_cons (k_tup (ka_cons (q_var 7) ka_nil)) (ka_cons k_emp (ka_cons (q_var 3) ka_nil))))))))) (q_call c g_law_take (by decide) rfl (ka_cons (q_var 6) (ka_cons k_int ka_nil)))))
  (ks_one (ks_if (kt_bool (kw_or (qt_ne c.hu (q_call c g_law_told (by decide) rfl (ka_cons (q_var 8) ka_nil)) k_str) (kw_or1 (kt_not (kt_tru (q_call c g_law_same (by decide) rfl (ka_cons (q_call c g_law_told (by decide) rfl (ka_cons (q_var 7) ka_nil)) (ka_cons (q_var 3) ka_nil))))))))
  (ks_one (ks_ret k_bl))
  ks_nil))))))))))))))
  (ks_one (ks_ret (q_eq c.hu (q_call c g_law_told (by decide) rfl (ka_cons k_str ka_nil)) k_str))))
end
def d_law_pot : He.DefD := ⟨("_law_pot", none), "_law_pot", "_law_pot", defArgs s_law_pot, defBody s_law_pot, defScope s_law_pot, [], []⟩
def d_law_take : He.DefD := ⟨("_law_take", none), "_law_take", "_law_take", defArgs s_law_take, defBody s_law_take, defScope s_law_take, [], []⟩
def d_law_line : He.DefD := ⟨("_law_line", none), "_law_line", "_law_line", defArgs s_law_line, defBody s_law_line, defScope s_law_line, [], []⟩
def d_law_primes : He.DefD := ⟨("_law_primes", none), "_law_primes", "_law_primes", defArgs s_law_primes, defBody s_law_primes, defScope s_law_primes, [], []⟩
def d_law_line_text : He.DefD := ⟨("_law_line_text", none), "_law_line_text", "_law_line_text", defArgs s_law_line_text, defBody s_law_line_text, defScope s_law_line_text, [], []⟩
def d_law_figures : He.DefD := ⟨("_law_figures", none), "_law_figures", "_law_figures", defArgs s_law_figures, defBody s_law_figures, defScope s_law_figures, [], []⟩
def d_law_line_due : He.DefD := ⟨("_law_line_due", none), "_law_line_due", "_law_line_due", defArgs s_law_line_due, defBody s_law_line_due, defScope s_law_line_due, [], []⟩
def d_number_in : He.DefD := ⟨("number_in", none), "number_in", "number_in", defArgs s_number_in, defBody s_number_in, defScope s_number_in, [], []⟩
def d_part_in : He.DefD := ⟨("part_in", none), "part_in", "part_in", defArgs s_part_in, defBody s_part_in, defScope s_part_in, [], []⟩
def d_powers_read : He.DefD := ⟨("powers_read", none), "powers_read", "powers_read", defArgs s_powers_read, defBody s_powers_read, defScope s_powers_read, [], []⟩
def d_law_kind_of : He.DefD := ⟨("_law_kind_of", none), "_law_kind_of", "_law_kind_of", defArgs s_law_kind_of, defBody s_law_kind_of, defScope s_law_kind_of, [], []⟩
def d_law_told : He.DefD := ⟨("_law_told", none), "_law_told", "_law_told", defArgs s_law_told, defBody s_law_told, defScope s_law_told, [], []⟩
def d_law_cell_at : He.DefD := ⟨("_law_cell_at", none), "_law_cell_at", "_law_cell_at", defArgs s_law_cell_at, defBody s_law_cell_at, defScope s_law_cell_at, [], []⟩
def d_law_order : He.DefD := ⟨("_law_order", none), "_law_order", "_law_order", defArgs s_law_order, defBody s_law_order, defScope s_law_order, [], []⟩
def d_law_places : He.DefD := ⟨("_law_places", none), "_law_places", "_law_places", defArgs s_law_places, defBody s_law_places, defScope s_law_places, [], []⟩
def d_law_bent_text : He.DefD := ⟨("_law_bent_text", none), "_law_bent_text", "_law_bent_text", defArgs s_law_bent_text, defBody s_law_bent_text, defScope s_law_bent_text, [], []⟩
def d_law_whole : He.DefD := ⟨("_law_whole", none), "_law_whole", "_law_whole", defArgs s_law_whole, defBody s_law_whole, defScope s_law_whole, [], []⟩
def d_law_same : He.DefD := ⟨("_law_same", none), "_law_same", "_law_same", defArgs s_law_same, defBody s_law_same, defScope s_law_same, [], []⟩
def d_law : He.DefD := ⟨("law", none), "law", "law", defArgs s_law, defBody s_law, defScope s_law, [], []⟩
def fnl : List He.DefD := [d_law_pot, d_law_take, d_law_line, d_law_primes, d_law_line_text, d_law_figures, d_law_line_due, d_number_in, d_part_in, d_powers_read, d_law_kind_of, d_law_told, d_law_cell_at, d_law_order, d_law_places, d_law_bent_text, d_law_whole, d_law_same, d_law]
def fal_0 : List He.Fa := [.glo "NoText", .exc "NoText", .glo "FractError", .glo "NoNumber", .glo "NoName", .glo "NoDeed", .glo "AtRest", .glo "NoRow", .glo "NoProgram", .glo "NoPowers", .glo "NoOrder", .glo "TooMany", .glo "Shared", .glo "NoTrail", .glo "_law_pot", .glo "_law_take", .glo "_law_line", .glo "_law_primes", .glo "_law_line_text", .glo "_law_figures", .glo "_law_line_due", .glo "number_in", .glo "part_in", .glo "powers_read"]
def fal_1 : List He.Fa := [.glo "_law_kind_of", .glo "_law_told", .glo "_law_cell_at", .glo "_law_order", .glo "_law_places", .glo "_law_bent_text", .glo "_law_whole", .glo "_law_same", .glo "law", .free "ValueError", .free "all", .free "bool", .free "int", .free "isinstance", .free "len", .free "list", .free "max", .free "min", .free "range", .free "str", .free "tuple", .free "zip", .int "MOST_FIGURES" 13, .int "GREATEST" 1000000]
def fal_2 : List He.Fa := [.str "FIGURES" "0123456789", .glo "PRIMES"]
def fal : List He.Fa := fal_0 ++ fal_1 ++ fal_2
def exl (K : PySem.W.Frag) : Bool := He.tupB K "PRIMES" (([2, 3, 5, 7, 11, 13, 17, 19, 23, 29] : List Int).map He.Dv.int) && tupD K "PRIMES" && tryB K [13] [11, 12, 13, 14, 15, 16, 17, 18, 19, 20, 21, 22] 10
def nm0 : List PySem.Str := ["FractError", "NoText", "NoNumber", "AtRest", "TooMany", "NoOrder", "NoProgram", "Shared", "NoPowers", "NoTrail", "NoName", "NoDeed", "NoRow", "PRIMES", "FIGURES", "MOST_FIGURES", "GREATEST", "number_in", "part_in", "powers_read"]
def nm1 : List PySem.Str := ["_law_cell_at", "_law_pot", "_law_take", "_law_order", "_law_places", "_law_line", "_law_whole", "_law_same", "_law_primes", "_law_line_text", "_law_bent_text", "_law_figures", "_law_line_due", "_law_kind_of", "_law_told"]
def names : List PySem.Str := nm0 ++ nm1
abbrev R : PySem.W.OpenRow := PySem.W.OpenLaw.row PySem.Challenge.rw_wholefract_k05_texts_of_no_powers
abbrev qv : Program := PySem.W.view R.prog [38]
abbrev hk : PySem.W.Hook := hookY 5 fal fnl exl
def ob (s : PySem.W.SharedT) : He.AlD × Bool := obsY 5 fal fnl exl (HandSHeadRun.getT s)
theorem ob_eq (s : PySem.W.SharedT) : ob s = hk.obs s.abs := obsY_eq (HandSHeadRun.getT_eq s)
theorem run (w : World) : HandSHeadRun.RunEq R qv hk ob 5790 names w := by
  intro os
  kernel_rfl
theorem facts {w : World} {K : PySem.W.Frag} {h : Heap} {mg : Str → Option Value} {fa : Addr} (X : K.In h) (G : h.Ns mainGlobals mg) (c : SaysY fal fnl exl K) (hfa : mg "law" = some (.ref fa)) : ∃ fd : FuncData, (∀ (s : Shared) (u : Value), BindsTo s fd ⟨[u], []⟩ [("script", u)]) ∧
    ∀ base : Heap, FnOk PP w K mg base (L2N.CX PP w) 10 fa fd ["script"] (spF K (clK K) F_law_k05 1) := by
  have cd := c.t
  have mc_NoText : mg "NoText" = some (.ref (clK K 13)) := He.glo_ok X G (cd.fact 0 rfl)
  have e_NoText : ExcF K mg (clK K) 13 "NoText" := let q := He.exc_ok (cd.fact 1 rfl); ⟨mc_NoText, q.1, q.2.1, q.2.2.1, q.2.2.2⟩
  have mc_FractError : mg "FractError" = some (.ref (clK K 10)) := He.glo_ok X G (cd.fact 2 rfl)
  have mc_NoNumber : mg "NoNumber" = some (.ref (clK K 14)) := He.glo_ok X G (cd.fact 3 rfl)
  have mc_NoName : mg "NoName" = some (.ref (clK K 20)) := He.glo_ok X G (cd.fact 4 rfl)
  have mc_NoDeed : mg "NoDeed" = some (.ref (clK K 21)) := He.glo_ok X G (cd.fact 5 rfl)
  have mc_AtRest : mg "AtRest" = some (.ref (clK K 11)) := He.glo_ok X G (cd.fact 6 rfl)
  have mc_NoRow : mg "NoRow" = some (.ref (clK K 22)) := He.glo_ok X G (cd.fact 7 rfl)
  have mc_NoProgram : mg "NoProgram" = some (.ref (clK K 16)) := He.glo_ok X G (cd.fact 8 rfl)
  have mc_NoPowers : mg "NoPowers" = some (.ref (clK K 18)) := He.glo_ok X G (cd.fact 9 rfl)
  have mc_NoOrder : mg "NoOrder" = some (.ref (clK K 15)) := He.glo_ok X G (cd.fact 10 rfl)
  have mc_TooMany : mg "TooMany" = some (.ref (clK K 12)) := He.glo_ok X G (cd.fact 11 rfl)
  have mc_Shared : mg "Shared" = some (.ref (clK K 17)) := He.glo_ok X G (cd.fact 12 rfl)
  have mc_NoTrail : mg "NoTrail" = some (.ref (clK K 19)) := He.glo_ok X G (cd.fact 13 rfl)
  have z_ValueError : mg "ValueError" = none := He.free_ok X G (cd.fact 33 (f := .free "ValueError") rfl)
  have z_all : mg "all" = none := He.free_ok X G (cd.fact 34 (f := .free "all") rfl)
  have z_bool : mg "bool" = none := He.free_ok X G (cd.fact 35 (f := .free "bool") rfl)
  have z_int : mg "int" = none := He.free_ok X G (cd.fact 36 (f := .free "int") rfl)
  have z_isinstance : mg "isinstance" = none := He.free_ok X G (cd.fact 37 (f := .free "isinstance") rfl)
  have z_len : mg "len" = none := He.free_ok X G (cd.fact 38 (f := .free "len") rfl)
  have z_list : mg "list" = none := He.free_ok X G (cd.fact 39 (f := .free "list") rfl)
  have z_max : mg "max" = none := He.free_ok X G (cd.fact 40 (f := .free "max") rfl)
  have z_min : mg "min" = none := He.free_ok X G (cd.fact 41 (f := .free "min") rfl)
  have z_range : mg "range" = none := He.free_ok X G (cd.fact 42 (f := .free "range") rfl)
  have z_str : mg "str" = none := He.free_ok X G (cd.fact 43 (f := .free "str") rfl)
  have z_tuple : mg "tuple" = none := He.free_ok X G (cd.fact 44 (f := .free "tuple") rfl)
  have z_zip : mg "zip" = none := He.free_ok X G (cd.fact 45 (f := .free "zip") rfl)
  have h_MOST_FIGURES : Con K mg "MOST_FIGURES" t_MOST_FIGURES := con_int (He.int_ok X G (cd.fact 46 (f := .int "MOST_FIGURES" 13) rfl))
  have h_GREATEST : Con K mg "GREATEST" t_GREATEST := con_int (He.int_ok X G (cd.fact 47 (f := .int "GREATEST" 1000000) rfl))
  have h_FIGURES : Con K mg "FIGURES" t_FIGURES := con_str (He.str_ok X G (cd.fact 48 (f := .str "FIGURES" "0123456789") rfl))
  have cm : (He.tupB K "PRIMES" (([2, 3, 5, 7, 11, 13, 17, 19, 23, 29] : List Int).map He.Dv.int) && tupD K "PRIMES" && tryB K [13] [11, 12, 13, 14, 15, 16, 17, 18, 19, 20, 21, 22] 10) = true := c.more
  simp only [Bool.and_eq_true] at cm
  have h_PRIMES : Con K mg "PRIMES" t_PRIMES := con_ints (He.glo_ok X G (cd.fact 49 (f := .glo "PRIMES") rfl)) cm.1.1
  have h_PRIMES_d : Con K mg "PRIMES" t_PRIMES_d := con_intsF (n := 2) (ns := [3, 5, 7, 11, 13, 17, 19, 23, 29]) (He.glo_ok X G (cd.fact 49 (f := .glo "PRIMES") rfl)) cm.1.1 cm.1.2
  have tf := tryB_ok cm.2
  obtain ⟨fd_law_pot, D_law_pot⟩ := cd.def_ 0 (d := d_law_pot) rfl
  have m_law_pot := He.glo_ok X G (cd.fact 14 (f := .glo "_law_pot") rfl)
  obtain ⟨fd_law_take, D_law_take⟩ := cd.def_ 1 (d := d_law_take) rfl
  have m_law_take := He.glo_ok X G (cd.fact 15 (f := .glo "_law_take") rfl)
  obtain ⟨fd_law_line, D_law_line⟩ := cd.def_ 2 (d := d_law_line) rfl
  have m_law_line := He.glo_ok X G (cd.fact 16 (f := .glo "_law_line") rfl)
  obtain ⟨fd_law_primes, D_law_primes⟩ := cd.def_ 3 (d := d_law_primes) rfl
  have m_law_primes := He.glo_ok X G (cd.fact 17 (f := .glo "_law_primes") rfl)
  obtain ⟨fd_law_line_text, D_law_line_text⟩ := cd.def_ 4 (d := d_law_line_text) rfl
  have m_law_line_text := He.glo_ok X G (cd.fact 18 (f := .glo "_law_line_text") rfl)
  obtain ⟨fd_law_figures, D_law_figures⟩ := cd.def_ 5 (d := d_law_figures) rfl
  have m_law_figures := He.glo_ok X G (cd.fact 19 (f := .glo "_law_figures") rfl)
  obtain ⟨fd_law_line_due, D_law_line_due⟩ := cd.def_ 6 (d := d_law_line_due) rfl
  have m_law_line_due := He.glo_ok X G (cd.fact 20 (f := .glo "_law_line_due") rfl)
  obtain ⟨fd_number_in, D_number_in⟩ := cd.def_ 7 (d := d_number_in) rfl
  have m_number_in := He.glo_ok X G (cd.fact 21 (f := .glo "number_in") rfl)
  obtain ⟨fd_part_in, D_part_in⟩ := cd.def_ 8 (d := d_part_in) rfl
  have m_part_in := He.glo_ok X G (cd.fact 22 (f := .glo "part_in") rfl)
  obtain ⟨fd_powers_read, D_powers_read⟩ := cd.def_ 9 (d := d_powers_read) rfl
  have m_powers_read := He.glo_ok X G (cd.fact 23 (f := .glo "powers_read") rfl)
  obtain ⟨fd_law_kind_of, D_law_kind_of⟩ := cd.def_ 10 (d := d_law_kind_of) rfl
  have m_law_kind_of := He.glo_ok X G (cd.fact 24 (f := .glo "_law_kind_of") rfl)
  obtain ⟨fd_law_told, D_law_told⟩ := cd.def_ 11 (d := d_law_told) rfl
  have m_law_told := He.glo_ok X G (cd.fact 25 (f := .glo "_law_told") rfl)
  obtain ⟨fd_law_cell_at, D_law_cell_at⟩ := cd.def_ 12 (d := d_law_cell_at) rfl
  have m_law_cell_at := He.glo_ok X G (cd.fact 26 (f := .glo "_law_cell_at") rfl)
  obtain ⟨fd_law_order, D_law_order⟩ := cd.def_ 13 (d := d_law_order) rfl
  have m_law_order := He.glo_ok X G (cd.fact 27 (f := .glo "_law_order") rfl)
  obtain ⟨fd_law_places, D_law_places⟩ := cd.def_ 14 (d := d_law_places) rfl
  have m_law_places := He.glo_ok X G (cd.fact 28 (f := .glo "_law_places") rfl)
  obtain ⟨fd_law_bent_text, D_law_bent_text⟩ := cd.def_ 15 (d := d_law_bent_text) rfl
  have m_law_bent_text := He.glo_ok X G (cd.fact 29 (f := .glo "_law_bent_text") rfl)
  obtain ⟨fd_law_whole, D_law_whole⟩ := cd.def_ 16 (d := d_law_whole) rfl
  have m_law_whole := He.glo_ok X G (cd.fact 30 (f := .glo "_law_whole") rfl)
  obtain ⟨fd_law_same, D_law_same⟩ := cd.def_ 17 (d := d_law_same) rfl
  have m_law_same := He.glo_ok X G (cd.fact 31 (f := .glo "_law_same") rfl)
  obtain ⟨fd_law, D_law⟩ := cd.def_ 18 (d := d_law) rfl
  have m_law := He.glo_ok X G (cd.fact 32 (f := .glo "law") rfl)
  have e := hfa.symm.trans m_law
  cases e
  refine ⟨fd_law, fun s u => FunD.bindsA (ps := ["script"]) D_law (fun _ _ _ _ _ _ us hl => match us, hl with | [_], _ => rfl) s [u] rfl, fun base => ?_⟩
  have g_law_pot := ok_law_pot (w := w) (base := base) (cl := clK K) D_law_pot m_law_pot z_range
  have g_law_take := ok_law_take (w := w) (base := base) (cl := clK K) D_law_take m_law_take 
  have g_law_line := ok_law_line (w := w) (base := base) (cl := clK K) D_law_line m_law_line g_law_take z_tuple
  have g_law_primes := ok_law_primes (w := w) (base := base) (cl := clK K) D_law_primes m_law_primes 
  have g_law_line_text := ok_law_line_text (w := w) (base := base) (cl := clK K) D_law_line_text m_law_line_text g_law_primes z_int z_str z_zip
  have g_law_figures := ok_law_figures (w := w) (base := base) (cl := clK K) D_law_figures m_law_figures z_int z_len z_str
  have g_law_line_due := ok_law_line_due (w := w) (base := base) (cl := clK K) D_law_line_due m_law_line_due g_law_figures g_law_primes z_len z_tuple
  have g_number_in := ok_number_in (w := w) (base := base) (cl := clK K) D_number_in m_number_in z_int z_len h_MOST_FIGURES h_FIGURES
  have g_part_in := ok_part_in (w := w) (base := base) (cl := clK K) D_part_in m_part_in g_number_in z_len h_GREATEST h_PRIMES h_PRIMES_d
  have g_powers_read := ok_powers_read (w := w) (base := base) (cl := clK K) D_powers_read m_powers_read g_part_in e_NoText z_isinstance z_len z_str z_tuple h_PRIMES
  have gx_law_kind_of := okx_law_kind_of (w := w) (base := base) (cl := clK K) D_law_kind_of m_law_kind_of tf mc_NoNumber mc_NoName mc_NoDeed mc_AtRest mc_NoRow mc_NoProgram mc_NoPowers mc_NoOrder mc_TooMany mc_Shared mc_NoTrail mc_NoText z_ValueError z_isinstance
  have g_law_told := ok_law_told (w := w) (base := base) (cl := clK K) D_law_told m_law_told g_powers_read gx_law_kind_of tf mc_FractError
  have g_law_cell_at := ok_law_cell_at (w := w) (base := base) (cl := clK K) D_law_cell_at m_law_cell_at z_len
  have g_law_order := ok_law_order (w := w) (base := base) (cl := clK K) D_law_order m_law_order g_law_take z_range z_tuple
  have g_law_places := ok_law_places (w := w) (base := base) (cl := clK K) D_law_places m_law_places g_law_take g_law_order z_range z_tuple
  have g_law_bent_text := ok_law_bent_text (w := w) (base := base) (cl := clK K) D_law_bent_text m_law_bent_text g_law_take z_len
  have g_law_whole := ok_law_whole (w := w) (base := base) (cl := clK K) D_law_whole m_law_whole z_bool z_int z_isinstance
  have g_law_same := ok_law_same (w := w) (base := base) (cl := clK K) D_law_same m_law_same g_law_whole z_all z_bool z_int z_isinstance z_len z_list z_str z_tuple z_zip 8
  exact ok_law (w := w) (base := base) (cl := clK K) D_law m_law g_law_pot g_law_line g_law_line_text g_law_line_due g_law_told g_law_cell_at g_law_places g_law_bent_text g_law_same g_law_take z_len z_max z_min z_range
theorem walk (hL : ∀ ns : List Int, ns.length ≤ 63 → ∃ h', F_law_k05 [.scr ns] [] = .ok (.bl true) h') : PySem.Challenge.rw_wholefract_k05_texts_of_no_powers.Holds := by
  w_on; o_law
  refine HandSHeadRun.head_any (r := R) (q := qv) (H := hk) (ob := ob) (M := 5790) (loose := names) (kwd := []) ob_eq (by kernel_rfl) (fun s => by kernel_rfl) run (by rfl) (by rfl) (by rfl) (by rfl) (by first | assumption | decide +kernel) (by decide +kernel) ⟨rfl, rfl, rfl, rfl, rfl, by decide +kernel⟩ ?hw ?hc
  case hw => w_witness2
  case hc =>
    refine walk_ofW (l := PySem.Challenge.rw_wholefract_k05_texts_of_no_powers) (n := 63) (k := 10) (x := "script") (F := F_law_k05) rfl (by decide) rfl ⟨rfl, by decide, by decide⟩ (fun w mg fa h Y G e => ?_) hL
    obtain ⟨K, KX, c⟩ := Y
    have ⟨fd, hb, ok⟩ := facts (w := w) KX G c e
    exact ⟨K, _, fd, KX, hb, fun base _ _ => ok base⟩
end K05
end
namespace Gd
open PySem PySem.Spec PyProof.Rows L2 Sm
theorem take_eq {h : Store} {n : Nat} {v far : Int} (p : potAt h n v) (f0 : 0 < far) (f1 : far < 2 ^ 64) : F_law_take [.loc n, .int far] h = .ok (.int (v % far)) (pst h n (v / far)) := by
  refine Out.wp_eq' (fn_wp rfl ?_)
  show (b_law_take [some (.loc n), some (.int far), none] h).wp _
  have d0 : far ≠ 0 := by omega
  have d1 : divB far = true := divB_s d0 (by omega)
  simp [b_law_take, q3_idxC p.1, d0, d1, fmod_p (Int.le_of_lt f0), fdiv_p (Int.le_of_lt f0), setP p, fnP]
theorem take_1 {h : Store} {n : Nat} {v far : Int} (hn : n < h.length) (hv : 0 ≤ v) (f0 : 0 < far) (f1 : far < 2 ^ 64) : F_law_take [.loc n, .int far] (pst h n v) = .ok (.int (v % far)) (pst h n (v / far)) := by
  rw [take_eq (potAt.old hn hv) f0 f1, pst_pst]
theorem take_2 {h l : Store} {n : Nat} {v far : Int} (hn : n < h.length) (hv : 0 ≤ v) (f0 : 0 < far) (f1 : far < 2 ^ 64) : F_law_take [.loc n, .int far] (pst h n v ++ l) = .ok (.int (v % far)) (pst h n (v / far) ++ l) := by
  rw [take_eq ((potAt.old hn hv).app l) f0 f1, pst_app2 hn]
theorem cell_eq {h : Store} {ns : List Int} {k : Int} (h0 : 0 ≤ k) : ∃ v : Int, F_law_cell_at [.scr ns, .int k] h = .ok (.int v) h := by
  by_cases hk : k < ns.length
  · have hk' : k.toNat < ns.length := by omega
    refine ⟨ns[k.toNat], Out.wp_eq' (fn_wp rfl ?_)⟩
    show (b_law_cell_at [some (.scr ns), some (.int k)] h).wp _
    simp [b_law_cell_at, hk, hk', atI_p h0, fnP]
  · refine ⟨0, Out.wp_eq' (fn_wp rfl ?_)⟩
    show (b_law_cell_at [some (.scr ns), some (.int k)] h).wp _
    simp [b_law_cell_at, hk, fnP]
theorem pot_wp {h : Store} {c : Int} : (F_law_pot [.int c] h).wp (fun t h' => t = .loc h.length ∧ ∃ v, 0 ≤ v ∧ h' = h ++ [.lst [.int v]]) (fun _ _ => False) := by
  refine fnK_wp rfl ?_
  show (b_law_pot [some (.int c), none, none, none] h).wp _
  by_cases hc : 1000000000000000000 ≤ c
  · simp [b_law_pot, fPow, hc, fnK]
  · simp (disch := first | omega | simp) [b_law_pot, fPow, hc, fnK, sFor, asR1_ok, so_seq]
    refine forLoop_wp _ (fun _ env h' => h' = h ∧ ∃ v : Int, 0 ≤ v ∧ env = [some (.int c), some (.int v), none, none]) ?_ ?_ ⟨rfl, 0, by decide, rfl⟩
    · rintro i x env h' hx ⟨rfl, v, hv, rfl⟩
      obtain ⟨rfl, hi⟩ := range_at hx
      refine ⟨by simp, _, b_one, ?_⟩
      simp (disch := first | omega | simp) [mulB_r, fmod_p]
      omega
    · rintro env h' ⟨rfl, v, hv, rfl⟩
      simp
      exact hv
theorem pot_ok {h : Store} {c : Int} {Q : T → Store → Prop} {X : Ex → Store → Prop} (q : ∀ v, 0 ≤ v → Q (.loc h.length) (h ++ [.lst [.int v]])) : (F_law_pot [.int c] h).wp Q X :=
  Out.wp_mono pot_wp (fun _ _ ⟨e, v, hv, e2⟩ => by rw [e, e2]; exact q v hv) fun _ _ z => z.elim
end Gd
namespace Gd
open PySem PySem.Spec PyProof.Rows L2 Sm
def isRow (many size : Int) (r : T) : Prop :=
  (∃ c t, 0 ≤ c ∧ c < many ∧ 0 ≤ t ∧ t ≤ size ∧ r = .tup [.str "add", .int c, .int t]) ∨ ∃ c t u, 0 ≤ c ∧ c < many ∧ 0 ≤ t ∧ t ≤ size ∧ 0 ≤ u ∧ u ≤ size ∧ r = .tup [.str "take", .int c, .int t, .int u]
theorem isRow.pu {many size : Int} {r : T} (h : isRow many size r) : r.pu = true := by
  obtain ⟨c, t, _, _, _, _, rfl⟩ | ⟨c, t, u, _, _, _, _, _, _, rfl⟩ := h <;> simp
end Gd
namespace Gd
open PySem PySem.Spec PyProof.Rows L2 Sm
def sameOk : Nat → T → Prop
  | 0, _ => False
  | _ + 1, .non => True
  | _ + 1, .bl _ => True
  | _ + 1, .int _ => True
  | _ + 1, .str _ => True
  | n + 1, .tup xs => xs.length ≤ 10000 ∧ ∀ x ∈ xs, sameOk n x
  | n + 1, .lst xs => xs.length ≤ 10000 ∧ ∀ x ∈ xs, sameOk n x
  | _ + 1, _ => False
theorem whole_eq {h : Store} {i : Int} : F_law_whole [.int i] h = .ok (.bl true) h := by
  refine Out.wp_eq' (fn_wp rfl ?_)
  show (b_law_whole [some (.int i)] h).wp _
  simp [b_law_whole, fnP]
theorem same_eq : ∀ {n : Nat} {t : T} {h : Store}, sameOk n t → F_law_same n [t, t] h = .ok (.bl true) h := by
  intro n
  induction n with
  | zero => exact fun z => z.elim
  | succ n ih =>
    intro t h ok
    refine Out.wp_eq' (fn_wp rfl ?_)
    show (b_law_same (F_law_same n) [some t, some t, none, none] h).wp _
    cases t with
    | non => simp [b_law_same, fnP]
    | bl b => simp [b_law_same, fnP, truF]
    | int i => simp [b_law_same, fnP, truF, whole_eq]
    | str z => simp [b_law_same, fnP, truF]
    | tup xs =>
      obtain ⟨hl, hx⟩ := ok
      have e := compLoop_pure (gs := []) (tg := .tup [2, 3]) (tt := mYes) (me := mCall (F_law_same n) (mCons (mVar 2) (mCons (mVar 3) mNil))) (env := [some (.tup xs), some (.tup xs), none, none]) (h := h) (xs.map fun a => pairT a a) (fun _ => true) (fun _ => .bl true) (by simp) (by simp; omega) fun p hp => by
        obtain ⟨x, hx2, rfl⟩ := List.mem_map.mp hp
        exact ⟨_, b_tup, rfl, fun _ => by simp [setT, ih (hx x hx2)]⟩
      simp [b_law_same, fnP, truF, mComp, mZip, seqK, gdOf, e]
      rw [all_map]
      simp
    | lst xs =>
      obtain ⟨hl, hx⟩ := ok
      have e := compLoop_pure (gs := []) (tg := .tup [2, 3]) (tt := mYes) (me := mCall (F_law_same n) (mCons (mVar 2) (mCons (mVar 3) mNil))) (env := [some (.lst xs), some (.lst xs), none, none]) (h := h) (xs.map fun a => pairT a a) (fun _ => true) (fun _ => .bl true) (by simp) (by simp; omega) fun p hp => by
        obtain ⟨x, hx2, rfl⟩ := List.mem_map.mp hp
        exact ⟨_, b_tup, rfl, fun _ => by simp [setT, ih (hx x hx2)]⟩
      simp [b_law_same, fnP, truF, mComp, mZip, seqK, gdOf, e]
      rw [all_map]
      simp
    | loc m => exact ok.elim
    | scr ns => exact ok.elim
    | emp => exact ok.elim
    | adr a d f ts => exact ok.elim
    | fnc fx => exact ok.elim
    | dct _ _ => exact ok.elim
end Gd
namespace Gd
open PySem PySem.Spec PyProof.Rows L2 Sm
section
variable {h h1 : Store} {env : Env'} {a d : Addr} {e : Ex} {m : M T} {b : Bool}
theorem isX_ok {env : Env'} {i : Nat} (hm : env[i]? = some (some (exT a d e))) : mIsX (exT a d e) b (mVar i) env h = .ok (.bl b) h := by
  unfold mIsX
  rw [q1_var, hm]
  simp
theorem find_bl {bs : List Bool} : (bs.map T.bl).findIdx? (fun z => eqT z (.bl true)) = bs.findIdx? id := by
  rw [List.findIdx?_map]
  congr 1
  funext x
  cases x <;> rfl
end
end Gd
namespace Gd
open PySem PySem.Spec PyProof.Rows L2 Sm
def strip (p n : Nat) : Nat × Nat := if h : 1 < p ∧ 0 < n ∧ n % p = 0 then ((strip p (n / p)).1 + 1, (strip p (n / p)).2) else (0, n)
termination_by n
decreasing_by all_goals exact Nat.div_lt_self h.2.1 h.1
def stripAll : List Nat → Nat → List Nat × Nat
  | [], n => ([], n)
  | p :: ps, n => ((strip p n).1 :: (stripAll ps (strip p n).2).1, (stripAll ps (strip p n).2).2)
def PR : List Nat := [2, 3, 5, 7, 11, 13, 17, 19, 23, 29]
def tN (n : Nat) : T := .int (n : Int)
theorem stripAll_len : ∀ (ps : List Nat) (n : Nat), (stripAll ps n).1.length = ps.length
  | [], _ => rfl
  | p :: ps, n => by simp [stripAll, stripAll_len ps]
@[simp] theorem pus_tN {es : List Nat} : pus (es.map tN) = true := pus_iff.mpr fun x hx => by
  obtain ⟨n, _, rfl⟩ := List.mem_map.mp hx
  rfl
theorem primes_eq {h : Store} : F_law_primes [] h = .ok (.tup (PR.map tN)) h := by
  refine Out.wp_eq' (fn_wp rfl ?_)
  show (b_law_primes [] h).wp _
  simp [b_law_primes, fnP, PR, tN]
end Gd
namespace Gd
open PySem PySem.Spec PyProof.Rows L2 Sm
def upto (t : T) (a b : Int) : Bool := match t with
  | .int i => decide (a ≤ i) && decide (i ≤ b)
  | _ => false
def full (n : Nat) : Bool := (stripAll PR n).2 == 1
def apart : List Nat → List Nat → Bool
  | x :: xs, y :: ys => (x == 0 || y == 0) && apart xs ys
  | _, _ => true
def fracB (t : T) : Bool := match t with
  | .tup [.int x, .int y] => upto (.int x) 1 1000000000000 && upto (.int y) 1 1000000000000 && full x.toNat && full y.toNat && decide (Nat.gcd x.toNat y.toNat = 1)
  | _ => false
end Gd
namespace Gd
open PySem PySem.Spec PyProof.Rows L2 Sm
theorem asN_ok {e : Nat} (ee : e < 1000) {h' : Store} : asR1 [tN e] h' = .ok ⟨Sm.rangeT 0 (e : Int).toNat, []⟩ h' := asR1_ok (by omega) (by omega)
theorem sFor_of {src : M Src} {tg : Tgt} {kl : List Nat} {b : MS} {env : Env'} {h h1 : Store} {s : Src} (e : src env h = .ok s h1) : sFor src tg kl b env h = forLoop s.gs tg kl b s.items (dropE kl env) h1 := by
  unfold sFor
  rw [e, bindE_ok]
end Gd
namespace Gd
open PySem PySem.Spec PyProof.Rows L2 Sm
end Gd
namespace Gd
open PySem PySem.Spec PyProof.Rows L2 Sm
theorem pst_self {h : Store} {n : Nat} {v : Int} (p : potAt h n v) : pst h n v = h := by
  unfold pst
  obtain ⟨hn, e⟩ := List.getElem?_eq_some_iff.mp p.1
  rw [← e]
  exact List.set_getElem_self hn
theorem range_of {r : M (List T)} {env : Env'} {h h1 : Store} {e : Nat} (er : r env h = .ok [tN e] h1) (ee : e < 1000) : mRange1 r env h = .ok ⟨Sm.rangeT 0 e, []⟩ h1 := by
  rw [q1_range1, er, bind_ok]
  have := asN_ok ee (h' := h1)
  rw [Int.toNat_natCast] at this
  exact this
end Gd
namespace Gd
open PySem PySem.Spec PyProof.Rows L2 Sm
theorem e_insert {h : Store} {m : Nat} {i : Int} {y : T} {xs : List T} (e : h.length = m) (hl : xs.length < 100000) (hy : y.pu = true) (h0 : 0 ≤ i) (h1 : i < 100000) :
    outM (fInsert (.loc m) [.int i, y] (h ++ [.lst xs])) = .ok .non (h ++ [.lst (xs.take i.toNat ++ [y] ++ xs.drop i.toNat)]) := by
  have c : cellL (h ++ [.lst xs]) m = some xs := by unfold cellL; rw [at_end e]
  have : fInsert (.loc m) [.int i, y] (h ++ [.lst xs]) = some (.non, (h ++ [Cell.lst xs]).set m (.lst (xs.take i.toNat ++ [y] ++ xs.drop i.toNat))) := by
    simp only [fInsert, c]
    rw [if_pos ⟨hl, hy, h0, h1⟩]
  rw [this, set_end e]
  rfl
theorem order_wp {h : Store} {n : Nat} {v : Int} {Q : T → Store → Prop} {X : Ex → Store → Prop} (p : potAt h n v)
    (q : ∀ (ps : List Nat) w, 0 ≤ w → ps.length = 10 → (∀ p ∈ ps, p < 10) → Q (.tup (ps.map tN)) (pst h n w)) : (F_law_order [.loc n, .int 10] h).wp Q X := by
  refine fn_wp rfl ?_
  show (b_law_order [some (.loc n), some (.int 10), none, none] h).wp _
  have hn := p.lt
  simp (disch := first | omega | simp) [b_law_order, sFor, asR1_ok, so_seq]
  refine forLoop_wp _ (fun i env h' => ∃ w ps, 0 ≤ w ∧ h' = pst h n w ++ [.lst (ps.map tN)] ∧ ps.length = i ∧ (∀ p ∈ ps, p < 10) ∧ env = [some (.loc n), none, some (.loc h.length), none]) ?_ ?_ ⟨v, [], p.2, by rw [pst_self p]; rfl, rfl, by simp, rfl⟩
  · rintro i x env h' hx ⟨w, ps, hw, rfl, hl, hp, rfl⟩
    obtain ⟨rfl, hi⟩ := range_at hx
    refine ⟨by simp, _, b_one, ?_⟩
    have z : (0 : Int) + (i : Int) = (i : Int) := by omega
    rw [z]
    have tk := take_2 (h := h) (l := [.lst (ps.map tN)]) (n := n) (v := w) (far := (i : Int) + 1) hn hw (by omega) (by omega)
    have w1 : 0 ≤ w / ((i : Int) + 1) := Int.ediv_nonneg hw (by omega)
    have a := Int.emod_nonneg w (show (i : Int) + 1 ≠ 0 by omega)
    have b := Int.emod_lt_of_pos w (show (0 : Int) < (i : Int) + 1 by omega)
    have lm : (ps.map tN).length = ps.length := List.length_map ..
    simp [at_end (h := pst h n w) (m := h.length) pst_len, tk]
    rw [e_insert pst_len (by omega) rfl a (by omega)]
    simp
    refine ⟨_, w1, ps.take (w % ((i : Int) + 1)).toNat ++ [i] ++ ps.drop (w % ((i : Int) + 1)).toNat, ⟨rfl, by simp [tN]⟩, ?_, ?_⟩
    · simp
      omega
    · intro r hr
      simp only [List.mem_append, List.mem_singleton] at hr
      rcases hr with (hr | rfl) | hr
      · exact hp r (List.mem_of_mem_take hr)
      · omega
      · exact hp r (List.mem_of_mem_drop hr)
  · rintro env h' ⟨w, ps, hw, rfl, hl, hp, rfl⟩
    rw [Sm.rangeT_length] at hl
    simp [e_tup, fnP]
    exact q ps w hw hl hp
theorem places_wp {h : Store} {n : Nat} {v : Int} {Q : T → Store → Prop} {X : Ex → Store → Prop} (p : potAt h n v)
    (q : ∀ (ps : List Nat) w, 0 ≤ w → ps ≠ [] → ps.length ≤ 10 → (∀ p ∈ ps, p < 10) → Q (.tup (ps.map tN)) (pst h n w)) : (F_law_places [.loc n] h).wp Q X := by
  refine fn_wp rfl ?_
  show (b_law_places [some (.loc n), none] h).wp _
  have hn := p.lt
  have v1 : 0 ≤ v / 5 := by have := p.2; omega
  have a : 0 ≤ v % 5 ∧ v % 5 < 5 := by have := p.2; omega
  have v2 : 0 ≤ v / 5 / 2 := by omega
  by_cases hz : v / 5 % 2 = 0
  · have r0 : asR2 [.int 0, .int (1 + v % 5)] (pst h n (v / 5 / 2)) = .ok ⟨Sm.rangeT 0 (1 + v % 5 - 0).toNat, []⟩ (pst h n (v / 5 / 2)) := asR2_ok (by omega) (by omega) (by omega) (by omega)
    have e : Sm.rangeT 0 (1 + v % 5 - 0).toNat = (List.range (1 + v % 5).toNat).map tN := by
      unfold Sm.rangeT
      rw [Int.sub_zero]
      refine List.map_congr_left fun i _ => ?_
      show T.int _ = T.int _
      congr 1
      omega
    rw [e] at r0
    simp (disch := first | omega | assumption | simp) [b_law_places, take_eq p, take_1, hz, r0, fnP]
    refine q _ _ v2 ?_ (by rw [List.length_range]; omega) fun p hp => by have := List.mem_range.mp hp; omega
    intro z
    have := congrArg List.length z
    rw [List.length_range] at this
    simp at this
    omega
  · simp (disch := first | omega | assumption | simp) [b_law_places, take_eq p, take_1, hz]
    simp only [so_bindE, wp_bind]
    refine order_wp (potAt.old hn v2) fun ps w hw hl hp => ?_
    simp (disch := first | omega | assumption | simp) [cut_to, fnP]
    have e : (ps.map tN).take (1 + v % 5).toNat = (ps.take (1 + v % 5).toNat).map tN := by rw [List.map_take]
    have pl : pus ((ps.map tN).take (1 + v % 5).toNat) = true := by rw [e]; exact pus_tN
    rw [pl]
    simp only [true_and, true_or, Bool.true_eq_false, false_and, or_false]
    rw [e]
    refine q (ps.take (1 + v % 5).toNat) w hw ?_ (by rw [List.length_take]; omega) fun p hm => hp p (List.mem_of_mem_take hm)
    intro z
    have := congrArg List.length z
    rw [List.length_take, List.length_nil] at this
    omega
end Gd
namespace Gd
open PySem PySem.Spec PyProof.Rows L2 Sm
def isFr (f : T) : Prop := ∃ a b : Nat, f = .tup [tN a, tN b] ∧ fracB f = true
theorem isFr.plain {f : T} (k : isFr f) : f.plain = true := by
  obtain ⟨a, b, rfl, _⟩ := k
  simp [tN]
end Gd
namespace Gd
open PySem PySem.Spec PyProof.Rows L2 Sm
def nI (es : List Nat) : List Int := es.map Int.ofNat
def subL (xs ys : List Int) : List Int := (xs.zip ys).map fun p => p.1 - p.2
def fits (xs ws : List Int) : Bool := (xs.zip ws).all fun p => decide (p.2 ≤ p.1)
theorem subL_len {xs ys : List Int} : (subL xs ys).length = min xs.length ys.length := by simp [subL]
abbrev Fr := Nat × Nat
structure okFr (p : Fr) : Prop where
  a0 : 0 < p.1
  b0 : 0 < p.2
  fa : full p.1 = true
  fb : full p.2 = true
  am : p.1 ≤ 1000000000000
  bm : p.2 ≤ 1000000000000
  co : Nat.gcd p.1 p.2 = 1
def ex (n : Nat) : List Int := nI (stripAll PR n).1
theorem ex_len {n : Nat} : (ex n).length = 10 := by simp [ex, nI, stripAll_len, PR]
def addF (p : Fr) : List Int := subL (ex p.1) (ex p.2)
theorem addF_len {p : Fr} : (addF p).length = 10 := by simp [addF, subL_len, ex_len]
section
variable {h : Store} {fr : List Fr}
end
end Gd
namespace Gd
open PySem PySem.Spec PyProof.Rows L2 Sm
section
variable {h : Store} {fr : List Fr}
theorem src_zipT {r : M (List T)} {env : Env'} {h h1 : Store} {xs ys : List T} (er : r env h = .ok [.tup xs, .tup ys] h1) : mZip r env h = .ok ⟨List.zipWith pairT xs ys, []⟩ h1 := by
  unfold mZip
  rw [er]
  simp only [bind_ok, seqK, gdOf, List.append_nil]
theorem getm {α : Type} {f : α → T} {l : List α} {i : Nat} {t : T} (e : (l.map f)[i]? = some t) : ∃ x, l[i]? = some x ∧ t = f x ∧ i < l.length := by
  rw [List.getElem?_map, Option.map_eq_some_iff] at e
  obtain ⟨x, a, b⟩ := e
  exact ⟨x, a, b.symm, (List.getElem?_eq_some_iff.mp a).1⟩
theorem take_snoc {α : Type} {l : List α} {i : Nat} {x : α} (e : l[i]? = some x) : l.take (i + 1) = l.take i ++ [x] := by
  rw [List.take_add_one, e]
  rfl
end
end Gd
namespace Gd
open PySem PySem.Spec PyProof.Rows L2 Sm
section
variable {h h1 : Store} {fr : List Fr} {c n i j : Nat} {m mo mv : M T} {r : M (List T)} {env : Env'} {F : Fn} {nm f : Str} {fs : List (Str × T)}
@[simp] theorem q1_fld : mFld c f m env h = (m env h).bind fun a h1 => Out.ofO ((insOf c h1 a).bind fun p => p.2.lookup f) h1 := rfl
def firstL : List (List Int) → List Int → Option Nat
  | [], _ => none
  | w :: r, xs => if fits xs w then some 0 else (firstL r xs).map (· + 1)
def goneL (xs as : List Int) (k : Int) : List Int := (xs.zip as).map fun p => p.1 + k * p.2
def wantsL (fr : List Fr) : List (List Int) := fr.map fun p => ex p.2
end
end Gd
namespace Gd
open PySem PySem.Spec PyProof.Rows L2 Sm
section
variable {h : Store}
end
end Gd
namespace Gd
open PySem PySem.Spec PyProof.Rows L2 Sm
section
variable {h h1 : Store} {fr : List Fr} {c n i j : Nat} {m mo mv : M T} {r : M (List T)} {env : Env'} {F : Fn} {nm f : Str} {fs : List (Str × T)}
end
end Gd
namespace Gd
open PySem PySem.Spec PyProof.Rows L2 Sm
section
variable {h : Store} {fr : List Fr}
end
end Gd
namespace Gd
open PySem PySem.Spec PyProof.Rows L2 Sm
section
variable {h : Store} {fr : List Fr} {env : Env'} {a d : Addr} {e : Ex} {n : Nat}
def ord1 (c : Nat) : List Bool := [decide (c = 11), decide (c = 21), decide (c = 20), decide (c = 14), decide (c = 15), decide (c = 18), decide (c = 16), decide (c = 22), decide (c = 13), decide (c = 19), decide (c = 17), decide (c = 12)]
def words1 : List T := [.str "rest", .str "deed", .str "name", .str "number", .str "order", .str "powers", .str "program", .str "row", .str "text", .str "trail", .str "shared", .str "many"]
theorem count_lst {bs : List Bool} {b : Bool} : fCount (.lst (bs.map T.bl)) [.bl b] h = some (.int ((bs.count b : Nat) : Int), h) := by
  have z : ∀ bs : List Bool, blsOf (bs.map T.bl) = some bs := fun bs => by
    induction bs with
    | nil => rfl
    | cons x r ih => rw [List.map_cons, blsOf, ih]; rfl
  simp only [fCount, lstOf, z]
  rfl
theorem index_lst {bs : List Bool} {j : Nat} (hj : bs.findIdx? id = some j) : fIndex (.lst (bs.map T.bl)) [.bl true] h = some (.int (j : Int), h) := by
  have flat : (bs.map T.bl).all flatT = true := List.all_eq_true.mpr fun x hx => by
    obtain ⟨b, _, rfl⟩ := List.mem_map.mp hx
    rfl
  simp only [fIndex, lstOf]
  rw [if_pos ⟨rfl, flat⟩, find_bl, hj, Option.map_some]
theorem kind1_eq {j : Nat} {t : T} (hc : (ord1 e.c).count true = 1) (hj : (ord1 e.c).findIdx? id = some j) (ht : words1[j]? = some t) (tp : t.pu = true) : F_law_kind_of a d e [exT a d e] h = .ok t h := by
  refine Out.wp_eq (fn_wp rfl ?_)
  show (b_law_kind_of a d e [some (exT a d e), none, none] h).wp _
  have i1 : ∀ (b : Bool) (x y : Option T) (h : Store), mIsX (exT a d e) b (mVar 0) [some (exT a d e), x, y] h = .ok (.bl b) h := fun b x y h => isX_ok rfl
  have cn := count_lst (h := h) (bs := ord1 e.c) (b := true)
  have ix := index_lst (h := h) hj
  have jl : j < 12 := by
    have := (List.getElem?_eq_some_iff.mp ht).1
    simpa [words1] using this
  have iw : atI words1 (j : Int) = some t := by
    rw [atI_p (by omega) (by simp [words1]; omega)]
    simpa using ht
  rw [hc] at cn
  simp only [ord1, List.map_cons, List.map_nil] at cn ix
  simp only [words1] at iw
  simp -implicitDefEqProofs (disch := simp) [b_law_kind_of, i1, cn, ix, iw, add_lst, fnP, tp, outM]
end
end Gd
namespace Gd
open PySem PySem.Spec PyProof.Rows L2 Sm
section
variable {h : Store} {fr : List Fr}
theorem comp_flt {α : Type} {g : α → T} {l : List α} {src : M Src} {tg : Tgt} {own : List Nat} {tt : M Bool} {me : M T} {env : Env'} {h1 : Store} (p : α → Bool) (f : α → T) (es : src env h = .ok ⟨l.map g, []⟩ h1) (hl : l.length ≤ 1000)
    (el : ∀ x ∈ l, ∃ env1, bindT tg (g x) (dropE own env) = some env1 ∧ tt env1 h1 = .ok (p x) h1 ∧ (p x = true → me env1 h1 = .ok (f x) h1)) : mComp src own tg tt me env h = .ok ((l.filter p).map f) h1 := by
  unfold mComp
  rw [es, bind_ok]
  have w : (compLoop [] tg tt me (dropE own env) (l.map g) [] h1).wp (fun b h' => b = (l.filter p).map f ∧ h' = h1) (fun _ _ => False) := by
    refine compLoop_wp _ (fun i acc h' => h' = h1 ∧ acc = ((l.take i).filter p).map f) ?_ ?_ (by rw [List.length_map]; omega) ⟨rfl, rfl⟩
    · rintro i x acc h' hx ha ⟨rfl, rfl⟩
      obtain ⟨y, hy, rfl, _⟩ := getm hx
      obtain ⟨env1, a, b, c⟩ := el y (List.mem_of_getElem? hy)
      refine ⟨by simp, env1, a, ?_⟩
      rw [b, wp_ok, take_snoc hy, List.filter_append, List.map_append]
      cases q : p y with
      | true =>
        rw [if_pos rfl, c q, wp_ok]
        exact ⟨rfl, by simp [q]⟩
      | false =>
        rw [if_neg (by simp)]
        exact ⟨rfl, by simp [q]⟩
    · rintro acc h' ⟨rfl, rfl⟩
      refine ⟨by simp, ?_, rfl⟩
      rw [List.length_map, l.take_length]
  exact Out.wp_eq' w
theorem comp_map {α : Type} {g : α → T} {l : List α} {src : M Src} {tg : Tgt} {own : List Nat} {me : M T} {env : Env'} {h1 : Store} (f : α → T) (es : src env h = .ok ⟨l.map g, []⟩ h1) (hl : l.length ≤ 1000)
    (el : ∀ x ∈ l, ∃ env1, bindT tg (g x) (dropE own env) = some env1 ∧ me env1 h1 = .ok (f x) h1) : mComp src own tg mYes me env h = .ok (l.map f) h1 := by
  have := comp_flt (tt := mYes) (fun _ => true) f es hl fun x hx => by
    obtain ⟨e, a, b⟩ := el x hx
    exact ⟨e, a, rfl, fun _ => b⟩
  rw [this, List.filter_eq_self.mpr fun x hx => rfl]
theorem elem_nat {i : Nat} : ∀ ns : List Nat, inT (tN i) (ns.map tN) = decide (i ∈ ns)
  | [] => rfl
  | x :: r => by
    have ih := elem_nat (i := i) r
    unfold inT at ih ⊢
    rw [List.map_cons, List.any_cons, ih]
    have : eqT (tN x) (tN i) = decide (i = x) := by
      rw [show eqT (tN x) (tN i) = decide ((i : Int) = (x : Int)) from eqT_int]
      simp only [decide_eq_decide]
      omega
    rw [this]
    simp [List.mem_cons, Bool.decide_or]
theorem out_ex {o : Out T} {e : Ex} {h : Store} (q : o.wp (fun _ _ => False) (fun e2 h2 => e2 = e ∧ h2 = h)) : o = .ex e h := by
  revert q
  cases o with
  | ok a h2 => exact fun q => q.elim
  | ex e2 h2 =>
    rintro ⟨rfl, rfl⟩
    rfl
  | bad => exact fun q => q.elim
section
variable {a b : List Fr}
end
end
end Gd
namespace Gd
open PySem PySem.Spec PyProof.Rows L2 Sm
def numS (n : Nat) : Str := SX.S (TL.numL n)
theorem s_blank : Str.ofString " " = SX.S [32] := by decide +kernel
theorem s_hat : Str.ofString "^" = SX.S [94] := by decide +kernel
theorem s_star : Str.ofString "*" = SX.S [42] := by decide +kernel
theorem s_0 : Str.ofString "0" = SX.S [48] := by decide +kernel
theorem s_1 : Str.ofString "1" = SX.S [49] := by decide +kernel
theorem s_e : Str.ofString "" = SX.S [] := by decide +kernel
theorem s_fig : Str.ofString "0123456789" = SX.S [48, 49, 50, 51, 52, 53, 54, 55, 56, 57] := by decide +kernel
section
variable {h : Store} {n m : Nat} {a b : List Nat} {fr : List Fr} {p : Fr}
theorem len_num (hn : n < 10000000000000) : (TL.numL n).length ≤ 13 := TL.numL_len (k := 13) (by decide) (by simpa using hn)
theorem fStr_n (hn : n < 10000000000000) : fStr [tN n] h = some (.str (numS n)) := by
  have lg : ((n : Int)).natAbs.log2 < 1920 := by
    rw [Int.natAbs_natCast]
    by_cases z : n = 0
    · rw [z]
      decide
    · rw [Nat.log2_lt z]
      exact Nat.lt_of_lt_of_le hn (by
        have : 10000000000000 ≤ 2 ^ 44 := by decide
        exact Nat.le_trans this (Nat.pow_le_pow_right (by decide) (by decide)))
  show (if ((n : Int)).natAbs.log2 < 1920 then some (T.str _) else none) = _
  rw [if_pos lg]
  congr 2
  exact TL.ext_tl (TL.tl_num n)
theorem fAdd_S (hl : a.length + b.length ≤ 100000) : fAdd (.str (SX.S a)) (.str (SX.S b)) h = some (.str (SX.S (a ++ b))) := by
  show (if (SX.S a).length + (SX.S b).length ≤ 100000 then some (T.str (SX.S a ++ SX.S b)) else none) = _
  rw [SX.S_len, SX.S_len, if_pos hl, SX.S_cat]
theorem numL_head : ∀ (n : Nat), 0 < n → ∀ c r, TL.numL n = c :: r → c ≠ 48 := fun n => by
  induction n using Nat.strongRecOn with
  | _ n ih =>
    intro n0 c r e
    by_cases z : n < 10
    · rw [TL.numL_lt z] at e
      have := (List.cons.inj e).1
      omega
    · rw [TL.numL_step (by omega)] at e
      cases q : TL.numL (n / 10) with
      | nil => exact absurd q (TL.numL_ne _)
      | cons c2 r2 =>
        rw [q] at e
        have := (List.cons.inj e).1
        rw [← this]
        exact ih (n / 10) (by omega) (by omega) c2 r2 q
theorem number_in_eq (hn : n < 10000000000000) : F_number_in [.str (numS n)] h = .ok (tN n) h := by
  have l13 := len_num hn
  have dg := TL.numL_digits n
  have hd := numL_head n
  have it : intText? (numS n) = some (n : Int) := by
    have := TL.int_num (n := n) (by omega)
    rw [← this]
    congr 1
    exact (TL.ext_tl (TL.tl_num n)).symm
  have zero : n = 0 → TL.numL n = [48] := fun z => by
    rw [z]
    exact TL.numL_lt (by decide)
  obtain ⟨c, r, e⟩ : ∃ c r, TL.numL n = c :: r := by
    cases q : TL.numL n with
    | nil => exact absurd q (TL.numL_ne _)
    | cons c r => exact ⟨c, r, rfl⟩
  refine Out.wp_eq (fn_wp rfl ?_)
  show (b_number_in [some (.str (numS n)), none] h).wp _
  have sl : (numS n).length = (TL.numL n).length := SX.S_len _
  have ln : fLen [.str (numS n)] h = some (.int ((TL.numL n).length : Int)) := by
    show (if (numS n).length ≤ 100000 then some (T.int ((numS n).length : Nat)) else none) = _
    rw [sl, if_pos (by omega)]
  have pos : 1 ≤ (TL.numL n).length := by rw [e]; simp
  have l1 : fLe (.int 1) (.int ((TL.numL n).length : Int)) h = some (.bl true) := by rw [q3_le, decide_eq_true (by omega)]
  have l2 : fLe (.int ((TL.numL n).length : Int)) t_MOST_FIGURES h = some (.bl true) := by
    show fLe (.int _) (.int 13) h = _
    rw [q3_le, decide_eq_true (by omega)]
  have ix : fIdx (.str (numS n)) (.int 0) h = some (.str (SX.S [c])) := by
    show (if (numS n).length ≤ 100000 then (atI (numS n).cps.toList 0).map fun c => T.str ⟨#[c]⟩ else none) = _
    rw [sl, if_pos (by omega)]
    show (atI (TL.numL n) 0).map _ = _
    rw [e, atI_0]
    rfl
  have e0 : ∀ x : List Nat, fEq (.str (SX.S x)) (.str (SX.S [48])) h = some (.bl (decide (x = [48]))) := fun x => by
    rw [q3_eqS]
    congr 2
    rw [decide_eq_decide]
    exact ⟨SX.S_inj, fun z => by rw [z]⟩
  have ks : ∀ x : List Nat, fNe (.str (SX.S x)) (.str (SX.S [48])) h = some (.bl (!decide (x = [48]))) := fun x => by
    show some (T.bl (!decide (SX.S x = SX.S [48]))) = _
    congr 3
    rw [decide_eq_decide]
    exact ⟨SX.S_inj, fun z => by rw [z]⟩
  have cond : mOrT (mNotT (mTst (mChain fLe fLe (mC (.int 1)) (mCallF fLen (mCons (mVar 0) mNil)) (mC t_MOST_FIGURES)))) (mAndT (mTst (mBin fEq (mBin fIdx (mVar 0) (mC (.int 0))) (mC (.str "0")))) (mTst (mBin fNe (mVar 0) (mC (.str "0"))))) [some (.str (numS n)), none] h = .ok false h := by
    rw [s_0]
    simp -implicitDefEqProofs only [q1_orT, q1_notT, q1_andT, q1_tst, q1_chain, q1_bin, q1_callF, q1_cons, q1_nil, q1_var, q1_C, List.getElem?_cons_zero, bind_ok, ln, l1, l2, ix, e0, ofO_some, asB_bl, if_true, Bool.not_true, Bool.false_eq_true, if_false]
    by_cases z : c = 48
    · have n0 : n = 0 := by
        by_cases y : n = 0
        · exact y
        · exact absurd z (hd (by omega) c r e)
      have kz := ks (TL.numL n)
      rw [decide_eq_true (zero n0)] at kz
      rw [decide_eq_true (by rw [z])]
      simp -implicitDefEqProofs only [if_true]
      show ((Out.ofO (fNe (.str (SX.S (TL.numL n))) (.str (SX.S [48])) h) h).bind asB) = _
      rw [kz]
      rfl
    · rw [decide_eq_false (fun y => z (List.cons.inj y).1)]
      rfl
  unfold b_number_in
  simp -implicitDefEqProofs only [q2_seq, q2_if, cond, bindE_ok, Bool.false_eq_true, if_false, q2_nil, seq_nx, so_seq]
  rw [sFor_of (h1 := h) (s := ⟨(TL.numL n).map fun c => T.str ⟨#[c]⟩, []⟩) (by simp only [q1_seqS, q1_var, List.getElem?_cons_zero, bind_ok]; rfl)]
  refine forLoop_wp _ (fun i env h' => h' = h ∧ env = [some (.str (numS n)), none]) ?_ ?_ ⟨rfl, by simp⟩
  · rintro i y env h' hy ⟨rfl, rfl⟩
    obtain ⟨d, hd2, rfl, hi⟩ := getm hy
    have dd := dg d (List.mem_of_getElem? hd2)
    refine ⟨by simp, _, b_one, ?_⟩
    have ni : fNotIn (.str ⟨#[d]⟩) t_FIGURES h' = some (.bl false) := by
      show some (T.bl (!decide (d ∈ (Str.ofString "0123456789").cps.toList))) = _
      rw [s_fig]
      congr 2
      have : d ∈ [48, 49, 50, 51, 52, 53, 54, 55, 56, 57] := by
        simp only [List.mem_cons, List.not_mem_nil, or_false]
        omega
      show (!decide (d ∈ [48, 49, 50, 51, 52, 53, 54, 55, 56, 57])) = false
      rw [decide_eq_true this]
      rfl
    simp -implicitDefEqProofs only [List.set, q2_if, q1_tst, q1_bin, q1_var, q1_C, List.getElem?_cons_zero, List.getElem?_cons_succ, bind_ok, ni, ofO_some, asB_bl, bindE_ok, Bool.false_eq_true, if_false, q2_nil]
    exact ⟨rfl, rfl⟩
  · rintro env h' ⟨rfl, rfl⟩
    have fi : fIntT [.str (numS n)] h' = some (tN n) := by
      show (if (numS n).length ≤ 640 then (intText? (numS n)).map T.int else none) = _
      rw [sl, if_pos (by omega), it]
      rfl
    refine ⟨by simp, ?_⟩
    simp -implicitDefEqProofs only [q2_ret, q1_callF, q1_cons, q1_nil, q1_var, List.getElem?_cons_zero, bind_ok, fi, ofO_some, bindE_ok, so_rt]
    exact ⟨si_self, .inl ⟨rfl, rfl, by simp⟩⟩
theorem strs_map {α : Type} {f : α → Str} : ∀ {l : List α}, Sm.strsOf? (l.map fun x => T.str (f x)) = some (l.map f)
  | [] => rfl
  | x :: r => by
    show (Sm.strsOf? (r.map fun x => T.str (f x))).map (f x :: ·) = _
    rw [strs_map]
    rfl
theorem joinL_len {s : List Nat} {k : Nat} : ∀ {ps : List (List Nat)}, (∀ p ∈ ps, p.length ≤ k) → (TL.joinL s ps).length ≤ ps.length * (k + s.length)
  | [], _ => Nat.zero_le _
  | [p], h => by
    have := h p (List.mem_cons_self ..)
    show p.length ≤ 1 * (k + s.length)
    omega
  | p :: q :: r, h => by
    have a := h p (List.mem_cons_self ..)
    have b := joinL_len (s := s) (k := k) (ps := q :: r) fun z hz => h z (List.mem_cons_of_mem _ hz)
    show (p ++ (s ++ TL.joinL s (q :: r))).length ≤ (r.length + 1 + 1) * (k + s.length)
    rw [List.length_append, List.length_append, Nat.succ_mul]
    have : (q :: r).length = r.length + 1 := rfl
    rw [this] at b
    omega
theorem split_ev {env : Env'} {mo : M T} {x : Str} {y : List Nat} {z : Str} {ws : List Str} (e : mo env h = .ok (.str x) h) (ez : z = SX.S y) (hy : y ≠ []) (hx : x.length ≤ 100000) (sp : Txt.split x (SX.S y) = ws) : mFrz (mSplit mo (mC (.str z))) env h = .ok (.lst (ws.map T.str)) h := by
  subst ez
  rw [q1_frz]
  unfold mSplit
  simp only [e, bind_ok, q1_C]
  rw [if_pos ⟨by rw [SX.S_len]; cases y with | nil => exact absurd rfl hy | cons a r => rfl, hx⟩, sp]
  rfl
end
end Gd
namespace Gd
open PySem PySem.Spec PyProof.Rows L2 Sm
def dig (c : Nat) : Bool := decide (48 ≤ c) && decide (c ≤ 57)
def canon (w : List Nat) : Bool := match w with
  | [] => false
  | c :: r => (c :: r).all dig && (decide (c ≠ 48) || decide (r = []))
def numI (w : List Nat) : Option Nat := if canon w = true ∧ w.length ≤ 13 then some (NumText.digitsVal w) else none
def figL (w : List Nat) : Option Nat := if canon w = true ∧ w.length ≤ 19 then some (NumText.digitsVal w) else none
def oN : Option Nat → T
  | none => .non
  | some n => tN n
section
variable {h : Store} {w : List Nat} {n : Nat}
theorem dig_iff {c : Nat} : dig c = true ↔ 48 ≤ c ∧ c ≤ 57 := by
  unfold dig
  rw [Bool.and_eq_true, decide_eq_true_eq, decide_eq_true_eq]
theorem all_dig (k : w.all dig = true) : NumText.AllDigits w := fun c hc => dig_iff.mp (List.all_eq_true.mp k c hc)
theorem canon_all (k : canon w = true) : w.all dig = true := by
  cases w with
  | nil => cases k
  | cons c r => exact (Bool.and_eq_true _ _ ▸ k : _ ∧ _).1
theorem val_lt : ∀ {k : Nat} {w : List Nat}, w.length = k → w.all dig = true → NumText.digitsVal w < 10 ^ k := fun {k} => by
  induction k with
  | zero =>
    intro w l _
    rw [List.length_eq_zero_iff.mp l]
    decide
  | succ k ih =>
    intro w l d
    have ne : w ≠ [] := fun z => by rw [z] at l; simp at l
    have e := List.dropLast_concat_getLast ne
    generalize w.dropLast = a at e
    generalize w.getLast ne = c at e
    subst e
    rw [List.all_append, Bool.and_eq_true] at d
    have la : a.length = k := by simpa using l
    have := ih la d.1
    have cd := dig_iff.mp (List.all_eq_true.mp d.2 c (List.mem_singleton.mpr rfl))
    rw [NumText.digitsVal_snoc, Nat.pow_succ]
    omega
theorem num_back (k : canon w = true) : TL.numL (NumText.digitsVal w) = w := by
  have d := all_dig (canon_all k)
  cases w with
  | nil => cases k
  | cons c r =>
    have hh : r.length = 0 ∨ ∃ c' r', c :: r = c' :: r' ∧ 49 ≤ c' := by
      unfold canon at k
      rw [Bool.and_eq_true, Bool.or_eq_true, decide_eq_true_eq, decide_eq_true_eq] at k
      rcases k.2 with z | z
      · have := d c (List.mem_cons_self ..)
        exact .inr ⟨c, r, rfl, by omega⟩
      · exact .inl (by rw [z]; rfl)
    have := NumText.toDigits_digitsVal r.length (c :: r) rfl d hh
    unfold TL.numL
    rw [this, List.map_map]
    have : ∀ l : List Nat, NumText.AllDigits l → l.map (Char.toNat ∘ Char.ofNat) = l := fun l hl => by
      have e : l.map (Char.toNat ∘ Char.ofNat) = l.map id := List.map_congr_left fun c hc => by
        have h1 := hl c hc
        have : ∀ c, c < 58 → (Char.ofNat c).toNat = c := by decide
        exact this c (by omega)
      rw [e, List.map_id]
    exact this _ d
theorem canon_num : canon (TL.numL n) = true := by
  have d := TL.numL_digits n
  cases q : TL.numL n with
  | nil => exact absurd q (TL.numL_ne n)
  | cons c r =>
    unfold canon
    rw [Bool.and_eq_true, Bool.or_eq_true, decide_eq_true_eq, decide_eq_true_eq]
    refine ⟨List.all_eq_true.mpr fun y hy => dig_iff.mpr (d y (by rw [q]; exact hy)), ?_⟩
    by_cases z : n = 0
    · right
      rw [z] at q
      have : TL.numL 0 = [48] := TL.numL_lt (by decide)
      rw [this] at q
      exact (List.cons.inj q).2.symm
    · exact .inl (numL_head n (by omega) c r q)
theorem fStr_big (hn : n < 100000000000000000000) : fStr [tN n] h = some (.str (numS n)) := by
  have lg : ((n : Int)).natAbs.log2 < 1920 := by
    rw [Int.natAbs_natCast]
    by_cases z : n = 0
    · rw [z]
      decide
    · rw [Nat.log2_lt z]
      exact Nat.lt_of_lt_of_le hn (by
        have : 100000000000000000000 ≤ 2 ^ 67 := by decide
        exact Nat.le_trans this (Nat.pow_le_pow_right (by decide) (by decide)))
  show (if ((n : Int)).natAbs.log2 < 1920 then some (T.str _) else none) = _
  rw [if_pos lg]
  congr 2
  exact TL.ext_tl (TL.tl_num n)
theorem eqS {x y : List Nat} : fEq (.str (SX.S x)) (.str (SX.S y)) h = some (.bl (decide (x = y))) := by
  rw [q3_eqS]
  congr 2
  rw [decide_eq_decide]
  exact ⟨SX.S_inj, fun z => by rw [z]⟩
theorem neSS {x y : List Nat} : fNe (.str (SX.S x)) (.str (SX.S y)) h = some (.bl (!decide (x = y))) := by
  show some (T.bl (!decide (SX.S x = SX.S y))) = _
  congr 3
  rw [decide_eq_decide]
  exact ⟨SX.S_inj, fun z => by rw [z]⟩
theorem lenS (hw : w.length ≤ 100000) : fLen [.str (SX.S w)] h = some (.int (w.length : Int)) := by
  show (if (SX.S w).length ≤ 100000 then some (T.int ((SX.S w).length : Nat)) else none) = _
  rw [SX.S_len, if_pos hw]
theorem int_any (k : w.all dig = true) (h0 : w ≠ []) (hl : w.length ≤ 640) : fIntT [.str (SX.S w)] h = some (tN (NumText.digitsVal w)) := by
  have it : intText? (SX.S w) = some ((NumText.digitsVal w : Nat) : Int) := intText_digits (x := SX.S w) (all_dig k) h0 (by rw [SX.S_len]; omega)
  show (if (SX.S w).length ≤ 640 then (intText? (SX.S w)).map T.int else none) = _
  rw [SX.S_len, if_pos hl, it]
  rfl
theorem number_in_any (hw : w.length ≤ 100000) : F_number_in [.str (SX.S w)] h = .ok (oN (numI w)) h := by
  refine Out.wp_eq (fn_wp rfl ?_)
  show (b_number_in [some (.str (SX.S w)), none] h).wp _
  have ln := lenS (h := h) hw
  have l1 : fLe (.int 1) (.int (w.length : Int)) h = some (.bl (decide (1 ≤ w.length))) := by
    rw [q3_le]
    congr 2
    rw [decide_eq_decide]
    omega
  have l2 : fLe (.int (w.length : Int)) t_MOST_FIGURES h = some (.bl (decide (w.length ≤ 13))) := by
    show fLe (.int _) (.int 13) h = _
    rw [q3_le]
    congr 2
    rw [decide_eq_decide]
    omega
  have zz : decide (w = []) = !decide (1 ≤ w.length) := by
    cases w <;> simp
  have cond : mOrT (mNotT (mTst (mChain fLe fLe (mC (.int 1)) (mCallF fLen (mCons (mVar 0) mNil)) (mC t_MOST_FIGURES)))) (mAndT (mTst (mBin fEq (mBin fIdx (mVar 0) (mC (.int 0))) (mC (.str "0")))) (mTst (mBin fNe (mVar 0) (mC (.str "0"))))) [some (.str (SX.S w)), none] h
      = .ok (!(decide (1 ≤ w.length) && decide (w.length ≤ 13)) || (decide (w.head? = some 48) && !decide (w = [48]))) h := by
    rw [s_0]
    simp -implicitDefEqProofs only [q1_orT, q1_notT, q1_andT, q1_tst, q1_chain, q1_bin, q1_callF, q1_cons, q1_nil, q1_var, q1_C, List.getElem?_cons_zero, bind_ok, ln, l1, ofO_some, asB_bl]
    cases w with
    | nil => rfl
    | cons c r =>
      have t1 : decide (1 ≤ (c :: r).length) = true := decide_eq_true (by simp)
      rw [t1]
      simp -implicitDefEqProofs only [if_true, l2, ofO_some, asB_bl, bind_ok, Bool.true_and]
      by_cases z : (c :: r).length ≤ 13
      · rw [decide_eq_true z]
        have ix : fIdx (.str (SX.S (c :: r))) (.int 0) h = some (.str (SX.S [c])) := by
          show (if (SX.S (c :: r)).length ≤ 100000 then (atI (c :: r) 0).map fun c => T.str ⟨#[c]⟩ else none) = _
          rw [SX.S_len, if_pos hw, atI_0]
          rfl
        simp -implicitDefEqProofs only [Bool.not_true, Bool.false_eq_true, if_false, ix, ofO_some, bind_ok, eqS, asB_bl, Bool.false_or]
        have hc : decide ([c] = [48]) = decide ((c :: r).head? = some 48) := by
          rw [decide_eq_decide]
          simp
        rw [hc]
        cases decide ((c :: r).head? = some 48) with
        | true =>
          simp -implicitDefEqProofs only [if_true, neSS, ofO_some, bind_ok, asB_bl, Bool.true_and]
        | false =>
          simp -implicitDefEqProofs only [Bool.false_eq_true, if_false, Bool.false_and]
      · rw [decide_eq_false z]
        simp -implicitDefEqProofs only [Bool.not_false, if_true, Bool.true_or]
  unfold b_number_in
  simp -implicitDefEqProofs only [q2_seq, q2_if, cond, bindE_ok]
  cases b : (!(decide (1 ≤ w.length) && decide (w.length ≤ 13)) || (decide (w.head? = some 48) && !decide (w = [48]))) with
  | true =>
    have none_ : numI w = none := by
      unfold numI
      rw [if_neg]
      rintro ⟨k, l⟩
      cases w with
      | nil => cases k
      | cons c r =>
        have t1 : decide (1 ≤ (c :: r).length) = true := decide_eq_true (by simp)
        rw [t1, decide_eq_true l] at b
        unfold canon at k
        rw [Bool.and_eq_true, Bool.or_eq_true, decide_eq_true_eq, decide_eq_true_eq] at k
        simp only [Bool.true_and, Bool.not_true, Bool.false_or, Bool.and_eq_true, decide_eq_true_eq, Bool.not_eq_true', decide_eq_false_iff_not] at b
        have hc : c = 48 := by
          have := b.1
          simpa using this
        rcases k.2 with z | z
        · exact z hc
        · exact b.2 (by rw [hc, z])
    simp -implicitDefEqProofs only [if_true, q2_ret, q1_C, bindE_ok, seq_rt, so_rt]
    exact ⟨si_self, .inl ⟨rfl, by rw [none_]; rfl, by simp⟩⟩
  | false =>
    simp -implicitDefEqProofs only [Bool.false_eq_true, if_false, q2_nil, seq_nx]
    rw [q2_seq, so_seq]
    have n0 : 1 ≤ w.length ∧ w.length ≤ 13 := by
      rw [Bool.or_eq_false_iff, Bool.not_eq_false', Bool.and_eq_true, decide_eq_true_eq, decide_eq_true_eq] at b
      exact b.1
    have hd : w.head? = some 48 → w = [48] := fun z => by
      rw [Bool.or_eq_false_iff] at b
      have := b.2
      rw [decide_eq_true z, Bool.true_and] at this
      exact of_decide_eq_true (by simpa using this)
    rw [sFor_of (h1 := h) (s := ⟨w.map fun c => T.str ⟨#[c]⟩, []⟩) (by simp only [q1_seqS, q1_var, List.getElem?_cons_zero, bind_ok]; rfl)]
    refine forLoop_wp _ (fun i env h' => (∀ d ∈ w.take i, dig d = true) ∧ h' = h ∧ env = [some (.str (SX.S w)), none]) ?_ ?_ ⟨by simp, rfl, by simp⟩
    · rintro i y env h' hy ⟨din, rfl, rfl⟩
      obtain ⟨d, hd2, rfl, hi⟩ := getm hy
      have tk := take_snoc hd2
      refine ⟨by simp, _, b_one, ?_⟩
      have ni : fNotIn (.str ⟨#[d]⟩) t_FIGURES h' = some (.bl (!dig d)) := by
        show some (T.bl (!decide (d ∈ (Str.ofString "0123456789").cps.toList))) = _
        rw [s_fig]
        congr 2
        show (!decide (d ∈ [48, 49, 50, 51, 52, 53, 54, 55, 56, 57])) = _
        congr 1
        rw [Bool.eq_iff_iff, decide_eq_true_eq, dig_iff]
        simp only [List.mem_cons, List.not_mem_nil, or_false]
        omega
      simp -implicitDefEqProofs only [List.set, q2_if, q1_tst, q1_bin, q1_var, q1_C, List.getElem?_cons_zero, List.getElem?_cons_succ, bind_ok, ni, ofO_some, asB_bl, bindE_ok]
      cases dd : dig d with
      | true =>
        simp -implicitDefEqProofs only [Bool.not_true, Bool.false_eq_true, if_false, q2_nil]
        refine ⟨fun z hz => ?_, rfl, rfl⟩
        rw [tk] at hz
        rcases List.mem_append.mp hz with y | y
        · exact din z y
        · rw [List.mem_singleton.mp y]
          exact dd
      | false =>
        have none_ : numI w = none := by
          unfold numI
          rw [if_neg]
          rintro ⟨k, _⟩
          have := List.all_eq_true.mp (canon_all k) d (List.mem_of_getElem? hd2)
          rw [dd] at this
          cases this
        simp -implicitDefEqProofs only [Bool.not_false, if_true, q2_ret, q1_C, bindE_ok]
        exact ⟨si_self, .inl ⟨rfl, by rw [none_]; rfl, by simp⟩⟩
    · rintro env h' ⟨din, rfl, rfl⟩
      rw [List.length_map, List.take_length] at din
      have ad : w.all dig = true := List.all_eq_true.mpr din
      have ne : w ≠ [] := fun z => by rw [z] at n0; simp at n0
      have fi := int_any (h := h') ad ne (by omega)
      have can : canon w = true := by
        cases w with
        | nil => exact absurd rfl ne
        | cons c r =>
          show ((c :: r).all dig && (decide (c ≠ 48) || decide (r = []))) = true
          rw [ad, Bool.true_and, Bool.or_eq_true, decide_eq_true_eq, decide_eq_true_eq]
          by_cases z : c = 48
          · right
            have := hd (by rw [z]; rfl)
            exact (List.cons.inj this).2
          · exact .inl z
      have some_ : numI w = some (NumText.digitsVal w) := if_pos ⟨can, n0.2⟩
      refine ⟨by simp, ?_⟩
      simp -implicitDefEqProofs only [q2_ret, q1_callF, q1_cons, q1_nil, q1_var, List.getElem?_cons_zero, bind_ok, fi, ofO_some, bindE_ok, so_rt]
      exact ⟨si_self, .inl ⟨rfl, by rw [some_]; rfl, by simp⟩⟩
theorem ltS1 {a b : Nat} : decide (([a] : List Nat) < [b]) = decide (a < b) := by
  rw [decide_eq_decide]
  constructor
  · intro z
    cases z with
    | rel q => exact q
    | cons q => cases q
  · intro z
    exact List.Lex.rel z
theorem figures_any (hw : w.length ≤ 100000) (as : ∀ c ∈ w, c < 128) : F_law_figures_v2 [.str (SX.S w)] h = .ok (oN (figL w)) h := by
  refine Out.wp_eq (fn_wp rfl ?_)
  show (b_law_figures_v2 [some (.str (SX.S w)), none] h).wp _
  have ln := lenS (h := h) hw
  have gt : fGt (.int (w.length : Int)) (.int 19) h = some (.bl (!decide (w.length ≤ 19))) := by
    rw [q3_gt, ← decide_not]
    congr 2
    rw [decide_eq_decide]
    omega
  have non : figL w = none → oN (figL w) = .non := fun z => by rw [z]; rfl
  unfold b_law_figures_v2
  rw [s_e]
  simp -implicitDefEqProofs only [q2_seq, q2_if, q1_orT, q1_tst, q1_bin, q1_callF, q1_cons, q1_nil, q1_var, q1_C, List.getElem?_cons_zero, bind_ok, eqS, ofO_some, asB_bl, ln, gt]
  by_cases z : w = []
  · rw [decide_eq_true z]
    simp -implicitDefEqProofs only [if_true, bindE_ok, q2_ret, q1_C, seq_rt, so_rt]
    exact ⟨si_self, .inl ⟨rfl, (non (by unfold figL; rw [if_neg fun y => by rw [z] at y; exact Bool.noConfusion y.1])).symm, by simp⟩⟩
  · rw [decide_eq_false z]
    simp -implicitDefEqProofs only [Bool.false_eq_true, if_false]
    by_cases l19 : w.length ≤ 19
    · rw [decide_eq_true l19]
      simp -implicitDefEqProofs only [Bool.not_true, Bool.false_eq_true, if_false]
      have c : mComp (mSeq (mVar 0)) [1] (.one 1) (mNotT (mTst (mChain fLeS fLeS (mC (.str "0")) (mVar 1) (mC (.str "9"))))) (mVar 1) [some (.str (SX.S w)), none] h = .ok ((w.filter fun c => !dig c).map fun c => T.str ⟨#[c]⟩) h := by
        refine comp_flt (g := fun c => T.str ⟨#[c]⟩) (l := w) (fun c => !dig c) (fun c => T.str ⟨#[c]⟩) (by simp only [q1_seqS, q1_var, List.getElem?_cons_zero, bind_ok]; rfl) (by omega) fun c hc => ⟨_, b_one, ?_, fun _ => by simp⟩
        have s9 : Str.ofString "9" = SX.S [57] := by decide +kernel
        have f1 : fLeS (.str (SX.S [48])) (.str ⟨#[c]⟩) h = some (.bl (decide (48 ≤ c))) := by
          show some (T.bl (!decide (([c] : List Nat) < [48]))) = _
          rw [ltS1, ← decide_not]
          congr 2
          rw [decide_eq_decide]
          omega
        have f2 : fLeS (.str ⟨#[c]⟩) (.str (SX.S [57])) h = some (.bl (decide (c ≤ 57))) := by
          show some (T.bl (!decide (([57] : List Nat) < [c]))) = _
          rw [ltS1, ← decide_not]
          congr 2
          rw [decide_eq_decide]
          omega
        rw [s_0, s9]
        simp -implicitDefEqProofs only [List.set, drop_cons, drop_nil, q1_notT, q1_tst, q1_chain, q1_C, q1_var, List.getElem?_cons_zero, List.getElem?_cons_succ, bind_ok, f1, ofO_some, asB_bl]
        unfold dig
        cases decide (48 ≤ c) with
        | true =>
          simp -implicitDefEqProofs only [if_true, f2, ofO_some, bind_ok, asB_bl, Bool.true_and]
        | false =>
          simp -implicitDefEqProofs only [Bool.false_eq_true, if_false, bind_ok, asB_bl, Bool.false_and]
      have en : fNe (.lst ((w.filter fun c => !dig c).map fun c => T.str ⟨#[c]⟩)) (.lst []) h = some (.bl (!w.all dig)) := by
        have okE : ∀ t ∈ (w.filter fun c => !dig c).map fun c => T.str ⟨#[c]⟩, okD 0 t := fun t ht => by
          obtain ⟨c, hc, rfl⟩ := List.mem_map.mp ht
          rw [okD_str]
          have hc := as c (List.mem_filter.mp hc).1
          show ([c].toArray.all fun x => decide (x < 0x110000)) = true
          simp
          omega
        have okl : okD 1 (.lst ((w.filter fun c => !dig c).map fun c => T.str ⟨#[c]⟩)) := okE
        have okn : okD 1 (.lst []) := fun t ht => nomatch ht
        rw [fNe_ok okl okn (by decide) (by decide), beq_lst_nil okE]
        congr 3
        rw [Bool.eq_iff_iff, List.isEmpty_iff, List.map_eq_nil_iff, List.filter_eq_nil_iff, List.all_eq_true]
        constructor
        · intro q x hx
          have := q x hx
          cases dx : dig x with
          | true => rfl
          | false => rw [dx] at this; exact absurd rfl this
        · intro q x hx y
          rw [q x hx] at y
          cases y
      simp -implicitDefEqProofs only [q1_frz, c, q1_lst, q1_nil, bind_ok, List.length_nil, Nat.zero_le, if_true, en, ofO_some, asB_bl, bindE_ok]
      cases ad : w.all dig with
      | false =>
        simp -implicitDefEqProofs only [Bool.not_false, if_true, q2_ret, q1_C, bindE_ok, seq_rt, so_rt]
        exact ⟨si_self, .inl ⟨rfl, (non (by unfold figL; rw [if_neg fun y => by rw [canon_all y.1] at ad; cases ad])).symm, by simp⟩⟩
      | true =>
        have v := val_lt rfl ad
        have vb : NumText.digitsVal w < 100000000000000000000 := Nat.lt_of_lt_of_le v (by
          have : 10 ^ w.length ≤ 10 ^ 19 := Nat.pow_le_pow_right (by decide) l19
          have : (10 : Nat) ^ 19 ≤ 100000000000000000000 := by decide
          omega)
        have fi := int_any (h := h) ad z (by omega)
        have fs := fStr_big (h := h) vb
        have nb : fNe (.str (numS (NumText.digitsVal w))) (.str (SX.S w)) h = some (.bl (!canon w)) := by
          show fNe (.str (SX.S (TL.numL (NumText.digitsVal w)))) (.str (SX.S w)) h = _
          rw [neSS]
          congr 3
          rw [Bool.eq_iff_iff, decide_eq_true_eq]
          exact ⟨fun q => by rw [← q]; exact canon_num, num_back⟩
        simp -implicitDefEqProofs only [Bool.not_true, Bool.false_eq_true, if_false, q2_nil, seq_nx, q2_seq, q2_if, q1_tst, q1_bin, q1_callF, q1_cons, q1_nil, q1_var, List.getElem?_cons_zero, bind_ok, fi, fs, nb, ofO_some, asB_bl, bindE_ok]
        cases cw : canon w with
        | true =>
          simp -implicitDefEqProofs only [Bool.not_true, Bool.false_eq_true, if_false, q2_nil, seq_nx, q2_ret, q1_callF, q1_cons, q1_nil, q1_var, List.getElem?_cons_zero, bind_ok, fi, ofO_some, bindE_ok, so_rt]
          exact ⟨si_self, .inl ⟨rfl, by unfold figL; rw [if_pos ⟨cw, l19⟩]; rfl, by simp⟩⟩
        | false =>
          simp -implicitDefEqProofs only [Bool.not_false, if_true, q2_ret, q1_C, bindE_ok, seq_rt, so_rt]
          exact ⟨si_self, .inl ⟨rfl, (non (by unfold figL; rw [if_neg fun y => by rw [cw] at y; exact Bool.noConfusion y.1])).symm, by simp⟩⟩
    · rw [decide_eq_false l19]
      simp -implicitDefEqProofs only [Bool.not_false, if_true, bindE_ok, q2_ret, q1_C, seq_rt, so_rt]
      exact ⟨si_self, .inl ⟨rfl, (non (by unfold figL; rw [if_neg fun y => l19 y.2])).symm, by simp⟩⟩
end
end Gd
namespace Gd
open PySem PySem.Spec PyProof.Rows L2 Sm
def spS (s : Nat) (a : List Nat) : List (List Nat) := TL.spl [s] 0 [] a
section
variable {h : Store} {a w : List Nat} {s n : Nat}
theorem spl_in : ∀ {l acc : List Nat}, ∀ p ∈ TL.spl [s] 0 acc l, p.length ≤ acc.length + l.length ∧ ∀ c ∈ p, c ∈ acc ∨ c ∈ l
  | [], acc, p, hp => by
    rw [TL.spl_nil] at hp
    rw [List.mem_singleton.mp hp]
    exact ⟨by simp, fun c hc => .inl hc⟩
  | c :: r, acc, p, hp => by
    cases q : TL.pre [s] (c :: r) with
    | true =>
      rw [TL.spl_hit q] at hp
      rcases List.mem_cons.mp hp with z | z
      · rw [z]
        exact ⟨by simp, fun c hc => .inl hc⟩
      · have := spl_in (l := r) (acc := []) p z
        exact ⟨by have := this.1; simp at this ⊢; omega, fun d hd => .inr (List.mem_cons_of_mem _ ((this.2 d hd).resolve_left (by simp)))⟩
    | false =>
      rw [TL.spl_miss q] at hp
      have := spl_in (l := r) (acc := acc ++ [c]) p hp
      refine ⟨by have := this.1; simp at this ⊢; omega, fun d hd => ?_⟩
      rcases this.2 d hd with z | z
      · rcases List.mem_append.mp z with y | y
        · exact .inl y
        · exact .inr (by rw [List.mem_singleton.mp y]; exact List.mem_cons_self ..)
      · exact .inr (List.mem_cons_of_mem _ z)
theorem spl_cnt : ∀ {l acc : List Nat}, 1 ≤ (TL.spl [s] 0 acc l).length ∧ (TL.spl [s] 0 acc l).length ≤ l.length + 1
  | [], acc => by
    rw [TL.spl_nil]
    exact ⟨by simp, by simp⟩
  | c :: r, acc => by
    cases q : TL.pre [s] (c :: r) with
    | true =>
      rw [TL.spl_hit q]
      have := spl_cnt (l := r) (acc := [])
      have e : TL.spl [s] ([s].length - 1) [] r = TL.spl [s] 0 [] r := rfl
      rw [e, List.length_cons, List.length_cons]
      omega
    | false =>
      rw [TL.spl_miss q, List.length_cons]
      have := spl_cnt (l := r) (acc := acc ++ [c])
      omega
theorem sp_in {p : List Nat} (hp : p ∈ spS s a) : p.length ≤ a.length ∧ ∀ c ∈ p, c ∈ a := by
  have := spl_in (l := a) (acc := []) p hp
  exact ⟨by simpa using this.1, fun c hc => (this.2 c hc).resolve_left (by simp)⟩
theorem sp_cnt : 1 ≤ (spS s a).length ∧ (spS s a).length ≤ a.length + 1 := spl_cnt
theorem split_any {env : Env'} {mo : M T} {z : Str} (e : mo env h = .ok (.str (SX.S a)) h) (ez : z = SX.S [s]) (s256 : s < 256) (hx : a.length ≤ 100000) : mFrz (mSplit mo (mC (.str z))) env h = .ok (.lst ((spS s a).map fun p => .str (SX.S p))) h := by
  rw [split_ev e ez (by simp) (by rw [SX.S_len]; exact hx) (SX.split_S (by simp) (by simp [s256]))]
  rw [List.map_map]
  rfl
theorem fig_num {p : List Nat} (hn : n ≤ 1000000000000) : numI p = some n ↔ figL p = some n := by
  unfold numI figL
  by_cases c : canon p = true
  · by_cases l : p.length ≤ 13
    · rw [if_pos ⟨c, l⟩, if_pos ⟨c, by omega⟩]
    · rw [if_neg fun z => l z.2]
      constructor
      · intro z
        cases z
      · intro z
        by_cases l19 : p.length ≤ 19
        · rw [if_pos ⟨c, l19⟩] at z
          exfalso
          have e := Option.some.inj z
          have b := num_back c
          rw [e] at b
          have := len_num (n := n) (by omega)
          rw [b] at this
          omega
        · rw [if_neg fun y => l19 y.2] at z
          cases z
  · rw [if_neg fun z => c z.1, if_neg fun z => c z.1]
end
end Gd
namespace Gd
open PySem PySem.Spec PyProof.Rows L2 Sm
section
variable {h : Store} {a w : List Nat} {n x y : Nat} {P : Pst} {x1 : Option T}
theorem in_non (l : List (Option Nat)) : inT .non (l.map oN) = decide (none ∈ l) := by
  unfold inT
  rw [List.any_map, Bool.eq_iff_iff, List.any_eq_true, decide_eq_true_eq]
  constructor
  · rintro ⟨o, ho, e⟩
    cases o with
    | none => exact ho
    | some n => cases e
  · intro z
    exact ⟨none, z, rfl⟩
theorem flat_oN {l : List (Option Nat)} : (l.map oN).all flatT = true := List.all_eq_true.mpr fun t ht => by
  obtain ⟨o, _, rfl⟩ := List.mem_map.mp ht
  cases o <;> rfl
end
end Gd
namespace Gd
open PySem PySem.Spec PyProof.Rows L2 Sm
section
variable {h : Store} {a t sg : List Nat} {n : Nat} {v : Int} {x : T} {Q : T → Store → Prop} {X : Ex → Store → Prop}
theorem kind1_text {e : Ex} {a d : Addr} (he : e.c = 13) : F_law_kind_of a d e [exT a d e] h = .ok (.str "text") h := kind1_eq (j := 8) (by rw [he]; rfl) (by rw [he]; rfl) rfl rfl
def Gd9 (m : Nat) (a : List Nat) : Prop := a.length ≤ m ∧ ∀ c ∈ a, c < 128
theorem spl_sum : ∀ {l acc : List Nat} {s : Nat}, ((TL.spl [s] 0 acc l).map List.length).sum + (TL.spl [s] 0 acc l).length = acc.length + l.length + 1
  | [], acc, s => by
    rw [TL.spl_nil]
    simp
  | c :: r, acc, s => by
    cases q : TL.pre [s] (c :: r) with
    | true =>
      rw [TL.spl_hit q]
      have e : TL.spl [s] ([s].length - 1) [] r = TL.spl [s] 0 [] r := rfl
      have := spl_sum (l := r) (acc := []) (s := s)
      rw [e, List.map_cons, List.sum_cons, List.length_cons, List.length_cons]
      simp at this
      omega
    | false =>
      rw [TL.spl_miss q]
      have := spl_sum (l := r) (acc := acc ++ [c]) (s := s)
      simp at this ⊢
      omega
theorem join_len2 : ∀ {l : List (List Nat)}, (TL.joinL [32] l).length ≤ (l.map List.length).sum + l.length
  | [] => Nat.zero_le _
  | [p] => by
    show p.length ≤ _
    simp
  | p :: q :: r => by
    have ih := join_len2 (l := q :: r)
    show (p ++ ([32] ++ TL.joinL [32] (q :: r))).length ≤ _
    rw [List.length_append, List.length_append, List.map_cons, List.sum_cons, List.length_cons]
    simp only [List.length_cons, List.length_nil] at ih ⊢
    omega
theorem join_in : ∀ {l : List (List Nat)} {c : Nat}, c ∈ TL.joinL [32] l → c = 32 ∨ ∃ p ∈ l, c ∈ p
  | [], c, hc => by cases hc
  | [p], c, hc => .inr ⟨p, List.mem_singleton.mpr rfl, hc⟩
  | p :: q :: r, c, hc => by
    have hc : c ∈ p ++ ([32] ++ TL.joinL [32] (q :: r)) := hc
    rcases List.mem_append.mp hc with z | z
    · exact .inr ⟨p, List.mem_cons_self .., z⟩
    · rcases List.mem_append.mp z with z | z
      · exact .inl (List.mem_singleton.mp z)
      · rcases join_in z with y | ⟨y, hy, cy⟩
        · exact .inl y
        · exact .inr ⟨y, List.mem_cons_of_mem _ hy, cy⟩
theorem join_ev {env : Env'} {me : M T} {l : List (List Nat)} (e : me env h = .ok (.lst (l.map fun p => .str (SX.S p))) h) (sm : (l.map List.length).sum + l.length ≤ 90000) : mJoin (mC (.str " ")) me env h = .ok (.str (SX.S (TL.joinL [32] l))) h := by
  unfold mJoin
  rw [s_blank]
  simp only [q1_C, bind_ok, e]
  have eb : (lstOf h (.lst (l.map fun p => T.str (SX.S p)))).bind Sm.strsOf? = some (l.map SX.S) := by
    show (some _).bind Sm.strsOf? = _
    rw [Option.bind_some, strs_map]
  rw [eb]
  show (if _ then _ else _) = _
  rw [if_pos (by
    rw [SX.lens, SX.S_len, List.length_map]
    show (l.map List.length).sum + l.length * 1 ≤ 100000
    omega), SX.join_S]
theorem slS_to {i : Nat} (hl : a.length ≤ 90000) : fSl (.str (SX.S a)) none (some (i : Int)) h = some (.str (SX.S (a.take i))) := by
  show (if (SX.S a).length ≤ 100000 then some (T.str (Txt.slice (SX.S a) none (some (i : Int)))) else none) = _
  rw [SX.S_len, if_pos (by omega), SX.slice_to (by omega), Int.toNat_natCast]
theorem slS_from {i : Nat} (hl : a.length ≤ 90000) : fSl (.str (SX.S a)) (some (i : Int)) none h = some (.str (SX.S (a.drop i))) := by
  show (if (SX.S a).length ≤ 100000 then some (T.str (Txt.slice (SX.S a) (some (i : Int)) none)) else none) = _
  rw [SX.S_len, if_pos (by omega), SX.slice_from (by omega), Int.toNat_natCast]
abbrev sT (l : List (List Nat)) : T := .lst (l.map fun p => .str (SX.S p))
theorem slL_to {i : Nat} {l : List (List Nat)} : fSl (sT l) none (some (i : Int)) h = some (sT (l.take i)) := by
  show some (T.lst (cutT _ _ _)) = _
  rw [cut_to (by omega), Int.toNat_natCast, ← List.map_take]
theorem slL_from {i : Nat} {l : List (List Nat)} : fSl (sT l) (some (i : Int)) none h = some (sT (l.drop i)) := by
  show some (T.lst (cutT _ _ _)) = _
  rw [cut_from (by omega), Int.toNat_natCast, ← List.map_drop]
theorem addL_S {l m : List (List Nat)} (c : l.length + m.length ≤ 90000) : fAdd (sT l) (sT m) h = some (sT (l ++ m)) := by
  rw [add_lst (by simp; omega), ← List.map_append]
theorem idx_S {i : Nat} {l : List (List Nat)} {p : List Nat} (e : l[i]? = some p) : fIdx (sT l) (.int (i : Int)) h = some (.str (SX.S p)) := by
  have hi := (List.getElem?_eq_some_iff.mp e).1
  rw [q3_idxL, atI_p (by omega) (by rw [List.length_map]; omega), Int.toNat_natCast, List.getElem?_map, e]
  rfl
theorem gd_app {m k : Nat} {b : List Nat} (h1 : Gd9 m a) (h2 : Gd9 k b) : Gd9 (m + k) (a ++ b) := ⟨by rw [List.length_append]; have := h1.1; have := h2.1; omega, fun c hc => (List.mem_append.mp hc).elim (h1.2 c) (h2.2 c)⟩
theorem gd_le {m k : Nat} (h1 : Gd9 m a) (l : m ≤ k) : Gd9 k a := ⟨by have := h1.1; omega, h1.2⟩
theorem gd_take {m i : Nat} (h1 : Gd9 m a) : Gd9 m (a.take i) := ⟨by rw [List.length_take]; have := h1.1; omega, fun c hc => h1.2 c (List.mem_of_mem_take hc)⟩
theorem gd_drop {m i : Nat} (h1 : Gd9 m a) : Gd9 m (a.drop i) := ⟨by rw [List.length_drop]; have := h1.1; omega, fun c hc => h1.2 c (List.mem_of_mem_drop hc)⟩
def Wd9 (m : Nat) (l : List (List Nat)) : Prop := (l.map List.length).sum + l.length ≤ m ∧ ∀ p ∈ l, ∀ c ∈ p, c < 128
theorem wd_join {m : Nat} {l : List (List Nat)} (k : Wd9 m l) : Gd9 m (TL.joinL [32] l) := ⟨Nat.le_trans join_len2 k.1, fun c hc => by
  rcases join_in hc with z | ⟨p, hp, cp⟩
  · omega
  · exact k.2 p hp c cp⟩
theorem wd_app {m k : Nat} {l r : List (List Nat)} (h1 : Wd9 m l) (h2 : Wd9 k r) : Wd9 (m + k) (l ++ r) := ⟨by rw [List.map_append, List.sum_append, List.length_append]; have := h1.1; have := h2.1; omega, fun p hp => (List.mem_append.mp hp).elim (h1.2 p) (h2.2 p)⟩
theorem sum_split {i : Nat} {l : List (List Nat)} : (l.map List.length).sum = ((l.take i).map List.length).sum + ((l.drop i).map List.length).sum := by
  rw [← List.sum_append, ← List.map_append, List.take_append_drop]
theorem wd_take {m i : Nat} {l : List (List Nat)} (k : Wd9 m l) : Wd9 m (l.take i) := ⟨by have := k.1; have := sum_split (i := i) (l := l); rw [List.length_take]; omega, fun p hp => k.2 p (List.mem_of_mem_take hp)⟩
theorem wd_drop {m i : Nat} {l : List (List Nat)} (k : Wd9 m l) : Wd9 m (l.drop i) := ⟨by have := k.1; have := sum_split (i := i) (l := l); rw [List.length_drop]; omega, fun p hp => k.2 p (List.mem_of_mem_drop hp)⟩
theorem sp_wd {m : Nat} (k : Gd9 m t) : Wd9 (m + 1) (spS 32 t) := ⟨by
  have := spl_sum (l := t) (acc := []) (s := 32)
  have := k.1
  show ((TL.spl [32] 0 [] t).map List.length).sum + (TL.spl [32] 0 [] t).length ≤ m + 1
  simp at *
  omega, fun p hp c hc => k.2 c ((sp_in hp).2 c hc)⟩
theorem take_ev {far : Nat} (hn : n < h.length) {w : Int} (w0 : 0 ≤ w) (f0 : 0 < far) (f1 : far < 1000000) : ∃ r : Nat, r < far ∧ F_law_take [.loc n, .int (far : Int)] (pst h n w) = .ok (.int (r : Int)) (pst h n (w / (far : Int))) := by
  have t1 := take_1 (h := h) (n := n) (v := w) (far := (far : Int)) hn w0 (by omega) (by omega)
  have a := Int.emod_nonneg w (show (far : Int) ≠ 0 by omega)
  have b := Int.emod_lt_of_pos w (show (0 : Int) < (far : Int) by omega)
  exact ⟨(w % (far : Int)).toNat, by omega, by rw [t1, Int.toNat_of_nonneg a]⟩
theorem bent_wp (p : potAt h n v) (g1 : Gd9 290 t) (s0 : sg ≠ []) (g2 : Gd9 20 sg) {od : List (List Nat)} (o0 : od ≠ []) (o1 : od.length ≤ 100) (g3 : ∀ o ∈ od, Gd9 100 o) (q : ∀ x w, 0 ≤ w → Gd9 900 x → Q (.str (SX.S x)) (pst h n w)) :
    (F_law_bent_text [.loc n, .str (SX.S t), .str (SX.S sg), sT od] h).wp Q X := by
  have hn := p.lt
  have l1 := g1.1
  have l2 := g2.1
  have lt_ : ∀ S, fLen [.str (SX.S t)] S = some (.int (t.length : Int)) := fun S => lenS (by omega)
  have ls : ∀ S, fLen [.str (SX.S sg)] S = some (.int (sg.length : Int)) := fun S => lenS (by omega)
  have sp0 : 0 < sg.length := List.length_pos_iff.mpr s0
  have od0 : 0 < od.length := List.length_pos_iff.mpr o0
  have a1 : ∀ S, fAdd (.int (t.length : Int)) (.int 1) S = some (.int ((t.length + 1 : Nat) : Int)) := fun S => by
    rw [q3_add]
    rfl
  obtain ⟨k, k1, e1⟩ := take_ev (far := t.length + 1) hn p.2 (by omega) (by omega)
  rw [pst_self p] at e1
  have w1 : 0 ≤ v / ((t.length + 1 : Nat) : Int) := Int.ediv_nonneg p.2 (by omega)
  generalize v / ((t.length + 1 : Nat) : Int) = w at e1 w1
  obtain ⟨i, i1, e2⟩ := take_ev (far := sg.length) (h := h) hn w1 sp0 (by omega)
  have w2 : 0 ≤ w / (sg.length : Int) := Int.ediv_nonneg w1 (by omega)
  generalize w / (sg.length : Int) = w at e2 w2
  have cn := sp_cnt (s := 32) (a := t)
  obtain ⟨j, j1, e3⟩ := take_ev (far := (spS 32 t).length) (h := h) hn w2 (by omega) (by omega)
  have w3 : 0 ≤ w / ((spS 32 t).length : Int) := Int.ediv_nonneg w2 (by omega)
  generalize w / ((spS 32 t).length : Int) = w at e3 w3
  obtain ⟨m, m1, e4⟩ := take_ev (far := od.length) (h := h) hn w3 od0 (by omega)
  have w4 : 0 ≤ w / (od.length : Int) := Int.ediv_nonneg w3 (by omega)
  generalize w / (od.length : Int) = w at e4 w4
  obtain ⟨r, r1, e5⟩ := take_ev (far := 11) (h := h) hn w4 (by omega) (by omega)
  have w5 : 0 ≤ w / ((11 : Nat) : Int) := Int.ediv_nonneg w4 (by omega)
  generalize w / ((11 : Nat) : Int) = w at e5 w5
  obtain ⟨c, hc⟩ : ∃ c, sg[i]? = some c := ⟨_, List.getElem?_eq_getElem i1⟩
  obtain ⟨o, ho⟩ : ∃ o, od[m]? = some o := ⟨_, List.getElem?_eq_getElem m1⟩
  have c128 := g2.2 c (List.mem_of_getElem? hc)
  have go := g3 o (List.mem_of_getElem? ho)
  have gc : Gd9 1 [c] := ⟨by simp, fun d hd => by rw [List.mem_singleton.mp hd]; exact c128⟩
  have gb : Gd9 1 [32] := ⟨by simp, fun d hd => by rw [List.mem_singleton.mp hd]; decide⟩
  have ww := sp_wd g1
  have wo : Wd9 101 [o] := ⟨by have := go.1; simp; omega, fun p hp => by rw [List.mem_singleton.mp hp]; exact go.2⟩
  have ix2 : ∀ S, fIdx (.str (SX.S sg)) (.int (i : Int)) S = some (.str (SX.S [c])) := fun S => by
    show (if (SX.S sg).length ≤ 100000 then (atI sg (i : Int)).map fun c => T.str ⟨#[c]⟩ else none) = _
    rw [SX.S_len, if_pos (by omega), atI_p (by omega) (by omega), Int.toNat_natCast, hc]
    rfl
  have ix4 : ∀ S, fIdx (sT od) (.int (m : Int)) S = some (.str (SX.S o)) := fun S => idx_S ho
  generalize hW : spS 32 t = W at cn j1 e3 ww
  have sp : ∀ S, mFrz (mSplit (mVar 1) (mC (.str (SX.S [32])))) [some (.loc n), some (.str (SX.S t)), some (.str (SX.S sg)), some (sT od), some (.int (k : Int)), some (.str (SX.S [c])), none, none, none, none] S = .ok (sT W) S := fun S => by
    rw [split_any (h := S) (a := t) (mo := mVar 1) (z := SX.S [32]) (s := 32) rfl rfl (by decide) (by omega), hW]
  have lw : ∀ S, fLen [sT W] S = some (.int (W.length : Int)) := fun S => by simp
  have lo : ∀ S, fLen [sT od] S = some (.int (od.length : Int)) := fun S => by simp
  have kk : ∀ S, fAdd (.int (k : Int)) (.int 1) S = some (.int ((k + 1 : Nat) : Int)) := fun S => by
    rw [q3_add]
    rfl
  have jj : ∀ S, fAdd (.int (j : Int)) (.int 1) S = some (.int ((j + 1 : Nat) : Int)) := fun S => by
    rw [q3_add]
    rfl
  have gA := gd_take (i := k) g1
  have gB := gd_drop (i := k) g1
  have gB1 := gd_drop (i := k + 1) g1
  have b1 : ∀ S, fAdd (.str (SX.S (t.take k))) (.str (SX.S [c])) S = some (.str (SX.S (t.take k ++ [c]))) := fun S => fAdd_S (by have := gA.1; simp; omega)
  have b2 : ∀ S, fAdd (.str (SX.S (t.take k ++ [c]))) (.str (SX.S (t.drop k))) S = some (.str (SX.S (t.take k ++ [c] ++ t.drop k))) := fun S => fAdd_S (by have := (gd_app gA gc).1; have := gB.1; omega)
  have b3 : ∀ S, fAdd (.str (SX.S (t.take k))) (.str (SX.S (t.drop (k + 1)))) S = some (.str (SX.S (t.take k ++ t.drop (k + 1)))) := fun S => fAdd_S (by have := gA.1; have := gB1.1; omega)
  have b4 : ∀ S, fAdd (.str (SX.S (t.take k ++ [c]))) (.str (SX.S (t.drop (k + 1)))) S = some (.str (SX.S (t.take k ++ [c] ++ t.drop (k + 1)))) := fun S => fAdd_S (by have := (gd_app gA gc).1; have := gB1.1; omega)
  have b5 : ∀ S, fAdd (.str (SX.S [32])) (.str (SX.S t)) S = some (.str (SX.S ([32] ++ t))) := fun S => fAdd_S (by simp; omega)
  have b6 : ∀ S, fAdd (.str (SX.S t)) (.str (SX.S [32])) S = some (.str (SX.S (t ++ [32]))) := fun S => fAdd_S (by simp; omega)
  have b7 : ∀ S, fAdd (.str (SX.S t)) (.str (SX.S [c])) S = some (.str (SX.S (t ++ [c]))) := fun S => fAdd_S (by simp; omega)
  have c1 : ∀ S, fSl (.str (SX.S t)) none (some (k : Int)) S = some (.str (SX.S (t.take k))) := fun S => slS_to (by omega)
  have c2 : ∀ S, fSl (.str (SX.S t)) (some (k : Int)) none S = some (.str (SX.S (t.drop k))) := fun S => slS_from (by omega)
  have c3 : ∀ S, fSl (.str (SX.S t)) (some ((k + 1 : Nat) : Int)) none S = some (.str (SX.S (t.drop (k + 1)))) := fun S => slS_from (by omega)
  have d1 : ∀ S, fSl (sT W) none (some (j : Int)) S = some (sT (W.take j)) := fun S => slL_to
  have d2 : ∀ S, fSl (sT W) (some (j : Int)) none S = some (sT (W.drop j)) := fun S => slL_from
  have d3 : ∀ S, fSl (sT W) (some ((j + 1 : Nat) : Int)) none S = some (sT (W.drop (j + 1))) := fun S => slL_from
  have d4 : ∀ S, fSl (sT W) none (some ((j + 1 : Nat) : Int)) S = some (sT (W.take (j + 1))) := fun S => slL_to
  have v1 := wd_app (wd_take (i := j) ww) (wd_drop (i := j + 1) ww)
  have v2 := wd_app (wd_take (i := j + 1) ww) (wd_drop (i := j) ww)
  have v3 := wd_app (wd_app (wd_take (i := j) ww) wo) (wd_drop (i := j + 1) ww)
  have f1 : ∀ S, fAdd (sT (W.take j)) (sT (W.drop (j + 1))) S = some (sT (W.take j ++ W.drop (j + 1))) := fun S => addL_S (by rw [List.length_take, List.length_drop]; omega)
  have f2 : ∀ S, fAdd (sT (W.take (j + 1))) (sT (W.drop j)) S = some (sT (W.take (j + 1) ++ W.drop j)) := fun S => addL_S (by rw [List.length_take, List.length_drop]; omega)
  have f3 : ∀ S, fAdd (sT (W.take j)) (.lst [.str (SX.S o)]) S = some (sT (W.take j ++ [o])) := fun S => addL_S (m := [o]) (by rw [List.length_take]; simp; omega)
  have f4 : ∀ S, fAdd (sT (W.take j ++ [o])) (sT (W.drop (j + 1))) S = some (sT (W.take j ++ [o] ++ W.drop (j + 1))) := fun S => addL_S (by rw [List.length_append, List.length_take, List.length_drop]; simp; omega)
  have i1 : ∀ {α : Type} (u v : α), (if 0 + 1 ≤ 10000 then u else v) = u := fun u v => if_pos (by decide)
  have i2 : ∀ {α : Type} (u v : α), (if 0 + 1 + 1 ≤ 10000 then u else v) = u := fun u v => if_pos (by decide)
  have i4 : ∀ {α : Type} (u v : α), (if 0 + 1 + 1 + 1 + 1 ≤ 10000 then u else v) = u := fun u v => if_pos (by decide)
  have i5 : ∀ {α : Type} (u v : α), (if 0 + 1 + 1 + 1 + 1 + 1 ≤ 10000 then u else v) = u := fun u v => if_pos (by decide)
  have j1 : ∀ S x9, mJoin (mC (.str (SX.S [32]))) (mBin fAdd (mSl (mVar 6) (mPart none) (mPart (some (mVar 7)))) (mSl (mVar 6) (mPart (some (mBin fAdd (mVar 7) (mC (.int 1))))) (mPart none))) [some (.loc n), some (.str (SX.S t)), some (.str (SX.S sg)), some (sT od), some (.int (k : Int)), some (.str (SX.S [c])), some (sT W), some (.int (j : Int)), some (.str (SX.S o)), x9] S = .ok (.str (SX.S (TL.joinL [32] (W.take j ++ W.drop (j + 1))))) S := fun S x9 => by
    rw [← s_blank]
    exact join_ev (by simp -implicitDefEqProofs only [q1_bin, q1_sl, q1_part0, q1_part1, asI, q1_var, q1_C, List.getElem?_cons_zero, List.getElem?_cons_succ, bind_ok, d1, jj, d3, f1, ofO_some]) (by have := v1.1; omega)
  have j2 : ∀ S x9, mJoin (mC (.str (SX.S [32]))) (mBin fAdd (mSl (mVar 6) (mPart none) (mPart (some (mBin fAdd (mVar 7) (mC (.int 1)))))) (mSl (mVar 6) (mPart (some (mVar 7))) (mPart none))) [some (.loc n), some (.str (SX.S t)), some (.str (SX.S sg)), some (sT od), some (.int (k : Int)), some (.str (SX.S [c])), some (sT W), some (.int (j : Int)), some (.str (SX.S o)), x9] S = .ok (.str (SX.S (TL.joinL [32] (W.take (j + 1) ++ W.drop j)))) S := fun S x9 => by
    rw [← s_blank]
    exact join_ev (by simp -implicitDefEqProofs only [q1_bin, q1_sl, q1_part0, q1_part1, asI, q1_var, q1_C, List.getElem?_cons_zero, List.getElem?_cons_succ, bind_ok, d4, jj, d2, f2, ofO_some]) (by have := v2.1; omega)
  have j3 : ∀ S x9, mJoin (mC (.str (SX.S [32]))) (mBin fAdd (mBin fAdd (mSl (mVar 6) (mPart none) (mPart (some (mVar 7)))) (mFrz (mLst (mCons (mVar 8) mNil)))) (mSl (mVar 6) (mPart (some (mBin fAdd (mVar 7) (mC (.int 1))))) (mPart none))) [some (.loc n), some (.str (SX.S t)), some (.str (SX.S sg)), some (sT od), some (.int (k : Int)), some (.str (SX.S [c])), some (sT W), some (.int (j : Int)), some (.str (SX.S o)), x9] S = .ok (.str (SX.S (TL.joinL [32] (W.take j ++ [o] ++ W.drop (j + 1))))) S := fun S x9 => by
    rw [← s_blank]
    exact join_ev (by simp -implicitDefEqProofs only [q1_bin, q1_sl, q1_part0, q1_part1, asI, q1_frz, q1_lst, q1_cons, q1_nil, q1_var, q1_C, List.getElem?_cons_zero, List.getElem?_cons_succ, bind_ok, d1, List.length_cons, List.length_nil, i1, f3, jj, d3, f4, ofO_some]) (by have := v3.1; omega)
  have g_ : ∀ y ∈ ([t, t.take k ++ [c] ++ t.drop k, t.take k ++ t.drop (k + 1), t.take k ++ [c] ++ t.drop (k + 1), o] ++ [TL.joinL [32] (W.take j ++ W.drop (j + 1)), TL.joinL [32] (W.take (j + 1) ++ W.drop j)] ++ [[32] ++ t, t ++ [32], TL.joinL [32] (W.take j ++ [o] ++ W.drop (j + 1)), t ++ [c]]), Gd9 900 y := fun y hy => by
    simp only [List.cons_append, List.nil_append, List.mem_cons, List.not_mem_nil, or_false] at hy
    rcases hy with rfl | rfl | rfl | rfl | rfl | rfl | rfl | rfl | rfl | rfl | rfl
    · exact gd_le g1 (by omega)
    · exact gd_le (gd_app (gd_app gA gc) gB) (by omega)
    · exact gd_le (gd_app gA gB1) (by omega)
    · exact gd_le (gd_app (gd_app gA gc) gB1) (by omega)
    · exact gd_le go (by omega)
    · exact gd_le (wd_join v1) (by omega)
    · exact gd_le (wd_join v2) (by omega)
    · exact gd_le (gd_app gb g1) (by omega)
    · exact gd_le (gd_app g1 gb) (by omega)
    · exact gd_le (wd_join v3) (by omega)
    · exact gd_le (gd_app g1 gc) (by omega)
  have h1 : ∀ S, fAdd (sT [t, t.take k ++ [c] ++ t.drop k, t.take k ++ t.drop (k + 1), t.take k ++ [c] ++ t.drop (k + 1), o]) (sT [TL.joinL [32] (W.take j ++ W.drop (j + 1)), TL.joinL [32] (W.take (j + 1) ++ W.drop j)]) S = some (sT ([t, t.take k ++ [c] ++ t.drop k, t.take k ++ t.drop (k + 1), t.take k ++ [c] ++ t.drop (k + 1), o] ++ [TL.joinL [32] (W.take j ++ W.drop (j + 1)), TL.joinL [32] (W.take (j + 1) ++ W.drop j)])) := fun S => addL_S (by simp)
  generalize hY : [t, t.take k ++ [c] ++ t.drop k, t.take k ++ t.drop (k + 1), t.take k ++ [c] ++ t.drop (k + 1), o] ++ [TL.joinL [32] (W.take j ++ W.drop (j + 1)), TL.joinL [32] (W.take (j + 1) ++ W.drop j)] = Y at h1 g_
  have yl : Y.length = 7 := by rw [← hY]; rfl
  have h2 : ∀ S, fAdd (sT Y) (sT [[32] ++ t, t ++ [32], TL.joinL [32] (W.take j ++ [o] ++ W.drop (j + 1)), t ++ [c]]) S = some (sT (Y ++ [[32] ++ t, t ++ [32], TL.joinL [32] (W.take j ++ [o] ++ W.drop (j + 1)), t ++ [c]])) := fun S => addL_S (by rw [yl]; simp)
  generalize hZ : Y ++ [[32] ++ t, t ++ [32], TL.joinL [32] (W.take j ++ [o] ++ W.drop (j + 1)), t ++ [c]] = Z at h2 g_
  have zl : Z.length = 11 := by rw [← hZ, List.length_append, yl]; rfl
  have lz : ∀ S, fLen [sT Z] S = some (.int ((11 : Nat) : Int)) := fun S => by simp [zl]
  obtain ⟨x, hx⟩ : ∃ x, Z[r]? = some x := ⟨_, List.getElem?_eq_getElem (by rw [zl]; exact r1)⟩
  have ixz : ∀ S, fIdx (sT Z) (.int (r : Int)) S = some (.str (SX.S x)) := fun S => idx_S hx
  simp only [sT, List.map_cons, List.map_nil] at h1 h2
  refine fn_wp rfl ?_
  show (b_law_bent_text [some (.loc n), some (.str (SX.S t)), some (.str (SX.S sg)), some (sT od), none, none, none, none, none, none] h).wp _
  unfold b_law_bent_text
  rw [s_blank]
  simp -implicitDefEqProofs only [q2_seq, q2_set, q1_call, q1_callF, q1_cons, q1_nil, q1_var, q1_C, q1_bin, List.set, List.getElem?_cons_zero, List.getElem?_cons_succ, bind_ok, lt_, a1, ofO_some, e1, bindE_ok, seq_nx, ls, e2, ix2, sp, lw, e3, lo, e4, ix4, q1_frz, q1_lst, q1_sl, q1_part0, q1_part1, asI, c1, b1, c2, b2, kk, c3, b3, b4, List.length_cons, List.length_nil, i5, i2, i4, j1, j2, h1, b5, b6, j3, b7, h2, lz, e5, ixz, q2_ret, so_rt]
  exact ⟨by simp, .inl ⟨rfl, by rw [take_pst]; exact q x w w5 (g_ x (List.mem_of_getElem? hx))⟩⟩
end
end Gd
namespace Gd
open PySem PySem.Spec PyProof.Rows L2 Sm
section
variable {h : Store} {fr : List Fr} {xs : List Int} {n m : Nat}
end
end Gd
namespace Gd
open PySem PySem.Spec PyProof.Rows L2 Sm
abbrev Tri := Int × Int × Int
def z3 : List Int → List Int → List Int → List Tri
  | x :: xs, w :: ws, a :: as => (x, w, a) :: z3 xs ws as
  | _, _, _ => []
def fitA (t : Int) (z : Tri) : Prop := z.2.1 ≤ z.1 + t * z.2.2
theorem fits_z3 {t : Int} : ∀ {xs ws as : List Int}, xs.length = as.length → (fits (goneL xs as t) ws = true ↔ ∀ z ∈ z3 xs ws as, fitA t z)
  | [], ws, [], _ => by simp [goneL, fits, z3]
  | x :: xs, [], a :: as, _ => by simp [goneL, fits, z3]
  | x :: xs, w :: ws, a :: as, h => by
    have ih := fits_z3 (t := t) (xs := xs) (ws := ws) (as := as) (by simpa using h)
    simp only [goneL, fits, z3, List.zip_cons_cons, List.map_cons, List.all_cons, Bool.and_eq_true, decide_eq_true_eq, List.forall_mem_cons] at ih ⊢
    rw [ih]
    rfl
theorem div_lt_fit {t x w a : Int} (ha : a < 0) : t < (x - w) / (0 - a) + 1 ↔ w ≤ x + t * a := by
  have e : t * (0 - a) = -(t * a) := by rw [Int.mul_sub, Int.mul_zero, Int.zero_sub]
  have := Int.le_ediv_iff_mul_le (a := t) (b := x - w) (c := 0 - a) (by omega)
  rw [e] at this
  omega
theorem div_ge_fit {t x w a : Int} (ha : 0 < a) : 0 - (x - w) / a ≤ t ↔ w ≤ x + t * a := by
  have e : (0 - t) * a = -(t * a) := by rw [Int.sub_mul, Int.zero_mul, Int.zero_sub]
  have := Int.le_ediv_iff_mul_le (a := 0 - t) (b := x - w) (c := a) ha
  rw [e] at this
  omega
def ltO (t : Int) (f : Option Int) : Prop := ∀ q, f = some q → t < q
def leO (t : Int) (f : Option Int) : Prop := ∀ q, f = some q → t ≤ q
@[simp] theorem ltO_none {t : Int} : ltO t none := fun _ h => by cases h
@[simp] theorem ltO_some {t q : Int} : ltO t (some q) ↔ t < q := ⟨fun h => h q rfl, fun h _ e => by cases e; exact h⟩
@[simp] theorem leO_none {t : Int} : leO t none := fun _ h => by cases h
@[simp] theorem leO_some {t q : Int} : leO t (some q) ↔ t ≤ q := ⟨fun h => h q rfl, fun h _ e => by cases e; exact h⟩
def minO (o : Int) : Option Int → Int
  | none => o
  | some q => if o < q then o else q
structure LastK (B : Int) (l : List Tri) (f : Option Int) : Prop where
  fit : ∀ t, ltO t f ↔ ∀ z ∈ l, z.2.2 < 0 → fitA t z
  low : ∀ q, f = some q → q ≤ B + 1
theorem LastK.nil {B : Int} : LastK B [] none := ⟨fun t => by simp, fun q h => by cases h⟩
theorem LastK.skip {B : Int} {l : List Tri} {f : Option Int} {z : Tri} (k : LastK B l f) (hz : ¬ z.2.2 < 0) : LastK B (l ++ [z]) f := ⟨fun t => by
  rw [k.fit]
  simp only [List.mem_append, List.mem_singleton]
  constructor
  · rintro h y (m | rfl) c
    · exact h y m c
    · exact absurd c hz
  · exact fun h y m c => h y (.inl m) c, k.low⟩
theorem LastK.step {B : Int} {l : List Tri} {f : Option Int} {z : Tri} (k : LastK B l f) (hz : z.2.2 < 0) (B0 : 0 ≤ B) (b : z.1 - z.2.1 ≤ B) : LastK B (l ++ [z]) (some (minO ((z.1 - z.2.1) / (0 - z.2.2) + 1) f)) := by
  have d := fun t => div_lt_fit (t := t) (x := z.1) (w := z.2.1) hz
  have lo : (z.1 - z.2.1) / (0 - z.2.2) ≤ B := by
    have z1 : B * 1 ≤ B * (0 - z.2.2) := Int.mul_le_mul_of_nonneg_left (by omega) (by omega)
    exact Int.ediv_le_of_le_mul (c := 0 - z.2.2) (by omega) (by omega)
  generalize (z.1 - z.2.1) / (0 - z.2.2) = o at d lo
  have key : ∀ t, (∀ y ∈ l ++ [z], y.2.2 < 0 → fitA t y) ↔ (ltO t f ∧ t < o + 1) := fun t => by
    rw [k.fit, d t]
    simp only [List.mem_append, List.mem_singleton]
    constructor
    · exact fun h => ⟨fun y m c => h y (.inl m) c, h z (.inr rfl) hz⟩
    · rintro ⟨h1, h2⟩ y (m | rfl) c
      · exact h1 y m c
      · exact h2
  cases f with
  | none =>
    refine ⟨fun t => ?_, fun q e => ?_⟩
    · rw [key]
      simp [minO]
    · simp only [minO, Option.some.injEq] at e
      omega
  | some q =>
    have := k.low q rfl
    refine ⟨fun t => ?_, fun r e => ?_⟩
    · rw [key]
      simp only [ltO_some, minO]
      split <;> omega
    · simp only [minO, Option.some.injEq] at e
      split at e <;> omega
structure ComeK (B : Int) (l : List Tri) (least : Int) (most : Option Int) : Prop where
  fit : ∀ t, 0 ≤ t → ((least ≤ t ∧ leO t most) ↔ ∀ z ∈ l, fitA t z)
  lo : 0 ≤ least
  hi : least ≤ B
theorem ComeK.nil {B : Int} (B0 : 0 ≤ B) : ComeK B [] 0 none := ⟨fun t ht => by simp [ht], by omega, B0⟩
theorem fit_snoc {l : List Tri} {z : Tri} {t : Int} : (∀ y ∈ l ++ [z], fitA t y) ↔ ((∀ y ∈ l, fitA t y) ∧ fitA t z) := by
  simp only [List.mem_append, List.mem_singleton]
  exact ⟨fun h => ⟨fun y m => h y (.inl m), h z (.inr rfl)⟩, fun h y m => m.elim (h.1 y) fun e => by rw [e]; exact h.2⟩
theorem ComeK.pos {B : Int} {l : List Tri} {least : Int} {most : Option Int} {z : Tri} (k : ComeK B l least most) (hz : 0 < z.2.2) (B0 : 0 ≤ B) (b : z.2.1 - z.1 ≤ B) :
    ComeK B (l ++ [z]) (if 0 - (z.1 - z.2.1) / z.2.2 > least then 0 - (z.1 - z.2.1) / z.2.2 else least) most := by
  have d := fun t => div_ge_fit (t := t) (x := z.1) (w := z.2.1) hz
  have lo : 0 - (z.1 - z.2.1) / z.2.2 ≤ B := by
    have := (Int.le_ediv_iff_mul_le (a := -B) (b := z.1 - z.2.1) (c := z.2.2) hz).mpr (by
      have : B * 1 ≤ B * z.2.2 := Int.mul_le_mul_of_nonneg_left (by omega) (by omega)
      rw [Int.neg_mul]
      omega)
    omega
  generalize 0 - (z.1 - z.2.1) / z.2.2 = o at d lo
  have := k.lo
  have := k.hi
  refine ⟨fun t ht => ?_, by split <;> omega, by split <;> omega⟩
  rw [fit_snoc, ← k.fit t ht, fitA, ← d t]
  generalize leO t most = A
  split
  · constructor
    · rintro ⟨p, q⟩
      exact ⟨⟨by omega, q⟩, p⟩
    · rintro ⟨⟨p, q⟩, r⟩
      exact ⟨r, q⟩
  · constructor
    · rintro ⟨p, q⟩
      exact ⟨⟨p, q⟩, by omega⟩
    · rintro ⟨⟨p, q⟩, r⟩
      exact ⟨p, q⟩
theorem ComeK.zero {B : Int} {l : List Tri} {least : Int} {most : Option Int} {z : Tri} (k : ComeK B l least most) (hz : z.2.2 = 0) (b : z.2.1 ≤ z.1) : ComeK B (l ++ [z]) least most := by
  refine ⟨fun t ht => ?_, k.lo, k.hi⟩
  rw [fit_snoc, ← k.fit t ht]
  have : fitA t z := by
    unfold fitA
    rw [hz, Int.mul_zero]
    omega
  exact ⟨fun q => ⟨q, this⟩, fun q => q.1⟩
def ComeR (B : Int) (l : List Tri) : Option Int → Prop
  | none => ∀ t, 0 ≤ t → ¬ ∀ z ∈ l, fitA t z
  | some q => 0 ≤ q ∧ q ≤ B ∧ (∀ z ∈ l, fitA q z) ∧ ∀ t, 0 ≤ t → t < q → ¬ ∀ z ∈ l, fitA t z
theorem ComeK.no {B : Int} {l : List Tri} {least q : Int} (k : ComeK B l least (some q)) (c : q < least) : ComeR B l none := fun t ht h => by
  have := (k.fit t ht).mpr h
  simp only [leO_some] at this
  omega
theorem ComeR.never {B : Int} {l : List Tri} {z : Tri} (m : z ∈ l) (hz : z.2.2 = 0) (b : z.1 < z.2.1) : ComeR B l none := fun t _ h => by
  have := h z m
  unfold fitA at this
  rw [hz, Int.mul_zero] at this
  omega
section
variable {h : Store} {fr : List Fr} {n k : Nat} {p p2 : Fr} {xs : List Int}
end
end Gd
namespace Gd
open PySem PySem.Spec PyProof.Rows L2 Sm
structure okB (B : Int) (z : Tri) : Prop where
  b0 : 0 ≤ B
  lo : z.1 - z.2.1 ≤ B
  hi : z.2.1 - z.1 ≤ B
  a0 : -1000 < z.2.2
  a1 : z.2.2 < 1000
section
variable {h : Store} {fr : List Fr} {n k j : Nat} {p p2 : Fr} {xs : List Int} {B : Int}
end
end Gd
namespace Gd
open PySem PySem.Spec PyProof.Rows L2 Sm
def goodA (fr : List Fr) (xs : List Int) (p : Fr) (j : Nat) (t : Int) : Prop := fits (goneL xs (addF p) t) (ex p.2) = true ∧ ∀ i q, i < j → fr[i]? = some q → fits (goneL xs (addF p) t) (ex q.2) = false
structure StrK (B : Int) (fr : List Fr) (xs : List Int) (p : Fr) (j : Nat) (f : Option Int) : Prop where
  fit : ∀ t, 0 ≤ t → ltO t f → goodA fr xs p j t
  no : ∀ q, f = some q → 0 ≤ q ∧ q ≤ B + 1 ∧ ¬ goodA fr xs p j q
section
variable {h : Store} {fr : List Fr} {n k j : Nat} {p p2 : Fr} {xs : List Int} {f g : Option Int} {B : Int}
theorem goodA_up (hp2 : fr[j]? = some p2) {t : Int} : goodA fr xs p (j + 1) t ↔ goodA fr xs p j t ∧ fits (goneL xs (addF p) t) (ex p2.2) = false := by
  constructor
  · rintro ⟨a, b⟩
    exact ⟨⟨a, fun i q hi hq => b i q (by omega) hq⟩, b j p2 (by omega) hp2⟩
  · rintro ⟨⟨a, b⟩, c⟩
    refine ⟨a, fun i q hi hq => ?_⟩
    by_cases z : i = j
    · subst z
      rw [hp2] at hq
      cases hq
      exact c
    · exact b i q (by omega) hq
theorem StrK.start (hx : xs.length = 10) (f0 : fits xs (ex p.2) = true) (kf : LastK B (z3 xs (ex p.2) (addF p)) f) : StrK B fr xs p 0 f := by
  have ff := fun t => fits_z3 (t := t) (xs := xs) (ws := ex p.2) (as := addF p) (by rw [hx, addF_len])
  have g0 : goneL xs (addF p) 0 = xs := by
    unfold goneL
    simp only [Int.zero_mul, Int.add_zero]
    exact List.map_fst_zip (by rw [hx, addF_len]; omega)
  have a0 : ∀ z ∈ z3 xs (ex p.2) (addF p), fitA 0 z := (ff 0).mp (by rw [g0]; exact f0)
  have key : ∀ t, 0 ≤ t → (goodA fr xs p 0 t ↔ ltO t f) := fun t ht => by
    rw [kf.fit]
    unfold goodA
    rw [ff]
    constructor
    · exact fun a z m _ => a.1 z m
    · refine fun a => ⟨fun z m => ?_, fun i q hi => absurd hi (by omega)⟩
      by_cases c : z.2.2 < 0
      · exact a z m c
      · have := a0 z m
        unfold fitA at this ⊢
        have : 0 ≤ t * z.2.2 := Int.mul_nonneg ht (by omega)
        omega
  refine ⟨fun t ht l => (key t ht).mpr l, fun q e => ?_⟩
  have q0 : 0 ≤ q := by
    have : ltO 0 f := (kf.fit 0).mpr fun z m _ => a0 z m
    have := this q e
    omega
  refine ⟨q0, kf.low q e, fun a => ?_⟩
  have := (key q q0).mp a q e
  omega
theorem StrK.same (hx : xs.length = 10) (s : StrK B fr xs p j f) (hp2 : fr[j]? = some p2) (r : ComeR B (z3 xs (ex p2.2) (addF p)) g) (c : ∀ q, g = some q → ∃ r, f = some r ∧ r ≤ q) : StrK B fr xs p (j + 1) f := by
  have ff := fun t => fits_z3 (t := t) (xs := xs) (ws := ex p2.2) (as := addF p) (by rw [hx, addF_len])
  refine ⟨fun t ht l => (goodA_up hp2).mpr ⟨s.fit t ht l, ?_⟩, fun q e => ⟨(s.no q e).1, (s.no q e).2.1, fun a => (s.no q e).2.2 ((goodA_up hp2).mp a).1⟩⟩
  cases e : fits (goneL xs (addF p) t) (ex p2.2) with
  | false => rfl
  | true =>
    exfalso
    have m := (ff t).mp e
    cases g with
    | none => exact r t ht m
    | some q =>
      obtain ⟨u, rfl, u1⟩ := c q rfl
      have := l u rfl
      exact r.2.2.2 t ht (by omega) m
structure StrR (B : Int) (fr : List Fr) (xs : List Int) (p : Fr) (k : Nat) (f : Option Int) : Prop where
  fit : ∀ t, 0 ≤ t → ltO t f → firstL (wantsL fr) (goneL xs (addF p) t) = some k
  no : ∀ q, f = some q → 0 ≤ q ∧ q ≤ B + 1 ∧ firstL (wantsL fr) (goneL xs (addF p) q) ≠ some k
end
end Gd
namespace Gd
open PySem PySem.Spec PyProof.Rows L2 Sm
section
variable {h : Store} {fr : List Fr} {n k j : Nat} {p p2 : Fr} {xs : List Int} {f g : Option Int} {B : Int}
end
end Gd
namespace Gd
open PySem PySem.Spec PyProof.Rows L2 Sm
section
variable {h : Store} {fr : List Fr} {n k j d m M : Nat} {p : Fr} {xs : List Int} {es : List Nat} {f : Option Int} {B : Int}
end
end Gd
namespace Gd
open PySem PySem.Spec PyProof.Rows L2 Sm
section
variable {h : Store} {fr : List Fr} {n k j d m M : Nat} {p : Fr} {xs : List Int} {es : List Nat} {t : T} {pr li ma : T}
end
end Gd
namespace Gd
open PySem PySem.Spec PyProof.Rows L2 Sm
def lnF (f : Nat → Int) : List Int := (List.range 10).map f
def lnN (e : Nat → Nat) : List Nat := (List.range 10).map e
def upd {α : Type} (f : Nat → α) (p : Nat) (v : α) : Nat → α := fun i => if i = p then v else f i
@[simp] theorem lnF_len {f : Nat → Int} : (lnF f).length = 10 := rfl
@[simp] theorem lnN_len {f : Nat → Nat} : (lnN f).length = 10 := rfl
theorem lnN_ext {f g : Nat → Nat} (k : ∀ i, i < 10 → f i = g i) : lnN f = lnN g := List.map_congr_left fun i hi => k i (List.mem_range.mp hi)
theorem set_map_range {α : Type} {f : Nat → α} {p : Nat} {v : α} (n : Nat) : ((List.range n).map f).set p v = (List.range n).map (upd f p v) := by
  apply List.ext_getElem?
  intro i
  rw [List.getElem?_set]
  simp only [List.length_map, List.length_range, List.getElem?_map, List.getElem?_range']
  by_cases hi : i < n
  · rw [List.getElem?_range hi]
    by_cases c : p = i
    · subst c
      simp [hi, upd]
    · have : ¬ i = p := fun z => c z.symm
      simp [c, upd, this]
  · have hn : (List.range n)[i]? = none := List.getElem?_eq_none (by simp; omega)
    rw [hn]
    by_cases c : p = i
    · subst c
      simp [hi]
    · simp [c]
theorem lnN_set {f : Nat → Nat} {p : Nat} {v : Nat} : (lnN f).set p v = lnN (upd f p v) := set_map_range 10
end Gd
namespace Gd
open PySem PySem.Spec PyProof.Rows L2 Sm
theorem lineB_wp {n most : Nat} {v : Int} {ps : List Nat} {Q : T → Store → Prop} {X : Ex → Store → Prop} (p : potAt h n v) (h9 : ps.length < 1000) (hp : ∀ p ∈ ps, p < 10) (hm : most ≤ 1000000)
    (q : ∀ (es : List Nat) w, 0 ≤ w → es.length = 10 → (∀ e ∈ es, e ≤ most) → Q (.tup (es.map tN)) (pst h n w)) : (F_law_line [.loc n, .tup (ps.map tN), tN most] h).wp Q X := by
  refine fn_wp rfl ?_
  show (b_law_line [some (.loc n), some (.tup (ps.map tN)), some (tN most), none, none] h).wp _
  have hn := p.lt
  have r0 : fRep (.lst [.int 0]) (.int 10) h = some ((List.replicate 10 0).map tN) := rfl
  have s0 : (sSet 3 (mCell (mNew2 fRep (mFrz (mLst (mCons (mC (.int 0)) mNil))) (mC (.int 10))))) [some (.loc n), some (.tup (ps.map tN)), some (tN most), none, none] h
      = .nx [some (.loc n), some (.tup (ps.map tN)), some (tN most), some (.loc h.length), none] (h ++ [.lst ((List.replicate 10 0).map tN)]) := by
    simp only [q2_set, q1_cell, q1_new2, q1_frz, q1_lst, q1_cons, q1_C, q1_nil, bind_ok, List.length_cons, List.length_nil, ofO_some]
    rw [if_pos (by decide)]
    simp only [bind_ok, r0, ofO_some, pus_tN, if_true, bindE_ok, List.set_cons_succ, List.set_cons_zero]
  have far : fAdd (tN most) (.int 1) = fun _ => some (.int (most + 1 : Nat)) := by funext h0; simp [tN]
  have tk : ∀ (w : Int) (l : Store), 0 ≤ w → F_law_take [.loc n, .int (most + 1 : Nat)] (pst h n w ++ l) = .ok (tN (w % (most + 1 : Nat)).toNat) (pst h n (w / (most + 1 : Nat)) ++ l) := fun w l hw => by
    rw [take_2 hn hw (by omega) (by omega)]
    have := Int.emod_nonneg w (show ((most + 1 : Nat) : Int) ≠ 0 by omega)
    rw [show tN (w % (most + 1 : Nat)).toNat = .int (w % (most + 1 : Nat)) by show T.int _ = _; congr 1; omega]
  have sm : ∀ w : Int, (w % (most + 1 : Nat)).toNat ≤ most := fun w => by
    have := Int.emod_nonneg w (show ((most + 1 : Nat) : Int) ≠ 0 by omega)
    have := Int.emod_lt_of_pos w (show (0 : Int) < ((most + 1 : Nat) : Int) by omega)
    omega
  have dv : ∀ w : Int, 0 ≤ w → 0 ≤ w / (most + 1 : Nat) := fun w hw => Int.ediv_nonneg hw (by omega)
  have put : ∀ (w : Int) (es : List Nat) (k e : Nat) (env : Env'), es.length = 10 → k < 10 → setC (pst h n w ++ [.lst (es.map tN)]) h.length (k : Int) (tN e) env = .nx env (pst h n w ++ [.lst ((es.set k e).map tN)]) := fun w es k e env hl hk => by
    rw [e_set pst_len (by omega) (by rw [List.length_map]; omega) rfl, Int.toNat_natCast, List.map_set]
  have okS : ∀ (es : List Nat) (k e : Nat), (∀ e ∈ es, e ≤ most) → e ≤ most → ∀ x ∈ es.set k e, x ≤ most := fun es k e a b x hx => by
    rcases List.mem_or_eq_of_mem_set hx with c | c
    · exact a x c
    · omega
  unfold b_law_line
  rw [q2_seq, s0, seq_nx, q2_seq, so_seq]
  rw [sFor_of (h1 := h ++ [.lst ((List.replicate 10 0).map tN)]) (s := ⟨ps.map tN, []⟩) (by simp only [q1_seqS, q1_var, List.getElem?_cons_succ, List.getElem?_cons_zero, bind_ok, asS_tup])]
  rw [show h ++ [Cell.lst ((List.replicate 10 0).map tN)] = pst h n v ++ [.lst ((List.replicate 10 0).map tN)] by rw [pst_self p]]
  refine forLoop_wp _ (fun i env h' => ∃ (w : Int) (es : List Nat), 0 ≤ w ∧ es.length = 10 ∧ (∀ e ∈ es, e ≤ most) ∧ h' = pst h n w ++ [.lst (es.map tN)] ∧ env = [some (.loc n), none, some (tN most), some (.loc h.length), none]) ?_ ?_ ⟨v, List.replicate 10 0, p.2, rfl, ?_, rfl, rfl⟩
  · rintro i x env h' hx ⟨w, es, hw, hl, he, rfl, rfl⟩
    obtain ⟨k, hk, rfl, _⟩ := getm hx
    have k9 := hp k (List.mem_of_getElem? hk)
    refine ⟨by simp, _, b_one, ?_⟩
    have t1 := tk w [.lst (es.map tN)] hw
    have p1 := put (w / (most + 1 : Nat)) es k (w % (most + 1 : Nat)).toNat
    simp only [q2_item, q1_call, q1_cons, q1_bin, q1_var, q1_C, q1_nil, List.getElem?_cons_zero, List.getElem?_cons_succ, List.set, bind_ok, far, ofO_some, t1, bindE_ok]
    show (setC _ _ (k : Int) (tN (w % (most + 1 : Nat)).toNat) _).wp _
    rw [p1 _ hl k9]
    exact ⟨_, es.set k _, dv w hw, by simpa using hl, okS _ _ _ he (sm w), rfl, by simp⟩
  · rintro env h' ⟨w, es, hw, hl, he, rfl, rfl⟩
    refine ⟨by simp, ?_⟩
    have t6 := take_2 (h := h) (l := [.lst (es.map tN)]) (n := n) (v := w) (far := 6) hn hw (by omega) (by omega)
    have w6 : 0 ≤ w / 6 := by omega
    have fin : ∀ (w : Int) (es : List Nat), 0 ≤ w → es.length = 10 → (∀ e ∈ es, e ≤ most) → (sRet (mCallF fTuple (mCons (mVar 3) mNil)) [some (.loc n), none, some (tN most), some (.loc h.length), none] (pst h n w ++ [.lst (es.map tN)])).wp (fnP h Q X) := fun w es hw hl he => by
      have := q es w hw hl he
      simp [fnP, e_tup, this]
    show ((sSeq _ _) _ _).wp _
    rw [q2_seq, q2_if]
    by_cases c : w % 6 = 0
    · have t2 := tk (w / 6) [.lst (es.map tN)] w6
      have w7 := dv _ w6
      have t10 := take_2 (h := h) (l := [.lst (es.map tN)]) (n := n) (v := w / 6 / (most + 1 : Nat)) (far := 10) hn w7 (by omega) (by omega)
      have k0 : T.int (w / 6 / (most + 1 : Nat) % 10) = tN (w / 6 / (most + 1 : Nat) % 10).toNat := by show _ = T.int _; congr 1; omega
      have k1 : (w / 6 / (most + 1 : Nat) % 10).toNat < 10 := by omega
      rw [k0] at t10
      generalize (w / 6 / (most + 1 : Nat) % 10).toNat = k at t10 k1
      have p1 := put (w / 6 / (most + 1 : Nat) / 10) es k (w / 6 % (most + 1 : Nat)).toNat [some (.loc n), none, some (tN most), some (.loc h.length), none] hl k1
      simp only [q1_tst, q1_bin, q1_call, q1_cons, q1_var, q1_C, q1_nil, List.getElem?_cons_zero, List.getElem?_cons_succ, bind_ok, t6, c]
      rw [show fEq (.int 0) (.int 0) = fun _ => some (.bl true) from rfl]
      simp only [ofO_some, bind_ok, asB_bl, bindE_ok, if_true, q2_item, q1_call, q1_cons, q1_bin, q1_var, q1_C, q1_nil, List.getElem?_cons_zero, List.getElem?_cons_succ, far, t2, t10]
      rw [show tN k = T.int (k : Int) from rfl, asLK_ok, p1, seq_nx]
      exact fin _ _ (by omega) (by simpa using hl) (okS _ _ _ he (sm _))
    · simp only [q1_tst, q1_bin, q1_call, q1_cons, q1_var, q1_C, q1_nil, List.getElem?_cons_zero, List.getElem?_cons_succ, bind_ok, t6]
      rw [show fEq (.int (w % 6)) (.int 0) = fun _ => some (.bl (decide (w % 6 = 0))) from by funext h0; simp]
      simp only [ofO_some, bind_ok, asB_bl, bindE_ok, c, decide_false, Bool.false_eq_true, if_false, q2_nil, seq_nx]
      exact fin _ _ w6 hl he
  · intro e he
    have := (List.mem_replicate.mp he).2
    omega
def pl (e : Nat → Nat) : List Nat := (List.range 10).filter fun i => decide (0 < e i)
def qw (e : Nat → Nat) (i : Nat) : List Nat := TL.numL (PR.getD i 0) ++ ([94] ++ TL.numL (e i))
def jn (e : Nat → Nat) (l : List Nat) : List Nat := TL.joinL [42] (l.map (qw e))
def lineS (e : Nat → Nat) : Str := if pl e = [] then SX.S [49] else SX.S (jn e (pl e))
section
variable {h : Store} {e : Nat → Nat} {i : Nat} {l : List Nat}
def sm13 (e : Nat → Nat) : Prop := ∀ i, i < 10 → e i < 10000000000000
theorem pr_lt : ∀ i, i < 10 → PR.getD i 0 < 10000000000000 ∧ 0 < PR.getD i 0 := by decide
theorem qw_len (k : sm13 e) (hi : i < 10) : (qw e i).length ≤ 27 := by
  have a := len_num (pr_lt i hi).1
  have b := len_num (k i hi)
  unfold qw
  simp only [List.length_append, List.length_cons, List.length_nil]
  omega
theorem qw_ne : qw e i ≠ [] := fun z => by
  have := congrArg List.length z
  unfold qw at this
  simp at this
theorem pl_mem (hi : i ∈ pl e) : i < 10 ∧ 0 < e i := by
  have := List.mem_filter.mp hi
  exact ⟨List.mem_range.mp this.1, of_decide_eq_true this.2⟩
theorem pl_len : (pl e).length ≤ 10 := List.length_filter_le ..
theorem zw_e : List.zipWith pairT (PR.map tN) ((lnN e).map tN) = (List.range 10).map fun i => T.tup [tN (PR.getD i 0), tN (e i)] := rfl
theorem jn_len (k : sm13 e) (hl : ∀ i ∈ l, i < 10) : (jn e l).length ≤ l.length * 28 := by
  have := joinL_len (s := [42]) (k := 27) (ps := l.map (qw e)) fun z hz => by
    obtain ⟨i, hi, rfl⟩ := List.mem_map.mp hz
    exact qw_len k (hl i hi)
  rw [List.length_map] at this
  exact this
theorem joinL_snoc {s p : List Nat} : ∀ {ps : List (List Nat)}, ps ≠ [] → TL.joinL s (ps ++ [p]) = TL.joinL s ps ++ (s ++ p)
  | [], z => absurd rfl z
  | [a], _ => rfl
  | a :: b :: r, _ => by
    show a ++ (s ++ TL.joinL s ((b :: r) ++ [p])) = (a ++ (s ++ TL.joinL s (b :: r))) ++ (s ++ p)
    rw [joinL_snoc (by simp)]
    simp only [List.append_assoc]
theorem jn_nil : jn e l = [] ↔ l = [] := by
  constructor
  · intro z
    cases l with
    | nil => rfl
    | cons a r =>
      exfalso
      unfold jn at z
      cases r with
      | nil => exact qw_ne z
      | cons b r =>
        have : qw e a ++ _ = [] := z
        exact qw_ne (List.append_eq_nil_iff.mp this).1
  · intro z
    rw [z]
    rfl
theorem S_nil {x : List Nat} : decide (SX.S x = SX.S []) = decide (x = []) := by
  rw [decide_eq_decide]
  exact ⟨SX.S_inj, fun z => by rw [z]⟩
theorem qw_asc : ∀ c ∈ qw e i, c < 128 := fun c hc => by
  unfold qw at hc
  simp only [List.mem_append, List.mem_cons, List.not_mem_nil, or_false] at hc
  rcases hc with z | rfl | z
  · have := TL.numL_digits _ c z
    omega
  · decide
  · have := TL.numL_digits _ c z
    omega
theorem qw_free {s : Nat} (hs : s < 48) : s ∉ qw e i := fun hc => by
  unfold qw at hc
  simp only [List.mem_append, List.mem_cons, List.not_mem_nil, or_false] at hc
  rcases hc with z | rfl | z
  · exact TL.numL_free (.inl hs) z
  · omega
  · exact TL.numL_free (.inl hs) z
def plN_ (e : Nat → Nat) (i : Nat) : List Nat := (List.range i).filter fun i => decide (0 < e i)
theorem plN_up : plN_ e (i + 1) = plN_ e i ++ (if 0 < e i then [i] else []) := by
  unfold plN_
  rw [List.range_succ, List.filter_append]
  by_cases c : 0 < e i
  · rw [if_pos c]
    simp [c]
  · rw [if_neg c]
    simp [c]
theorem plN_lt : ∀ j ∈ plN_ e i, j < i := fun j hj => List.mem_range.mp (List.mem_filter.mp hj).1
theorem plN_len : (plN_ e i).length ≤ i := by
  have := List.length_filter_le (fun i => decide (0 < e i)) (List.range i)
  rwa [List.length_range] at this
theorem line_text_eq (k : sm13 e) : F_law_line_text_v2 [.tup ((lnN e).map tN)] h = .ok (.str (lineS e)) h := by
  refine Out.wp_eq (fn_wp rfl ?_)
  show (b_law_line_text_v2 [some (.tup ((lnN e).map tN)), none, none, none] h).wp _
  unfold b_law_line_text_v2
  rw [s_e, s_1, s_star, s_hat]
  simp -implicitDefEqProofs only [q2_seq, q2_set, q1_C, bindE_ok, seq_nx, List.set, so_seq]
  have src : ∀ x1, mZip (mCons (mCall F_law_primes mNil) (mCons (mVar 0) mNil)) [some (.tup ((lnN e).map tN)), x1, none, none] h = .ok ⟨(List.range 10).map fun i => T.tup [tN (PR.getD i 0), tN (e i)], []⟩ h := fun x1 => by
    rw [src_zipT (h1 := h) (xs := PR.map tN) (ys := (lnN e).map tN) (by simp -implicitDefEqProofs only [q1_cons, q1_call, primes_eq, q1_var, q1_nil, List.getElem?_cons_zero, bind_ok]), zw_e]
  rw [sFor_of (src _)]
  refine forLoop_wp _ (fun i env h' => i ≤ 10 ∧ h' = h ∧ env = [none, some (.str (SX.S (jn e (plN_ e i)))), none, none]) ?_ ?_ ⟨by omega, rfl, by simp; rfl⟩
  · rintro i y env h' hy ⟨i10, rfl, rfl⟩
    obtain ⟨i, hj, rfl, hi⟩ := getm hy
    rw [List.length_range] at hi
    rw [List.getElem?_range hi] at hj
    cases hj
    refine ⟨by simp, _, b_tup, ?_⟩
    have gt : fGt (tN (e i)) (.int 0) h' = some (.bl (decide (0 < e i))) := by
      show fGt (.int _) (.int 0) h' = _
      rw [q3_gt]
      congr 2
      rw [decide_eq_decide]
      omega
    have st : setT [3, 2] [tN (PR.getD i 0), tN (e i)] [none, some (.str (SX.S (jn e (plN_ e i)))), none, none] = [none, some (.str (SX.S (jn e (plN_ e i)))), some (tN (e i)), some (tN (PR.getD i 0))] := rfl
    rw [st]
    simp -implicitDefEqProofs only [q2_if, q1_tst, q1_bin, q1_var, q1_C, List.getElem?_cons_zero, List.getElem?_cons_succ, bind_ok, gt, ofO_some, asB_bl, bindE_ok]
    by_cases c : 0 < e i
    · rw [decide_eq_true c]
      have up := plN_up (e := e) (i := i)
      rw [if_pos c] at up
      have jl := jn_len (l := plN_ e i) k (fun j hj => by have := plN_lt j hj; omega)
      have pl1 := plN_len (e := e) (i := i)
      have l1 := len_num (pr_lt i hi).1
      have l2 := len_num (k i hi)
      have f1 := fStr_n (h := h') (pr_lt i hi).1
      have f2 := fStr_n (h := h') (k i hi)
      have ne : fNe (.str (SX.S (jn e (plN_ e i)))) (.str (SX.S [])) h' = some (.bl (!decide (plN_ e i = []))) := by
        show some (T.bl (!decide (SX.S _ = SX.S []))) = _
        rw [S_nil]
        congr 3
        rw [decide_eq_decide]
        exact jn_nil
      have fi : fInt [.bl (!decide (plN_ e i = []))] h' = some (.int (if plN_ e i = [] then 0 else 1)) := by
        show some (T.int (if (!decide (plN_ e i = [])) = true then 1 else 0)) = _
        by_cases z : plN_ e i = [] <;> simp [z]
      have ms : fMulS (.str (SX.S [42])) (.int (if plN_ e i = [] then 0 else 1)) h' = some (.str (SX.S (if plN_ e i = [] then [] else [42]))) := by
        by_cases z : plN_ e i = []
        · rw [if_pos z, if_pos z]
          rfl
        · rw [if_neg z, if_neg z]
          rfl
      have a1 : fAdd (.str (SX.S (jn e (plN_ e i)))) (.str (SX.S (if plN_ e i = [] then [] else [42]))) h' = some (.str (SX.S (jn e (plN_ e i) ++ (if plN_ e i = [] then [] else [42])))) := fAdd_S (by
        have : (if plN_ e i = [] then ([] : List Nat) else [42]).length ≤ 1 := by split <;> simp
        omega)
      have il : (jn e (plN_ e i) ++ (if plN_ e i = [] then ([] : List Nat) else [42])).length ≤ 281 := by
        have : (if plN_ e i = [] then ([] : List Nat) else [42]).length ≤ 1 := by split <;> simp
        rw [List.length_append]
        omega
      generalize hJ : jn e (plN_ e i) ++ (if plN_ e i = [] then ([] : List Nat) else [42]) = J at a1 il
      have a2 : fAdd (.str (SX.S J)) (.str (numS (PR.getD i 0))) h' = some (.str (SX.S (J ++ TL.numL (PR.getD i 0)))) := fAdd_S (by omega)
      have a3 : fAdd (.str (SX.S (J ++ TL.numL (PR.getD i 0)))) (.str (SX.S [94])) h' = some (.str (SX.S (J ++ TL.numL (PR.getD i 0) ++ [94]))) := fAdd_S (by simp only [List.length_append, List.length_cons, List.length_nil]; omega)
      have a4 : fAdd (.str (SX.S (J ++ TL.numL (PR.getD i 0) ++ [94]))) (.str (numS (e i))) h' = some (.str (SX.S (J ++ TL.numL (PR.getD i 0) ++ [94] ++ TL.numL (e i)))) := fAdd_S (by simp only [List.length_append, List.length_cons, List.length_nil]; omega)
      have fin : J ++ TL.numL (PR.getD i 0) ++ [94] ++ TL.numL (e i) = jn e (plN_ e (i + 1)) := by
        rw [up, ← hJ]
        unfold jn
        rw [List.map_append]
        by_cases z : plN_ e i = []
        · rw [z]
          simp only [if_true, List.map_nil, List.nil_append]
          show TL.joinL [42] [] ++ [] ++ _ ++ _ ++ _ = qw e i
          unfold qw
          simp only [TL.joinL, List.nil_append, List.append_assoc]
        · rw [if_neg z, List.map_cons, List.map_nil, joinL_snoc (fun y => z (List.map_eq_nil_iff.mp y))]
          unfold qw
          simp only [List.append_assoc]
      rw [fin] at a4
      simp -implicitDefEqProofs only [if_true, q2_set, q1_bin, q1_callF, q1_cons, q1_nil, q1_var, q1_C, List.getElem?_cons_zero, List.getElem?_cons_succ, bind_ok, ne, ofO_some, fi, ms, a1, f1, a2, a3, f2, a4, bindE_ok, List.set]
      exact ⟨by omega, rfl, rfl⟩
    · rw [decide_eq_false c]
      have up := plN_up (e := e) (i := i)
      rw [if_neg c, List.append_nil] at up
      simp -implicitDefEqProofs only [Bool.false_eq_true, if_false, q2_nil]
      exact ⟨by omega, rfl, by rw [up]; rfl⟩
  · rintro env h' ⟨i10, rfl, rfl⟩
    rw [List.length_map, List.length_range]
    have eq : fEq (.str (SX.S (jn e (plN_ e 10)))) (.str (SX.S [])) h' = some (.bl (decide (pl e = []))) := by
      rw [q3_eqS, S_nil]
      congr 2
      rw [decide_eq_decide]
      exact jn_nil
    refine ⟨by simp, ?_⟩
    simp -implicitDefEqProofs only [q2_seq, q2_if, q1_tst, q1_bin, q1_var, q1_C, List.getElem?_cons_zero, List.getElem?_cons_succ, bind_ok, eq, ofO_some, asB_bl, bindE_ok]
    by_cases z : pl e = []
    · rw [decide_eq_true z]
      simp -implicitDefEqProofs only [if_true, q2_ret, q1_C, bindE_ok, seq_rt]
      exact ⟨si_self, .inl ⟨rfl, by unfold lineS; rw [if_pos z], by simp⟩⟩
    · rw [decide_eq_false z]
      simp -implicitDefEqProofs only [Bool.false_eq_true, if_false, q2_nil, seq_nx, q2_ret, q1_var, List.getElem?_cons_zero, List.getElem?_cons_succ, bindE_ok]
      exact ⟨si_self, .inl ⟨rfl, by unfold lineS; rw [if_neg z]; rfl, by simp⟩⟩
end
end Gd
namespace Gd
open PySem PySem.Spec PyProof.Rows L2 Sm
section
variable {h : Store} {e : Nat → Nat} {i : Nat} {l : List Nat}
def mil (e : Nat → Nat) : Prop := ∀ i, i < 10 → e i ≤ 1000000
theorem mil.sm (k : mil e) : sm13 e := fun i hi => by
  have := k i hi
  omega
theorem split_part : Txt.split (SX.S (qw e i)) (SX.S [94]) = [numS (PR.getD i 0), numS (e i)] := by
  have q : SX.S (qw e i) = Txt.join (SX.S [94]) [numS (PR.getD i 0), numS (e i)] := (SX.join_S [94] [TL.numL (PR.getD i 0), TL.numL (e i)]).symm
  rw [q]
  refine TL.split_join (s := 94) (S := []) rfl (SX.all256 (by decide)) (by simp) fun z hz => ?_
  simp only [List.mem_cons, List.not_mem_nil, or_false] at hz
  rcases hz with rfl | rfl <;> exact TL.numL_free (.inr (by decide))
theorem pr_idx : ∀ i, i < 10 → ((PR.getD i 0 : Nat) : Int) ∈ ([2, 3, 5, 7, 11, 13, 17, 19, 23, 29] : List Int) ∧ ([2, 3, 5, 7, 11, 13, 17, 19, 23, 29] : List Int).idxOf ((PR.getD i 0 : Nat) : Int) = i := by decide
theorem part_in_eq (k : mil e) (hi : i < 10) (h0 : 0 < e i) : F_part_in [.str (SX.S (qw e i))] h = .ok (.tup [tN i, tN (e i)]) h := by
  have ki := k i hi
  have ks := k.sm
  have pp := pr_lt i hi
  have n1 := number_in_eq (h := h) pp.1
  have n2 := number_in_eq (h := h) (ks i hi)
  have ql := qw_len (e := e) ks hi
  have sp := split_ev (h := h) (env := [some (.str (SX.S (qw e i))), none, none]) (mo := mVar 0) (x := SX.S (qw e i)) (y := [94]) (z := Str.ofString "^") rfl s_hat (by simp) (by rw [SX.S_len]; omega) split_part
  have c : mComp (mSeq (mFrz (mSplit (mVar 0) (mC (.str "^"))))) [2] (.one 2) mYes (mCall F_number_in (mCons (mVar 2) mNil)) [some (.str (SX.S (qw e i))), none, none] h = .ok ([PR.getD i 0, e i].map tN) h := by
    refine comp_map (h1 := h) (g := fun n => T.str (numS n)) (l := [PR.getD i 0, e i]) tN ?_ (by show 2 ≤ 1000; omega) fun n hn => ⟨_, b_one, ?_⟩
    · rw [q1_seqS, sp, bind_ok]
      rfl
    · simp -implicitDefEqProofs only [List.set, drop_cons, drop_nil, q1_call, q1_cons, q1_nil, q1_var, List.getElem?_cons_zero, List.getElem?_cons_succ, bind_ok]
      simp only [List.mem_cons, List.not_mem_nil, or_false] at hn
      rcases hn with rfl | rfl
      · exact n1
      · exact n2
  have pi := pr_idx i hi
  generalize hP : PR.getD i 0 = P at c pi pp
  have ln : fLen [.lst ([P, e i].map tN)] h = some (.int 2) := by simp
  have ne : fNe (.int 2) (.int 2) h = some (.bl false) := by simp
  have i0 : fIdx (.lst ([P, e i].map tN)) (.int 0) h = some (tN P) := by rw [q3_idxL]; rfl
  have i1 : fIdx (.lst ([P, e i].map tN)) (.int 1) h = some (tN (e i)) := by rw [q3_idxL]; rfl
  have ni : fNotIn (tN P) t_PRIMES h = some (.bl false) := by
    have e1 : t_PRIMES = .tup (PR.map tN) := rfl
    have flat : (PR.map tN).all flatT = true := rfl
    rw [e1]
    show (if flatT (tN P) = true ∧ (PR.map tN).all flatT = true then some (T.bl (!inT (tN P) (PR.map tN))) else (inG (tN P) (.tup (PR.map tN)) h).map fun c => .bl (!c)) = _
    rw [if_pos ⟨rfl, flat⟩, elem_nat]
    have : P ∈ PR := by
      rw [← hP]
      have : ∀ i, i < 10 → PR.getD i 0 ∈ PR := by decide
      exact this i hi
    rw [decide_eq_true this]
    rfl
  have isn : fIs (tN (e i)) .non h = some (.bl false) := rfl
  have l1 : fLe (.int 1) (tN (e i)) h = some (.bl true) := by
    show fLe (.int 1) (.int _) h = _
    rw [q3_le, decide_eq_true (by omega)]
  have l2 : fLe (tN (e i)) t_GREATEST h = some (.bl true) := by
    show fLe (.int _) (.int 1000000) h = _
    rw [q3_le, decide_eq_true (by omega)]
  have ix : ∀ {env : Env'} {me : M T}, me env h = .ok (tN P) h → mIxF (mC t_PRIMES_d) me env h = .ok (tN i) h := fun {env me} em => by
    have ixf : ixF t_PRIMES_d (tN P) = some (tN i) := by
      show (Sm.intsOf? (([2, 3, 5, 7, 11, 13, 17, 19, 23, 29] : List Int).map T.int)).bind (fun ns => if (P : Int) ∈ ns then some (T.int (ns.idxOf (P : Int) : Nat)) else none) = _
      rw [Sm.ints_map]
      simp only [Option.bind_some]
      rw [if_pos pi.1, pi.2]
      rfl
    unfold mIxF
    simp only [q1_C, bind_ok]
    show (me env h).bind (fun b h2 => Out.ofO (ixF t_PRIMES_d b) h2) = _
    rw [em, bind_ok, ixf]
    rfl
  have i2 : ∀ {α : Type} (u v : α), (if 0 + 1 + 1 ≤ 10000 then u else v) = u := fun u v => if_pos (by decide)
  refine Out.wp_eq (fn_wp rfl ?_)
  show (b_part_in [some (.str (SX.S (qw e i))), none, none] h).wp _
  unfold b_part_in
  generalize hL : T.lst ([P, e i].map tN) = L at ln i0 i1
  have ix2 := ix (env := [some (.str (SX.S (qw e i))), some L, none]) (me := mBin fIdx (mVar 1) (mC (.int 0))) (by
    simp -implicitDefEqProofs only [q1_bin, q1_var, q1_C, List.getElem?_cons_succ, List.getElem?_cons_zero, bind_ok, i0, ofO_some])
  simp -implicitDefEqProofs only [q2_seq, q2_set, q1_frz, c, bind_ok, bindE_ok, seq_nx, List.set, hL]
  have ret : sRet (mTup (mCons (mIxF (mC t_PRIMES_d) (mBin fIdx (mVar 1) (mC (.int 0)))) (mCons (mBin fIdx (mVar 1) (mC (.int 1))) mNil))) [some (.str (SX.S (qw e i))), some L, none] h = .rt (.tup [tN i, tN (e i)]) h := by
    rw [q2_ret, q1_tup, q1_cons, ix2, bind_ok]
    simp -implicitDefEqProofs only [q1_cons, q1_nil, q1_bin, q1_var, q1_C, List.getElem?_cons_succ, List.getElem?_cons_zero, bind_ok, i1, ofO_some, List.length_cons, List.length_nil, i2, bindE_ok]
  simp -implicitDefEqProofs only [q2_if, q1_orT, q1_notT, q1_tst, q1_chain, q1_bin, q1_callF, q1_cons, q1_nil, q1_var, q1_C, List.getElem?_cons_succ, List.getElem?_cons_zero, bind_ok, ln, ne, ofO_some, asB_bl, Bool.false_eq_true, if_false, i0, ni, i1, isn, l1, l2, if_true, Bool.not_true, bindE_ok, q2_nil, seq_nx]
  rw [ret]
  exact ⟨si_self, .inl ⟨rfl, rfl, by simp⟩⟩
theorem jn_hat (hl : l ≠ []) : 94 ∈ jn e l := by
  cases l with
  | nil => exact absurd rfl hl
  | cons a r =>
    have q : 94 ∈ qw e a := by
      unfold qw
      simp
    unfold jn
    cases r with
    | nil => exact q
    | cons b r => exact List.mem_append_left _ q
theorem split_line (hl : pl e ≠ []) : Txt.split (SX.S (jn e (pl e))) (SX.S [42]) = (pl e).map fun i => SX.S (qw e i) := by
  have q : SX.S (jn e (pl e)) = Txt.join (SX.S [42]) ((pl e).map fun i => SX.S (qw e i)) := by
    have := SX.join_S [42] ((pl e).map (qw e))
    rw [List.map_map] at this
    exact this.symm
  rw [q]
  refine TL.split_join (s := 42) (S := []) rfl (SX.all256 (by decide)) (fun z => hl (List.map_eq_nil_iff.mp z)) fun z hz => ?_
  obtain ⟨i, _, rfl⟩ := List.mem_map.mp hz
  exact qw_free (by decide)
theorem pl_up : (pl e).Pairwise (· < ·) := List.Pairwise.filter _ (List.pairwise_lt_range)
theorem read_pow (k : mil e) : F_powers_read [.str (lineS e)] h = .ok (.tup ((lnN e).map tN)) h := by
  have ks := k.sm
  refine Out.wp_eq (fn_wp rfl ?_)
  show (b_powers_read [some (.str (lineS e)), none, none, none, none] h).wp _
  have isi : fIsi "str" (.str (lineS e)) h = some (.bl true) := rfl
  have ln : fLen [t_PRIMES] h = some (.int 10) := rfl
  have r0 : fRep (.lst [.int 0]) (.int 10) h = some ((lnN fun _ => 0).map tN) := rfl
  have i1 : ∀ {α : Type} (u v : α), (if 0 + 1 ≤ 10000 then u else v) = u := fun u v => if_pos (by decide)
  have pz : pus ((lnN fun _ => 0).map tN) = true := rfl
  have eq : ∀ S, fEq (.str (lineS e)) (.str (Str.ofString "1")) S = some (.bl (decide (pl e = []))) := fun S => by
    rw [q3_eqS, s_1]
    congr 2
    rw [decide_eq_decide]
    unfold lineS
    by_cases z : pl e = []
    · rw [if_pos z]
      exact ⟨fun _ => z, fun _ => rfl⟩
    · rw [if_neg z]
      refine ⟨fun y => ?_, fun y => absurd y z⟩
      have m := jn_hat (e := e) z
      rw [SX.S_inj y] at m
      simp at m
  unfold b_powers_read
  simp -implicitDefEqProofs only [q2_seq, q2_if, q2_set, q1_notT, q1_tru, q1_un, q1_var, q1_cell, q1_new2, q1_frz, q1_lst, q1_callF, q1_cons, q1_nil, q1_C, List.set, List.getElem?_cons_zero, List.getElem?_cons_succ, bind_ok, isi, ofO_some, truF_bl, Bool.not_true, bindE_ok, Bool.false_eq_true, if_false, q2_nil, seq_nx, List.length_cons, List.length_nil, i1, ln, r0, pz, if_true, q1_tst, q1_bin, eq, asB_bl]
  by_cases z : pl e = []
  · rw [decide_eq_true z]
    have e0 : (lnN fun _ => 0) = lnN e := lnN_ext fun i hi => by
      apply Classical.byContradiction
      intro c
      have : i ∈ pl e := List.mem_filter.mpr ⟨List.mem_range.mpr hi, decide_eq_true (by omega)⟩
      rw [z] at this
      cases this
    have fin : ∀ x0, sRet (mCallF fTuple (mCons (mVar 1) mNil)) [x0, some (.loc h.length), none, none, none] (h ++ [.lst ((lnN fun _ => 0).map tN)]) = .rt (.tup ((lnN fun _ => 0).map tN)) (h ++ [.lst ((lnN fun _ => 0).map tN)]) := fun x0 => by
      simp -implicitDefEqProofs only [q2_ret, q1_callF, q1_cons, q1_nil, q1_var, List.getElem?_cons_zero, List.getElem?_cons_succ, bind_ok, e_tup, ofO_some, bindE_ok]
    simp -implicitDefEqProofs only [if_true, q1_callF, q1_cons, q1_nil, q2_ret, q1_var, List.getElem?_cons_zero, List.getElem?_cons_succ, bind_ok, e_tup, ofO_some, bindE_ok, seq_rt, so_rt]
    exact ⟨si_more, .inl ⟨by rw [pu_tup]; exact pz, by rw [e0], by simp⟩⟩
  · rw [decide_eq_false z]
    have ng : ∀ S, fNeg (.int 1) S = some (.int (-1)) := fun S => rfl
    simp -implicitDefEqProofs only [Bool.false_eq_true, if_false, q2_nil, seq_nx, q2_seq, q2_set, q1_un, q1_C, bind_ok, ng, ofO_some, bindE_ok, List.set, so_seq]
    have lS : lineS e = SX.S (jn e (pl e)) := by
      unfold lineS
      rw [if_neg z]
    have jl := jn_len (l := pl e) ks fun i hi => (pl_mem hi).1
    have pl10 := pl_len (e := e)
    have sp := split_ev (h := h ++ [.lst ((lnN fun _ => 0).map tN)]) (env := [some (.str (lineS e)), some (.loc h.length), some (.int (-1)), none, none]) (mo := mVar 0) (x := lineS e) (y := [42]) (z := Str.ofString "*") (ws := (pl e).map fun i => SX.S (qw e i)) rfl s_star (by simp) (by rw [lS, SX.S_len]; omega) (by rw [lS]; exact split_line z)
    rw [sFor_of (h1 := h ++ [.lst ((lnN fun _ => 0).map tN)]) (s := ⟨(pl e).map fun i => T.str (SX.S (qw e i)), []⟩) (by
      rw [q1_seqS, sp, bind_ok, List.map_map]
      rfl)]
    refine forLoop_wp _ (fun j env h' => ∃ L : Int, (∀ i ∈ (pl e).drop j, L < (i : Int)) ∧ h' = h ++ [.lst ((lnN fun x => if x ∈ (pl e).take j then e x else 0).map tN)] ∧ env = [none, some (.loc h.length), some (.int L), none, none]) ?_ ?_ ⟨-1, fun i _ => by omega, by simp, by simp⟩
    · rintro j y env h' hy ⟨L, hL, rfl, rfl⟩
      obtain ⟨i, hi, rfl, hj⟩ := getm hy
      have im := pl_mem (List.mem_of_getElem? hi)
      have tk := take_snoc hi
      have dr : (pl e).drop j = i :: (pl e).drop (j + 1) := by rw [List.drop_eq_getElem_cons hj, (List.getElem?_eq_some_iff.mp hi).2]
      have Li := hL i (by rw [dr]; exact List.mem_cons_self ..)
      have up : ∀ y ∈ (pl e).drop (j + 1), (i : Int) < (y : Int) := fun y hy => by
        have := (pl_up (e := e)).sublist (List.drop_sublist j _)
        rw [dr] at this
        have := (List.pairwise_cons.mp this).1 y hy
        omega
      have pi := part_in_eq (h := h ++ [.lst ((lnN fun x => if x ∈ (pl e).take j then e x else 0).map tN)]) k im.1 im.2
      refine ⟨by simp, _, b_one, ?_⟩
      have isn : ∀ S, fIs (.tup [tN i, tN (e i)]) .non S = some (.bl false) := fun S => rfl
      have t0 : ∀ S, fIdx (.tup [tN i, tN (e i)]) (.int 0) S = some (tN i) := fun S => by rw [q3_idx]; rfl
      have t1 : ∀ S, fIdx (.tup [tN i, tN (e i)]) (.int 1) S = some (tN (e i)) := fun S => by rw [q3_idx]; rfl
      have le : ∀ S, fLe (tN i) (.int L) S = some (.bl false) := fun S => by
        show fLe (.int _) (.int L) S = _
        rw [q3_le, decide_eq_false (by omega)]
      have ln10 : ∀ g : Nat → Nat, ((lnN g).map tN).length = 10 := fun g => by simp
      have sc := fun env => e_set (env := env) (h := h) (m := h.length) (xs := (lnN fun x => if x ∈ (pl e).take j then e x else 0).map tN) (k := (i : Int)) (y := tN (e i)) rfl (by omega) (by rw [ln10]; omega) rfl
      have es : ((lnN fun x => if x ∈ (pl e).take j then e x else 0).map tN).set i (tN (e i)) = (lnN fun x => if x ∈ (pl e).take (j + 1) then e x else 0).map tN := by
        rw [← List.map_set, lnN_set, tk]
        congr 1
        refine lnN_ext fun x _ => ?_
        unfold upd
        by_cases c : x = i
        · subst c
          rw [if_pos rfl, if_pos (List.mem_append_right _ (List.mem_singleton.mpr rfl))]
        · rw [if_neg c]
          show (if x ∈ (pl e).take j then e x else 0) = _
          by_cases d : x ∈ (pl e).take j
          · rw [if_pos d, if_pos (List.mem_append_left _ d)]
          · rw [if_neg d, if_neg fun y => (List.mem_append.mp y).elim d fun y => c (List.mem_singleton.mp y)]
      rw [Int.toNat_natCast, es] at sc
      simp -implicitDefEqProofs only [List.set, q2_seq, q2_set, q2_if, q1_call, q1_cons, q1_nil, q1_var, q1_C, List.getElem?_cons_zero, List.getElem?_cons_succ, bind_ok, pi, bindE_ok, seq_nx, q1_orT, q1_tst, q1_bin, isn, ofO_some, asB_bl, Bool.false_eq_true, if_false, t0, le, q2_nil, q2_item, t1]
      show ((asLK (.loc h.length) (.int (i : Int)) _)).wp _
      rw [asLK_ok, sc]
      exact ⟨(i : Int), up, rfl, rfl⟩
    · rintro env h' ⟨L, hL, rfl, rfl⟩
      rw [List.length_map, List.take_length]
      have e1 : (lnN fun x => if x ∈ pl e then e x else 0) = lnN e := lnN_ext fun i hi => by
        by_cases c : i ∈ pl e
        · rw [if_pos c]
        · rw [if_neg c]
          apply Classical.byContradiction
          intro d
          exact c (List.mem_filter.mpr ⟨List.mem_range.mpr hi, decide_eq_true (by omega)⟩)
      rw [e1]
      refine ⟨by simp, ?_⟩
      simp -implicitDefEqProofs only [q2_ret, q1_callF, q1_cons, q1_nil, q1_var, List.getElem?_cons_zero, List.getElem?_cons_succ, bind_ok, e_tup, ofO_some, bindE_ok, so_rt]
      exact ⟨si_more, .inl ⟨by rw [pu_tup]; exact pus_tN, rfl, by simp⟩⟩
end
end Gd
namespace Gd
open PySem PySem.Spec PyProof.Rows L2 Sm
def partN : List (Option Nat) → Option (Nat × Nat)
  | [some q, some e] => if q ∈ PR ∧ 1 ≤ e ∧ e ≤ 1000000 then some (PR.idxOf q, e) else none
  | _ => none
def partO (p : List Nat) : Option (Nat × Nat) := partN ((spS 94 p).map numI)
def pT : Option (Nat × Nat) → T
  | none => .non
  | some (i, e) => .tup [tN i, tN e]
def rdR : List (Option (Nat × Nat)) → Int → (Nat → Nat) → Option (Nat → Nat)
  | [], _, f => some f
  | none :: _, _, _ => none
  | some (i, e) :: r, L, f => if (i : Int) ≤ L then none else rdR r i (upd f i e)
def rdA (a : List Nat) : Option (Nat → Nat) := if a = [49] then some fun _ => 0 else rdR ((spS 42 a).map partO) (-1) fun _ => 0
section
variable {h : Store} {a p : List Nat} {n i e : Nat}
theorem pr_of {q : Nat} (hq : q ∈ PR) : PR.idxOf q < 10 ∧ PR.getD (PR.idxOf q) 0 = q := by
  revert q
  decide
theorem not_in (q : Nat) : fNotIn (tN q) t_PRIMES h = some (.bl (!decide (q ∈ PR))) := by
  show (if flatT (tN q) = true ∧ (PR.map tN).all flatT = true then some (T.bl (!inT (tN q) (PR.map tN))) else (inG (tN q) (.tup (PR.map tN)) h).map fun c => .bl (!c)) = _
  rw [if_pos ⟨rfl, rfl⟩, elem_nat]
theorem non_in : fNotIn .non t_PRIMES h = some (.bl true) := rfl
theorem part_in_any (hl : p.length ≤ 900) : F_part_in [.str (SX.S p)] h = .ok (pT (partO p)) h := by
  have cn := sp_cnt (s := 94) (a := p)
  have sw := split_any (h := h) (a := p) (env := [some (.str (SX.S p)), none, none]) (mo := mVar 0) (z := Str.ofString "^") rfl s_hat (by decide) (by omega)
  have c : mComp (mSeq (mFrz (mSplit (mVar 0) (mC (.str "^"))))) [2] (.one 2) mYes (mCall F_number_in (mCons (mVar 2) mNil)) [some (.str (SX.S p)), none, none] h = .ok (((spS 94 p).map numI).map oN) h := by
    rw [List.map_map]
    refine comp_map (g := fun p => T.str (SX.S p)) (l := spS 94 p) (fun p => oN (numI p)) ?_ (by omega) fun w hw => ⟨_, b_one, ?_⟩
    · rw [q1_seqS, sw, bind_ok]
      rfl
    · have := sp_in hw
      have n1 := number_in_any (h := h) (w := w) (by omega)
      simp -implicitDefEqProofs only [List.set, drop_cons, drop_nil, q1_call, q1_cons, q1_nil, q1_var, List.getElem?_cons_zero, List.getElem?_cons_succ, bind_ok, n1]
  unfold partO
  have nl : ((spS 94 p).map numI).length ≤ 1000 := by rw [List.length_map]; omega
  generalize (spS 94 p).map numI = ns at c nl
  have ln : fLen [.lst (ns.map oN)] h = some (.int (ns.length : Int)) := by simp
  have ne : fNe (.int (ns.length : Int)) (.int 2) h = some (.bl (!decide (ns.length = 2))) := by
    rw [q3_ne]
    congr 3
    rw [decide_eq_decide]
    omega
  refine Out.wp_eq (fn_wp rfl ?_)
  show (b_part_in [some (.str (SX.S p)), none, none] h).wp _
  unfold b_part_in
  simp -implicitDefEqProofs only [q2_seq, q2_set, q1_frz, c, bind_ok, bindE_ok, seq_nx, List.set, q2_if, q1_orT, q1_tst, q1_bin, q1_callF, q1_cons, q1_nil, q1_var, q1_C, List.getElem?_cons_zero, List.getElem?_cons_succ, ln, ne, ofO_some, asB_bl]
  by_cases l2 : ns.length = 2
  · rw [decide_eq_true l2]
    match ns, l2, c, ln with
    | [o1, o2], _, c, ln =>
      have i0 : fIdx (.lst ([o1, o2].map oN)) (.int 0) h = some (oN o1) := by rw [q3_idxL]; rfl
      have i1 : fIdx (.lst ([o1, o2].map oN)) (.int 1) h = some (oN o2) := by rw [q3_idxL]; rfl
      generalize T.lst ([o1, o2].map oN) = L at i0 i1
      simp -implicitDefEqProofs only [Bool.not_true, Bool.false_eq_true, if_false, i0, ofO_some, bind_ok]
      cases o1 with
      | none =>
        simp -implicitDefEqProofs only [oN, non_in, ofO_some, bind_ok, asB_bl, if_true, bindE_ok, q2_ret, q1_C, seq_rt, so_rt]
        exact ⟨si_self, .inl ⟨rfl, by cases o2 <;> rfl, by simp⟩⟩
      | some q =>
        simp -implicitDefEqProofs only [oN, not_in, ofO_some, bind_ok, asB_bl]
        by_cases qi : q ∈ PR
        · rw [decide_eq_true qi]
          simp -implicitDefEqProofs only [Bool.not_true, Bool.false_eq_true, if_false, i1, ofO_some, bind_ok]
          cases o2 with
          | none =>
            have isn : fIs .non .non h = some (.bl true) := rfl
            simp -implicitDefEqProofs only [oN, isn, ofO_some, bind_ok, asB_bl, if_true, bindE_ok, q2_ret, q1_C, seq_rt, so_rt]
            exact ⟨si_self, .inl ⟨rfl, rfl, by simp⟩⟩
          | some e =>
            have isn : fIs (tN e) .non h = some (.bl false) := rfl
            have l1 : fLe (.int 1) (tN e) h = some (.bl (decide (1 ≤ e))) := by
              show fLe (.int 1) (.int _) h = _
              rw [q3_le]
              congr 2
              rw [decide_eq_decide]
              omega
            have l2 : fLe (tN e) t_GREATEST h = some (.bl (decide (e ≤ 1000000))) := by
              show fLe (.int _) (.int 1000000) h = _
              rw [q3_le]
              congr 2
              rw [decide_eq_decide]
              omega
            simp -implicitDefEqProofs only [oN, isn, ofO_some, bind_ok, asB_bl, Bool.false_eq_true, if_false, q1_notT, q1_tst, q1_chain, q1_bin, q1_var, q1_C, List.getElem?_cons_zero, List.getElem?_cons_succ, i1, l1]
            have bad : ¬ (1 ≤ e ∧ e ≤ 1000000) → pT (partN [some q, some e]) = .non := fun z => by
              show pT (if _ then _ else _) = _
              rw [if_neg fun y => z y.2]
              rfl
            by_cases z1 : 1 ≤ e
            · rw [decide_eq_true z1]
              simp -implicitDefEqProofs only [if_true, q1_C, bind_ok, l2, ofO_some, asB_bl]
              by_cases z2 : e ≤ 1000000
              · rw [decide_eq_true z2]
                have pq := pr_of qi
                have pi := pr_idx _ pq.1
                rw [pq.2] at pi
                have ixf : ixF t_PRIMES_d (tN q) = some (tN (PR.idxOf q)) := by
                  show (Sm.intsOf? (([2, 3, 5, 7, 11, 13, 17, 19, 23, 29] : List Int).map T.int)).bind (fun ns => if (q : Int) ∈ ns then some (T.int (ns.idxOf (q : Int) : Nat)) else none) = _
                  rw [Sm.ints_map]
                  simp only [Option.bind_some]
                  rw [if_pos pi.1, pi.2]
                  rfl
                have ix : ∀ {env : Env'} {me : M T}, me env h = .ok (tN q) h → mIxF (mC t_PRIMES_d) me env h = .ok (tN (PR.idxOf q)) h := fun {env me} em => by
                  unfold mIxF
                  simp only [q1_C, bind_ok]
                  show (me env h).bind (fun b h2 => Out.ofO (ixF t_PRIMES_d b) h2) = _
                  rw [em, bind_ok, ixf]
                  rfl
                have ix2 := ix (env := [some (.str (SX.S p)), some L, none]) (me := mBin fIdx (mVar 1) (mC (.int 0))) (by
                  simp -implicitDefEqProofs only [q1_bin, q1_var, q1_C, List.getElem?_cons_succ, List.getElem?_cons_zero, bind_ok, i0, ofO_some, oN])
                have i2 : ∀ {α : Type} (u v : α), (if 0 + 1 + 1 ≤ 10000 then u else v) = u := fun u v => if_pos (by decide)
                have ret : sRet (mTup (mCons (mIxF (mC t_PRIMES_d) (mBin fIdx (mVar 1) (mC (.int 0)))) (mCons (mBin fIdx (mVar 1) (mC (.int 1))) mNil))) [some (.str (SX.S p)), some L, none] h = .rt (.tup [tN (PR.idxOf q), tN e]) h := by
                  rw [q2_ret, q1_tup, q1_cons, ix2, bind_ok]
                  simp -implicitDefEqProofs only [q1_cons, q1_nil, q1_bin, q1_var, q1_C, List.getElem?_cons_succ, List.getElem?_cons_zero, bind_ok, i1, ofO_some, List.length_cons, List.length_nil, i2, bindE_ok, oN]
                simp -implicitDefEqProofs only [Bool.not_true, Bool.false_eq_true, if_false, bindE_ok, q2_nil, seq_nx]
                rw [ret]
                refine ⟨si_self, .inl ⟨rfl, ?_, by simp⟩⟩
                show _ = pT (if _ then _ else _)
                rw [if_pos ⟨qi, z1, z2⟩]
                rfl
              · rw [decide_eq_false z2]
                simp -implicitDefEqProofs only [Bool.not_false, if_true, bindE_ok, q2_ret, q1_C, seq_rt, so_rt]
                exact ⟨si_self, .inl ⟨rfl, (bad fun y => z2 y.2).symm, by simp⟩⟩
            · rw [decide_eq_false z1]
              simp -implicitDefEqProofs only [Bool.false_eq_true, if_false, bind_ok, asB_bl, Bool.not_false, if_true, bindE_ok, q2_ret, q1_C, seq_rt, so_rt]
              exact ⟨si_self, .inl ⟨rfl, (bad fun y => z1 y.1).symm, by simp⟩⟩
        · rw [decide_eq_false qi]
          simp -implicitDefEqProofs only [Bool.not_false, if_true, bindE_ok, q2_ret, q1_C, seq_rt, so_rt]
          refine ⟨si_self, .inl ⟨rfl, ?_, by simp⟩⟩
          cases o2 with
          | none => rfl
          | some e =>
            show _ = pT (if _ then _ else _)
            rw [if_neg fun y => qi y.1]
            rfl
  · rw [decide_eq_false l2]
    simp -implicitDefEqProofs only [Bool.not_false, if_true, bindE_ok, q2_ret, q1_C, seq_rt, so_rt]
    refine ⟨si_self, .inl ⟨rfl, ?_, by simp⟩⟩
    match ns, l2 with
    | [], _ => rfl
    | [o], _ => cases o <;> rfl
    | o1 :: o2 :: o3 :: r, _ => cases o1 <;> cases o2 <;> rfl
    | [o1, o2], z => exact absurd rfl z
theorem part_lt {ns : List (Option Nat)} (z : partN ns = some (i, e)) : i < 10 := by
  unfold partN at z
  split at z
  · split at z
    · rename_i c
      cases z
      exact (pr_of c.1).1
    · cases z
  · cases z
theorem part_ok : ∀ i e, partO p = some (i, e) → i < 10 := fun _ _ z => part_lt z
theorem read5 (hl : a.length ≤ 900) : (F_powers_read [.str (SX.S a)] h).wp (fun t h' => ∃ f, rdA a = some f ∧ t = .tup ((lnN f).map tN) ∧ h' = h) (fun e h' => rdA a = none ∧ e = .txt 13 ∧ h' = h) := by
  refine fn_wp rfl ?_
  show (b_powers_read [some (.str (SX.S a)), none, none, none, none] h).wp _
  have isi : fIsi "str" (.str (SX.S a)) h = some (.bl true) := rfl
  have ln : fLen [t_PRIMES] h = some (.int 10) := rfl
  have r0 : fRep (.lst [.int 0]) (.int 10) h = some ((lnN fun _ => 0).map tN) := rfl
  have i1 : ∀ {α : Type} (u v : α), (if 0 + 1 ≤ 10000 then u else v) = u := fun u v => if_pos (by decide)
  have pz : pus ((lnN fun _ => 0).map tN) = true := rfl
  have eq : ∀ S, fEq (.str (SX.S a)) (.str (Str.ofString "1")) S = some (.bl (decide (a = [49]))) := fun S => by
    rw [s_1, eqS]
  unfold b_powers_read
  simp -implicitDefEqProofs only [q2_seq, q2_if, q2_set, q1_notT, q1_tru, q1_un, q1_var, q1_cell, q1_new2, q1_frz, q1_lst, q1_callF, q1_cons, q1_nil, q1_C, List.set, List.getElem?_cons_zero, List.getElem?_cons_succ, bind_ok, isi, ofO_some, truF_bl, Bool.not_true, bindE_ok, Bool.false_eq_true, if_false, q2_nil, seq_nx, List.length_cons, List.length_nil, i1, ln, r0, pz, if_true, q1_tst, q1_bin, eq, asB_bl]
  unfold rdA
  by_cases z : a = [49]
  · rw [decide_eq_true z, if_pos z]
    simp -implicitDefEqProofs only [if_true, q1_callF, q1_cons, q1_nil, q2_ret, q1_var, List.getElem?_cons_zero, List.getElem?_cons_succ, bind_ok, e_tup, ofO_some, bindE_ok, seq_rt, so_rt]
    exact ⟨si_more, .inl ⟨by rw [pu_tup]; exact pz, _, rfl, rfl, by simp⟩⟩
  · rw [decide_eq_false z, if_neg z]
    have ng : ∀ S, fNeg (.int 1) S = some (.int (-1)) := fun S => rfl
    have cn := sp_cnt (s := 42) (a := a)
    simp -implicitDefEqProofs only [Bool.false_eq_true, if_false, q2_nil, seq_nx, q2_seq, q2_set, q1_un, q1_C, bind_ok, ng, ofO_some, bindE_ok, List.set, so_seq]
    have sp := split_any (h := h ++ [.lst ((lnN fun _ => 0).map tN)]) (env := [some (.str (SX.S a)), some (.loc h.length), some (.int (-1)), none, none]) (mo := mVar 0) (z := Str.ofString "*") rfl s_star (by decide) (by omega)
    rw [sFor_of (h1 := h ++ [.lst ((lnN fun _ => 0).map tN)]) (s := ⟨(spS 42 a).map fun w => T.str (SX.S w), []⟩) (by
      rw [q1_seqS, sp, bind_ok]
      rfl)]
    refine forLoop_wp _ (fun j env h' => ∃ (L : Int) (f : Nat → Nat), rdR ((spS 42 a).map partO) (-1) (fun _ => 0) = rdR (((spS 42 a).drop j).map partO) L f ∧ h' = h ++ [.lst ((lnN f).map tN)] ∧ env = [none, some (.loc h.length), some (.int L), none, none]) ?_ ?_ ⟨-1, _, rfl, rfl, by simp⟩
    · rintro j y env h' hy ⟨L, f, hR, rfl, rfl⟩
      obtain ⟨w, hw, rfl, hj⟩ := getm hy
      have wm := sp_in (List.mem_of_getElem? hw)
      have pa := part_in_any (h := h ++ [.lst ((lnN f).map tN)]) (p := w) (by omega)
      have po := part_ok (p := w)
      rw [List.drop_eq_getElem_cons hj, (List.getElem?_eq_some_iff.mp hw).2, List.map_cons] at hR
      refine ⟨by simp, _, b_one, ?_⟩
      simp -implicitDefEqProofs only [List.set, q2_seq, q2_set, q2_if, q1_call, q1_cons, q1_nil, q1_var, q1_C, List.getElem?_cons_zero, List.getElem?_cons_succ, bind_ok, pa, bindE_ok, seq_nx, q1_orT, q1_tst, q1_bin]
      cases hp : partO w with
      | none =>
        rw [hp] at hR
        have isn : ∀ S, fIs .non .non S = some (.bl true) := fun S => rfl
        simp -implicitDefEqProofs only [pT, isn, ofO_some, bind_ok, asB_bl, if_true, bindE_ok]
        simp -implicitDefEqProofs [sRaise, fnP, Ex.pu]
        exact hR
      | some ie =>
        obtain ⟨i, e⟩ := ie
        rw [hp] at hR
        have i9 := po i e hp
        have isn : ∀ S, fIs (.tup [tN i, tN e]) .non S = some (.bl false) := fun S => rfl
        have t0 : ∀ S, fIdx (.tup [tN i, tN e]) (.int 0) S = some (tN i) := fun S => by rw [q3_idx]; rfl
        have t1 : ∀ S, fIdx (.tup [tN i, tN e]) (.int 1) S = some (tN e) := fun S => by rw [q3_idx]; rfl
        have le : ∀ S, fLe (tN i) (.int L) S = some (.bl (decide ((i : Int) ≤ L))) := fun S => by
          show fLe (.int _) (.int L) S = _
          rw [q3_le]
        simp -implicitDefEqProofs only [pT, isn, ofO_some, bind_ok, asB_bl, Bool.false_eq_true, if_false, t0, le]
        by_cases c : (i : Int) ≤ L
        · rw [decide_eq_true c]
          simp -implicitDefEqProofs only [if_true, bindE_ok]
          simp -implicitDefEqProofs [sRaise, fnP, Ex.pu]
          rw [hR]
          show (if _ then _ else _) = _
          rw [if_pos c]
        · rw [decide_eq_false c]
          have ln10 : ((lnN f).map tN).length = 10 := by simp
          have sc := fun env => e_set (env := env) (h := h) (m := h.length) (xs := (lnN f).map tN) (k := (i : Int)) (y := tN e) rfl (by omega) (by rw [ln10]; omega) rfl
          have es : ((lnN f).map tN).set i (tN e) = (lnN (upd f i e)).map tN := by
            rw [← List.map_set, lnN_set]
          rw [Int.toNat_natCast, es] at sc
          simp -implicitDefEqProofs only [Bool.false_eq_true, if_false, bindE_ok, q2_nil, seq_nx, q2_seq, q2_set, q2_item, q1_bin, q1_var, q1_C, List.getElem?_cons_zero, List.getElem?_cons_succ, bind_ok, t0, t1, ofO_some, List.set]
          show ((asLK (.loc h.length) (.int (i : Int)) _)).wp _
          rw [asLK_ok, sc]
          refine ⟨(i : Int), upd f i e, ?_, rfl, rfl⟩
          rw [hR]
          show (if _ then _ else _) = _
          rw [if_neg c]
    · rintro env h' ⟨L, f, hR, rfl, rfl⟩
      rw [List.length_map, List.drop_length] at hR
      refine ⟨by simp, ?_⟩
      simp -implicitDefEqProofs only [q2_ret, q1_callF, q1_cons, q1_nil, q1_var, List.getElem?_cons_zero, List.getElem?_cons_succ, bind_ok, e_tup, ofO_some, bindE_ok, so_rt]
      exact ⟨si_more, .inl ⟨by rw [pu_tup]; exact pus_tN, f, hR, rfl, by simp⟩⟩
end
end Gd
namespace Gd
open PySem PySem.Spec PyProof.Rows L2 Sm
theorem primesK_eq {h : Store} : F_law_primes_v3 [] h = .ok (.dct [] (PR.map tN)) h := by
  refine Out.wp_eq (fn_wp rfl ?_)
  show (b_law_primes_v3 [] h).wp _
  unfold b_law_primes_v3
  simp -implicitDefEqProofs only [q2_ret, mTupK, q1_cons, q1_nil, q1_C, bind_ok]
  exact ⟨si_self, .inl ⟨rfl, rfl, by simp⟩⟩
theorem unfP : mUnF (mCall F_law_primes_v3 mNil) = mCall F_law_primes mNil := by
  funext env h
  unfold mUnF
  rw [q1_call, q1_call, q1_nil, bind_ok, bind_ok, primesK_eq, primes_eq]
  rfl
theorem text3_is : F_law_line_text_v3 = F_law_line_text_v2 := by
  unfold F_law_line_text_v3 F_law_line_text_v2 b_law_line_text_v3 b_law_line_text_v2
  rw [unfP]
section
variable {h : Store} {a p : List Nat} {n i e : Nat}
theorem unf_ev {env : Env'} : mUnF (mCall F_law_primes_v3 mNil) env h = .ok t_PRIMES h := by
  rw [unfP, q1_call, q1_nil, bind_ok, primes_eq]
  rfl
theorem partN_iff {ns : List (Option Nat)} : partN ns = some (i, e) ↔ ∃ q, ns = [some q, some e] ∧ (q ∈ PR ∧ 1 ≤ e ∧ e ≤ 1000000) ∧ PR.idxOf q = i := by
  constructor
  · intro z
    unfold partN at z
    split at z
    · split at z
      · rename_i q e c
        cases z
        exact ⟨q, rfl, c, rfl⟩
      · cases z
    · cases z
  · rintro ⟨q, rfl, c, rfl⟩
    show (if _ then _ else _) = _
    rw [if_pos c]
theorem pr_small {q : Nat} (hq : q ∈ PR) : q ≤ 29 := by
  revert q
  decide
theorem part_same {hs : List (List Nat)} : partN (hs.map figL) = partN (hs.map numI) := by
  apply Option.ext
  rintro ⟨i, e⟩
  rw [partN_iff, partN_iff]
  constructor
  · rintro ⟨q, e1, c, rfl⟩
    refine ⟨q, ?_, c, rfl⟩
    have := pr_small c.1
    match hs, e1 with
    | [x, y], e1 =>
      simp only [List.map_cons, List.map_nil, List.cons.injEq, and_true] at e1 ⊢
      exact ⟨(fig_num (by omega)).mpr e1.1, (fig_num (by omega)).mpr e1.2⟩
    | [], e1 => simp at e1
    | [_], e1 => simp at e1
    | _ :: _ :: _ :: _, e1 => simp at e1
  · rintro ⟨q, e1, c, rfl⟩
    refine ⟨q, ?_, c, rfl⟩
    have := pr_small c.1
    match hs, e1 with
    | [x, y], e1 =>
      simp only [List.map_cons, List.map_nil, List.cons.injEq, and_true] at e1 ⊢
      exact ⟨(fig_num (by omega)).mp e1.1, (fig_num (by omega)).mp e1.2⟩
    | [], e1 => simp at e1
    | [_], e1 => simp at e1
    | _ :: _ :: _ :: _, e1 => simp at e1
theorem ix_pr {q : Nat} (qi : q ∈ PR) {env : Env'} {me : M T} (em : me env h = .ok (tN q) h) : mIxF (mCall F_law_primes_v3 mNil) me env h = .ok (tN (PR.idxOf q)) h := by
  have pq := pr_of qi
  have pi := pr_idx _ pq.1
  rw [pq.2] at pi
  have ixf : ixF (.dct [] (PR.map tN)) (tN q) = some (tN (PR.idxOf q)) := by
    show (Sm.intsOf? (([2, 3, 5, 7, 11, 13, 17, 19, 23, 29] : List Int).map T.int)).bind (fun ns => if (q : Int) ∈ ns then some (T.int (ns.idxOf (q : Int) : Nat)) else none) = _
    rw [Sm.ints_map]
    simp only [Option.bind_some]
    rw [if_pos pi.1, pi.2]
    rfl
  unfold mIxF
  rw [q1_call, q1_nil, bind_ok, primesK_eq, bind_ok]
  show (me env h).bind (fun b h2 => Out.ofO (ixF (.dct [] (PR.map tN)) b) h2) = _
  rw [em, bind_ok, ixf]
  rfl
def dueA (a : List Nat) : T := match rdA a with
  | none => .non
  | some f => .tup ((lnN f).map tN)
@[irreducible] noncomputable def part5 : MS := (sSeq (sSet 3 (mFrz (mComp (mSeq (mFrz (mSplit (mVar 4) (mC (.str "^"))))) [5] (.one 5) mYes (mCall F_law_figures_v2 (mCons (mVar 5) mNil)))))
  (sSeq (sIf (mOrT (mTst (mBin fNe (mCallF fLen (mCons (mVar 3) mNil)) (mC (.int 2)))) (mOrT (mTst (mBin fIn (mC .non) (mVar 3))) (mOrT (mTst (mBin fNotIn (mBin fIdx (mVar 3) (mC (.int 0))) (mUnF (mCall F_law_primes_v3 mNil)))) (mTst (mBin fLe (mBin fIdx (mVar 3) (mC (.int 0))) (mVar 2))))))
  (sRet (mC .non))
  sNil)
  (sSeq (sIf (mNotT (mTst (mChain fLe fLe (mC (.int 1)) (mBin fIdx (mVar 3) (mC (.int 1))) (mBin fPow (mC (.int 10)) (mC (.int 6))))))
  (sRet (mC .non))
  sNil)
  (sSeq (sSet 2 (mBin fIdx (mVar 3) (mC (.int 0))))
  (sItem (mBin fIdx (mVar 3) (mC (.int 1))) (mVar 1) (mIxF (mCall F_law_primes_v3 mNil) (mVar 2)))))))
theorem due5_is : b_law_line_due = (sSeq (sSet 1 (mCell (mNew2 fRep (mFrz (mLst (mCons (mC (.int 0)) mNil))) (mC (.int 10)))))
  (sSeq (sIf (mTst (mBin fEq (mVar 0) (mC (.str "1"))))
  (sRet (mCallF fTuple (mCons (mVar 1) mNil)))
  sNil)
  (sSeq (sSet 2 (mC (.int 0)))
  (sSeq (sFor (mSeq (mFrz (mSplit (mVar 0) (mC (.str "*"))))) (.one 4) [0, 3, 4]
  part5)
  (sRet (mCallF fTuple (mCons (mVar 1) mNil))))))) := by
  unfold part5
  rfl
theorem part5_wp {f : Nat → Nat} {L : Nat} {x3 : Option T} {P : Pst} (hl : p.length ≤ 900) (as : ∀ c ∈ p, c < 128)
    (no : partO p = none → P.rt .non (h ++ [.lst ((lnN f).map tN)]))
    (un : ∀ q e, partO p = some (PR.idxOf q, e) → q ∈ PR → q ≤ L → P.rt .non (h ++ [.lst ((lnN f).map tN)]))
    (ok : ∀ q e x3, partO p = some (PR.idxOf q, e) → q ∈ PR → L < q → P.nx [none, some (.loc h.length), some (tN q), x3, some (.str (SX.S p)), none] (h ++ [.lst ((lnN (upd f (PR.idxOf q) e)).map tN)])) :
    (part5 [none, some (.loc h.length), some (tN L), x3, some (.str (SX.S p)), none] (h ++ [.lst ((lnN f).map tN)])).wp P := by
  have cn := sp_cnt (s := 94) (a := p)
  generalize hH : h ++ [.lst ((lnN f).map tN)] = H at no un
  have sw := split_any (h := H) (a := p) (env := [none, some (.loc h.length), some (tN L), x3, some (.str (SX.S p)), none]) (mo := mVar 4) (z := Str.ofString "^") rfl s_hat (by decide) (by omega)
  have c : mComp (mSeq (mFrz (mSplit (mVar 4) (mC (.str "^"))))) [5] (.one 5) mYes (mCall F_law_figures_v2 (mCons (mVar 5) mNil)) [none, some (.loc h.length), some (tN L), x3, some (.str (SX.S p)), none] H = .ok (((spS 94 p).map figL).map oN) H := by
    rw [List.map_map]
    refine comp_map (g := fun p => T.str (SX.S p)) (l := spS 94 p) (fun p => oN (figL p)) ?_ (by omega) fun w hw => ⟨_, b_one, ?_⟩
    · rw [q1_seqS, sw, bind_ok]
      rfl
    · have sp := sp_in hw
      have n1 := figures_any (h := H) (w := w) (by omega) fun c hc => as c (sp.2 c hc)
      simp -implicitDefEqProofs only [List.set, drop_cons, drop_nil, q1_call, q1_cons, q1_nil, q1_var, List.getElem?_cons_zero, List.getElem?_cons_succ, bind_ok, n1]
  have po : partO p = partN ((spS 94 p).map figL) := part_same.symm
  rw [po] at no
  have nl : ((spS 94 p).map figL).length ≤ 1000 := by rw [List.length_map]; omega
  have un : ∀ q e, partN ((spS 94 p).map figL) = some (PR.idxOf q, e) → q ∈ PR → q ≤ L → P.rt .non H := fun q e z => un q e (po.trans z)
  have ok : ∀ q e x3, partN ((spS 94 p).map figL) = some (PR.idxOf q, e) → q ∈ PR → L < q → P.nx [none, some (.loc h.length), some (tN q), x3, some (.str (SX.S p)), none] (h ++ [.lst ((lnN (upd f (PR.idxOf q) e)).map tN)]) := fun q e x3 z => ok q e x3 (po.trans z)
  generalize (spS 94 p).map figL = ns at c nl no un ok
  clear po
  have ln : fLen [.lst (ns.map oN)] H = some (.int (ns.length : Int)) := by simp
  have ne : fNe (.int (ns.length : Int)) (.int 2) H = some (.bl (!decide (ns.length = 2))) := by
    rw [q3_ne]
    congr 3
    rw [decide_eq_decide]
    omega
  have ni : fIn .non (.lst (ns.map oN)) H = some (.bl (decide (none ∈ ns))) := by
    show (if flatT .non = true ∧ (ns.map oN).all flatT = true then some (T.bl (inT .non (ns.map oN))) else (inG .non (.lst (ns.map oN)) H).map .bl) = _
    rw [if_pos ⟨rfl, flat_oN⟩, in_non]
  unfold part5
  simp -implicitDefEqProofs only [q2_seq, q2_set, q1_frz, c, bind_ok, bindE_ok, seq_nx, List.set, q2_if, q1_orT, q1_tst, q1_bin, q1_callF, q1_cons, q1_nil, q1_var, q1_C, List.getElem?_cons_zero, List.getElem?_cons_succ, ln, ne, ofO_some, asB_bl]
  by_cases l2 : ns.length = 2
  · rw [decide_eq_true l2]
    simp -implicitDefEqProofs only [Bool.not_true, Bool.false_eq_true, if_false, ni, ofO_some, bind_ok, asB_bl]
    by_cases hn : none ∈ ns
    · rw [decide_eq_true hn]
      simp -implicitDefEqProofs only [if_true, bindE_ok, q2_ret, q1_C, seq_rt]
      refine no ?_
      cases hp : partN ns with
      | none => rfl
      | some ie =>
        obtain ⟨q, e1, _⟩ := partN_iff.mp hp
        rw [e1] at hn
        simp at hn
    · rw [decide_eq_false hn]
      match ns, l2, c, ln with
      | [none, o2], _, c, ln => exact absurd (List.mem_cons_self ..) hn
      | [some q, none], _, c, ln => exact absurd (by simp) hn
      | [some q, some e], _, c, ln =>
        have i0 : fIdx (.lst ([some q, some e].map oN)) (.int 0) H = some (tN q) := by rw [q3_idxL]; rfl
        have i1 : fIdx (.lst ([some q, some e].map oN)) (.int 1) H = some (tN e) := by rw [q3_idxL]; rfl
        generalize T.lst ([some q, some e].map oN) = LL at i0 i1
        simp -implicitDefEqProofs only [Bool.false_eq_true, if_false, i0, ofO_some, bind_ok, unf_ev, not_in, asB_bl]
        have pn : partN [some q, some e] = if q ∈ PR ∧ 1 ≤ e ∧ e ≤ 1000000 then some (PR.idxOf q, e) else none := rfl
        by_cases qi : q ∈ PR
        · rw [decide_eq_true qi]
          have le : ∀ S, fLe (tN q) (tN L) S = some (.bl (decide (q ≤ L))) := fun S => by
            show fLe (.int _) (.int _) S = _
            rw [q3_le]
            congr 2
            rw [decide_eq_decide]
            omega
          have l1 : fLe (.int 1) (tN e) H = some (.bl (decide (1 ≤ e))) := by
            show fLe (.int 1) (.int _) H = _
            rw [q3_le]
            congr 2
            rw [decide_eq_decide]
            omega
          have pw : fPow (.int 10) (.int 6) H = some (.int 1000000) := rfl
          have l2 : fLe (tN e) (.int 1000000) H = some (.bl (decide (e ≤ 1000000))) := by
            show fLe (.int _) (.int 1000000) H = _
            rw [q3_le]
            congr 2
            rw [decide_eq_decide]
            omega
          have bad : ¬ (1 ≤ e ∧ e ≤ 1000000) → P.rt .non H := fun z => no (by rw [pn, if_neg fun y => z y.2])
          simp -implicitDefEqProofs only [Bool.not_true, Bool.false_eq_true, if_false, i0, ofO_some, bind_ok, le, asB_bl]
          by_cases ql : q ≤ L
          · rw [decide_eq_true ql]
            simp -implicitDefEqProofs only [if_true, bindE_ok, q2_ret, q1_C, seq_rt]
            by_cases ee : 1 ≤ e ∧ e ≤ 1000000
            · exact un q e (by rw [pn, if_pos ⟨qi, ee⟩]) qi ql
            · exact bad ee
          · rw [decide_eq_false ql]
            simp -implicitDefEqProofs only [Bool.false_eq_true, if_false, bindE_ok, q2_nil, seq_nx, q2_seq, q2_if, q1_notT, q1_tst, q1_chain, q1_bin, q1_var, q1_C, List.getElem?_cons_zero, List.getElem?_cons_succ, bind_ok, i1, ofO_some, l1, asB_bl]
            by_cases z1 : 1 ≤ e
            · rw [decide_eq_true z1]
              simp -implicitDefEqProofs only [if_true, q1_bin, q1_C, bind_ok, pw, l2, ofO_some, asB_bl]
              by_cases z2 : e ≤ 1000000
              · rw [decide_eq_true z2]
                simp -implicitDefEqProofs only [Bool.not_true, Bool.false_eq_true, if_false, bindE_ok, q2_nil, seq_nx, q2_seq, q2_set, q1_bin, q1_var, q1_C, List.getElem?_cons_zero, List.getElem?_cons_succ, bind_ok, i0, ofO_some, List.set, q2_item, i1]
                have ix := ix_pr (h := H) qi (env := [none, some (.loc h.length), some (tN q), some LL, some (.str (SX.S p)), none]) (me := mVar 2) rfl
                have ln10 : ((lnN f).map tN).length = 10 := by simp
                have pq := pr_of qi
                have sc := fun env => e_set (env := env) (h := h) (m := h.length) (xs := (lnN f).map tN) (k := ((PR.idxOf q : Nat) : Int)) (y := tN e) rfl (by omega) (by rw [ln10]; omega) rfl
                have es : ((lnN f).map tN).set (PR.idxOf q) (tN e) = (lnN (upd f (PR.idxOf q) e)).map tN := by
                  rw [← List.map_set, lnN_set]
                rw [Int.toNat_natCast, es, hH] at sc
                rw [ix, bindE_ok]
                show ((asLK (.loc h.length) (.int ((PR.idxOf q : Nat) : Int)) _)).wp _
                rw [asLK_ok, sc]
                exact ok q e _ (by rw [pn, if_pos ⟨qi, z1, z2⟩]) qi (by omega)
              · rw [decide_eq_false z2]
                simp -implicitDefEqProofs only [Bool.not_false, if_true, bindE_ok, q2_ret, q1_C, seq_rt]
                exact bad fun y => z2 y.2
            · rw [decide_eq_false z1]
              simp -implicitDefEqProofs only [Bool.false_eq_true, if_false, bind_ok, asB_bl, Bool.not_false, if_true, bindE_ok, q2_ret, q1_C, seq_rt]
              exact bad fun y => z1 y.1
        · rw [decide_eq_false qi]
          simp -implicitDefEqProofs only [Bool.not_false, if_true, bindE_ok, q2_ret, q1_C, seq_rt]
          exact no (by rw [pn, if_neg fun y => qi y.1])
  · rw [decide_eq_false l2]
    simp -implicitDefEqProofs only [Bool.not_false, if_true, bindE_ok, q2_ret, q1_C, seq_rt]
    refine no ?_
    cases hp : partN ns with
    | none => rfl
    | some ie =>
      obtain ⟨q, e1, _⟩ := partN_iff.mp hp
      rw [e1] at l2
      exact absurd rfl l2
theorem pr_le {q L : Nat} (hq : q ∈ PR) (hL : L ∈ PR) : (PR.idxOf q ≤ PR.idxOf L) ↔ q ≤ L := by
  have : ∀ q ∈ PR, ∀ L ∈ PR, (PR.idxOf q ≤ PR.idxOf L) ↔ q ≤ L := by decide
  exact this q hq L hL
theorem due5_any (hl : a.length ≤ 900) (as : ∀ c ∈ a, c < 128) : F_law_line_due [.str (SX.S a)] h = .ok (dueA a) h := by
  refine Out.wp_eq (fn_wp rfl ?_)
  show (b_law_line_due [some (.str (SX.S a)), none, none, none, none, none] h).wp _
  have r0 : fRep (.lst [.int 0]) (.int 10) h = some ((lnN fun _ => 0).map tN) := rfl
  have i1 : ∀ {α : Type} (u v : α), (if 0 + 1 ≤ 10000 then u else v) = u := fun u v => if_pos (by decide)
  have pz : pus ((lnN fun _ => 0).map tN) = true := rfl
  have eq : ∀ S, fEq (.str (SX.S a)) (.str (Str.ofString "1")) S = some (.bl (decide (a = [49]))) := fun S => by
    rw [s_1, eqS]
  rw [due5_is]
  simp -implicitDefEqProofs only [q2_seq, q2_if, q2_set, q1_cell, q1_new2, q1_frz, q1_lst, q1_cons, q1_nil, q1_C, q1_var, List.set, List.getElem?_cons_zero, List.getElem?_cons_succ, bind_ok, bindE_ok, seq_nx, List.length_cons, List.length_nil, i1, r0, pz, ofO_some, if_true, q1_tst, q1_bin, eq, asB_bl]
  unfold dueA rdA
  by_cases z : a = [49]
  · rw [decide_eq_true z, if_pos z]
    simp -implicitDefEqProofs only [if_true, q1_callF, q1_cons, q1_nil, q2_ret, q1_var, List.getElem?_cons_zero, List.getElem?_cons_succ, bind_ok, e_tup, ofO_some, bindE_ok, seq_rt, so_rt]
    exact ⟨si_more, .inl ⟨by rw [pu_tup]; exact pz, rfl, by simp⟩⟩
  · rw [decide_eq_false z, if_neg z]
    have cn := sp_cnt (s := 42) (a := a)
    simp -implicitDefEqProofs only [Bool.false_eq_true, if_false, q2_nil, seq_nx, q2_seq, q2_set, q1_C, bindE_ok, List.set, so_seq]
    have sp := split_any (h := h ++ [.lst ((lnN fun _ => 0).map tN)]) (env := [some (.str (SX.S a)), some (.loc h.length), some (.int 0), none, none, none]) (mo := mVar 0) (z := Str.ofString "*") rfl s_star (by decide) (by omega)
    rw [sFor_of (h1 := h ++ [.lst ((lnN fun _ => 0).map tN)]) (s := ⟨(spS 42 a).map fun w => T.str (SX.S w), []⟩) (by
      rw [q1_seqS, sp, bind_ok]
      rfl)]
    refine forLoop_wp _ (fun j env h' => ∃ (L : Nat) (J : Int) (f : Nat → Nat), (∀ q ∈ PR, ((PR.idxOf q : Nat) : Int) ≤ J ↔ q ≤ L) ∧ rdR ((spS 42 a).map partO) (-1) (fun _ => 0) = rdR (((spS 42 a).drop j).map partO) J f ∧ h' = h ++ [.lst ((lnN f).map tN)] ∧ env = [none, some (.loc h.length), some (tN L), none, none, none]) ?_ ?_ ⟨0, -1, _, by decide, rfl, rfl, by simp [tN]⟩
    · rintro j y env h' hy ⟨L, J, f, hJ, hR, rfl, rfl⟩
      obtain ⟨w, hw, rfl, hj⟩ := getm hy
      have wm := sp_in (List.mem_of_getElem? hw)
      rw [List.drop_eq_getElem_cons hj, (List.getElem?_eq_some_iff.mp hw).2, List.map_cons] at hR
      refine ⟨by simp, _, b_one, ?_⟩
      simp -implicitDefEqProofs only [List.set]
      have nn : (rdR ((spS 42 a).map partO) (-1) fun _ => 0) = none → (fnP h (fun t h' => t = (match rdR ((spS 42 a).map partO) (-1) fun _ => 0 with | none => .non | some f => .tup ((lnN f).map tN)) ∧ h' = h) (fun _ _ => False)).rt .non (h ++ [.lst ((lnN f).map tN)]) := fun z => by
        rw [z]
        exact ⟨si_more, .inl ⟨rfl, rfl, by simp⟩⟩
      refine part5_wp (by omega) (fun c hc => as c (wm.2 c hc)) (fun k => nn ?_) (fun q e k qi ql => nn ?_) fun q e x3 k qi ql => ?_
      · rw [hR, k]
        rfl
      · rw [hR, k]
        show (if _ then _ else _) = _
        rw [if_pos ((hJ q qi).mpr ql)]
      · refine ⟨q, ((PR.idxOf q : Nat) : Int), _, fun r hr => ?_, ?_, rfl, rfl⟩
        · have := pr_le hr qi
          omega
        · rw [hR, k]
          show (if _ then _ else _) = _
          rw [if_neg fun y => by have := (hJ q qi).mp y; omega]
    · rintro env h' ⟨L, J, f, hJ, hR, rfl, rfl⟩
      rw [List.length_map, List.drop_length] at hR
      refine ⟨by simp, ?_⟩
      simp -implicitDefEqProofs only [q2_ret, q1_callF, q1_cons, q1_nil, q1_var, List.getElem?_cons_zero, List.getElem?_cons_succ, bind_ok, e_tup, ofO_some, bindE_ok, so_rt]
      exact ⟨si_more, .inl ⟨by rw [pu_tup]; exact pus_tN, by rw [hR]; rfl, by simp⟩⟩
end
end Gd
namespace Gd
open PySem PySem.Spec PyProof.Rows L2 Sm
section
variable {h : Store} {a : List Nat} {x t : T} {e : Nat → Nat}
def told5T (a : List Nat) : T := match rdA a with
  | none => .str "text"
  | some f => .tup ((lnN f).map tN)
theorem so10 (g : Nat → Nat) : sameOk 8 (.tup ((lnN g).map tN)) := ⟨by simp, fun y hy => by
  obtain ⟨z, _, rfl⟩ := List.mem_map.mp hy
  trivial⟩
theorem toldA_ok5 : sameOk 8 (told5T a) := by
  unfold told5T
  split
  · trivial
  · exact so10 _
theorem told5_of (e : F_powers_read [x] h = .ok t h) (pt : t.pu = true) : F_law_told_v12 [x] h = .ok t h := by
  refine Out.wp_eq (fn_wp rfl ?_)
  show (sTry 1 [13] (sRet (mCall F_powers_read (mCons (mVar 0) mNil))) _ [some x, none] h).wp _
  have eb : sRet (mCall F_powers_read (mCons (mVar 0) mNil)) [some x, none] h = .rt t h := by
    simp -implicitDefEqProofs only [q2_ret, q1_call, q1_cons, q1_var, q1_nil, List.getElem?_cons_zero, bind_ok, e, bindE_ok]
  unfold sTry
  rw [eb]
  exact ⟨si_self, .inl ⟨pt, rfl, by simp⟩⟩
theorem told5_ex (e : F_powers_read [x] h = .ex (.txt 13) h) : F_law_told_v12 [x] h = .ok (.str "text") h := by
  refine Out.wp_eq (fn_wp rfl ?_)
  show (sTry 1 [13] (sRet (mCall F_powers_read (mCons (mVar 0) mNil))) _ [some x, none] h).wp _
  have eb : sRet (mCall F_powers_read (mCons (mVar 0) mNil)) [some x, none] h = .ex (.txt 13) [some x, none] h := by
    simp -implicitDefEqProofs only [q2_ret, q1_call, q1_cons, q1_var, q1_nil, List.getElem?_cons_zero, bind_ok, e, bindE_ex]
  have hd : ∀ a d : Addr, (sRet (mCall (F_law_kind_of a d (.txt 13)) (mCons (mVar 1) mNil))) ([some x, none].set 1 (some (exT a d (.txt 13)))) h = .rt (.str "text") h := fun a d => by
    have kd := kind1_text (h := h) (a := a) (d := d) (e := .txt 13) rfl
    generalize exT a d (.txt 13) = z at kd
    simp -implicitDefEqProofs [kd]
  have tr := sTry_ex (i := 1) (cs := [13]) (t := .str "text") (hd := fun ea ed ee => sRet (mCall (F_law_kind_of ea ed ee) (mCons (mVar 1) mNil))) eb (by simp) ⟨by simp [Ex.c], fun c f t z => by cases z⟩ hd
  rw [tr]
  exact ⟨si_self, .inl ⟨rfl, rfl, by simp⟩⟩
theorem told5_any (hl : a.length ≤ 900) : F_law_told_v12 [.str (SX.S a)] h = .ok (told5T a) h := by
  have ra := read5 (h := h) hl
  revert ra
  unfold told5T
  cases e : F_powers_read [.str (SX.S a)] h with
  | ok t h2 =>
    rintro ⟨f, z, rfl, rfl⟩
    rw [z]
    exact told5_of e (by rw [pu_tup]; exact pus_tN)
  | ex e2 h2 =>
    rintro ⟨z, rfl, rfl⟩
    rw [z]
    exact told5_ex e
  | bad => exact fun z => z.elim
theorem told5_thing (i : fIsi "str" x h = some (.bl false)) : F_law_told_v12 [x] h = .ok (.str "text") h := by
  refine told5_ex (out_ex (fn_wp rfl ?_))
  show (b_powers_read [some x, none, none, none, none] h).wp _
  unfold b_powers_read
  simp -implicitDefEqProofs only [q2_seq, q2_if, q1_notT, q1_tru, q1_un, q1_var, List.getElem?_cons_zero, bind_ok, i, ofO_some, truF_bl, Bool.not_false, if_true, bindE_ok]
  simp -implicitDefEqProofs [sRaise, fnP, Ex.pu]
theorem due_told : (dueA a = .non ∧ told5T a = .str "text") ∨ (∃ f : Nat → Nat, dueA a = .tup ((lnN f).map tN) ∧ told5T a = .tup ((lnN f).map tN)) := by
  unfold dueA told5T
  cases rdA a with
  | none => exact .inl ⟨rfl, rfl⟩
  | some f => exact .inr ⟨f, rfl, rfl⟩
theorem joinS_len {s : Nat} : ∀ {l : List (List Nat)}, (TL.joinL [s] l).length ≤ (l.map List.length).sum + l.length
  | [] => Nat.zero_le _
  | [p] => by
    show p.length ≤ _
    simp
  | p :: q :: r => by
    have ih := joinS_len (s := s) (l := q :: r)
    show (p ++ ([s] ++ TL.joinL [s] (q :: r))).length ≤ _
    rw [List.length_append, List.length_append, List.map_cons, List.sum_cons, List.length_cons]
    simp only [List.length_cons, List.length_nil] at ih ⊢
    omega
theorem joinS_in {s : Nat} : ∀ {l : List (List Nat)} {c : Nat}, c ∈ TL.joinL [s] l → c = s ∨ ∃ p ∈ l, c ∈ p
  | [], c, hc => by cases hc
  | [p], c, hc => .inr ⟨p, List.mem_singleton.mpr rfl, hc⟩
  | p :: q :: r, c, hc => by
    have hc : c ∈ p ++ ([s] ++ TL.joinL [s] (q :: r)) := hc
    rcases List.mem_append.mp hc with z | z
    · exact .inr ⟨p, List.mem_cons_self .., z⟩
    · rcases List.mem_append.mp z with z | z
      · exact .inl (List.mem_singleton.mp z)
      · rcases joinS_in z with y | ⟨y, hy, cy⟩
        · exact .inl y
        · exact .inr ⟨y, List.mem_cons_of_mem _ hy, cy⟩
def turnS (a : List Nat) : List Nat := TL.joinL [42] (spS 42 a).reverse
theorem turn_gd {m : Nat} (k : Gd9 m a) : Gd9 (m + 1) (turnS a) := by
  have sm := spl_sum (l := a) (acc := []) (s := 42)
  have l := k.1
  refine ⟨?_, fun c hc => ?_⟩
  · refine Nat.le_trans joinS_len ?_
    rw [List.map_reverse, List.sum_reverse, List.length_reverse]
    show ((TL.spl [42] 0 [] a).map List.length).sum + (TL.spl [42] 0 [] a).length ≤ m + 1
    simp at sm
    omega
  · rcases joinS_in hc with z | ⟨p, hp, cp⟩
    · omega
    · exact k.2 c ((sp_in (List.mem_reverse.mp hp)).2 c cp)
theorem turn_ev {env : Env'} {i : Nat} {m : Nat} (e : env[i]? = some (some (.str (SX.S a)))) (k : Gd9 m a) (hm : m ≤ 900) : mJoin (mC (.str "*")) (mRev (mFrz (mSplit (mVar i) (mC (.str "*"))))) env h = .ok (.str (SX.S (turnS a))) h := by
  have l := k.1
  have sp := split_any (h := h) (a := a) (env := env) (mo := mVar i) (z := Str.ofString "*") (by simp [e]) s_star (by decide) (by omega)
  have sm := spl_sum (l := a) (acc := []) (s := 42)
  have rv : mRev (mFrz (mSplit (mVar i) (mC (.str "*")))) env h = .ok (sT (spS 42 a).reverse) h := by
    unfold mRev
    rw [sp, bind_ok]
    show Out.ofO (some (T.lst _)) h = _
    rw [← List.map_reverse]
    rfl
  unfold mJoin
  simp only [q1_C, bind_ok, rv]
  rw [s_star]
  have eb : (lstOf h (sT (spS 42 a).reverse)).bind Sm.strsOf? = some ((spS 42 a).reverse.map SX.S) := by
    show (some _).bind Sm.strsOf? = _
    rw [Option.bind_some, strs_map]
  rw [eb]
  show (if _ then _ else _) = _
  rw [if_pos (by
    rw [SX.lens, SX.S_len, List.length_map, List.map_reverse, List.sum_reverse, List.length_reverse]
    show ((TL.spl [42] 0 [] a).map List.length).sum + (TL.spl [42] 0 [] a).length * 1 ≤ 100000
    simp at sm
    omega), SX.join_S]
  rfl
theorem lineS_gd (k : mil e) : ∃ tx, lineS e = SX.S tx ∧ Gd9 290 tx := by
  unfold lineS
  split
  · exact ⟨[49], rfl, by simp, by simp⟩
  · refine ⟨_, rfl, ?_, fun c hc => ?_⟩
    · have := jn_len (l := pl e) k.sm fun i hi => (pl_mem hi).1
      have := pl_len (e := e)
      omega
    · unfold jn at hc
      rcases joinS_in hc with z | ⟨p, hp, cp⟩
      · omega
      · obtain ⟨i, _, rfl⟩ := List.mem_map.mp hp
        exact qw_asc c cp
end
end Gd
namespace Gd
open PySem PySem.Spec PyProof.Rows L2 Sm
@[irreducible] noncomputable def line05 : MS := (sSet 3 (mCall F_law_line (mCons (mVar 6) (mCons (mCall F_law_places (mCons (mVar 6) mNil)) (mCons (mBin fIdx (mFrz (mLst (mCons (mC (.int 9)) (mCons (mBin fPow (mC (.int 10)) (mC (.int 6))) mNil)))) (mCall F_law_take (mCons (mVar 6) (mCons (mC (.int 2)) mNil)))) mNil)))))
@[irreducible] noncomputable def odA05 : MS := (sSet 4 (mFrz (mLst (mCons (mC (.str "")) (mCons (mC (.str "2")) (mCons (mC (.str "2^")) (mCons (mC (.str "^2")) (mCons (mC (.str "2^0")) (mCons (mC (.str "4^1")) (mCons (mC (.str "31^1")) (mCons (mC (.str "2^1000000")) (mCons (mC (.str "2^1000001")) (mCons (mC (.str "2^01")) (mCons (mC (.str "02^1")) (mCons (mC (.str "1^1")) (mCons (mC (.str "1*2^1")) mNil))))))))))))))))
@[irreducible] noncomputable def odB05 : MS := (sSet 4 (mBin fAdd (mVar 4) (mFrz (mLst (mCons (mC (.str "3^1*2^1")) (mCons (mC (.str "2^1*2^1")) (mCons (mC (.str "2^1*")) (mCons (mC (.str "*2^1")) (mCons (mC (.str "2^1 * 3^1")) (mCons (mC (.str "2^-1")) (mCons (mC (.str "2^1^1")) (mCons (mC (.str "0")) (mCons (mC (.str "11")) (mCons (mC (.str "2*3")) mNil))))))))))))))
@[irreducible] noncomputable def turn05 : MS := (sSeq (sSet 5 (mCall F_law_bent_text (mCons (mVar 6) (mCons (mVar 7) (mCons (mC (.str " *^0123456789-")) (mCons (mVar 4) mNil))))))
  (sSeq (sSet 1 (mCall F_law_line_due (mCons (mVar 5) mNil)))
  (sSeq (sIf (mTst (mBin fIs (mVar 1) (mC .non)))
  (sSet 1 (mC (.str "text")))
  sNil)
  (sIf (mNotT (mTru (mCall (F_law_same 8) (mCons (mCall F_law_told_v12 (mCons (mVar 5) mNil)) (mCons (mVar 1) mNil)))))
  (sRet (mC (.bl false)))
  sNil))))
@[irreducible] noncomputable def turns05 : MS := (sFor (mRange1 (mCons (mC (.int 2)) mNil)) (.one 9) [1, 2, 5, 8, 9, 10]
  turn05)
@[irreducible] noncomputable def thing05 : MS := (sSeq (sSet 8 (mBin fIdx (mFrz (mLst (mCons (mC .non) (mCons (mC (.int 2)) (mCons (mC (.bl true)) (mCons (mFrz (mLst (mCons (mVar 7) mNil))) (mCons (mTup (mCons (mVar 7) mNil)) (mCons mEmp (mCons (mVar 3) mNil))))))))) (mCall F_law_take (mCons (mVar 6) (mCons (mC (.int 7)) mNil)))))
  (sIf (mOrT (mTst (mBin fNe (mCall F_law_told_v12 (mCons (mVar 8) mNil)) (mC (.str "text")))) (mNotT (mTru (mCall (F_law_same 8) (mCons (mCall F_law_told_v12 (mCons (mVar 7) mNil)) (mCons (mVar 3) mNil))))))
  (sRet (mC (.bl false)))
  sNil))
@[irreducible] noncomputable def back05 : MS := (sSeq (sSet 10 (mJoin (mC (.str "*")) (mRev (mFrz (mSplit (mVar 7) (mC (.str "*")))))))
  (sSeq (sSet 1 (mCall F_law_line_due (mCons (mVar 10) mNil)))
  (sSeq (sIf (mTst (mBin fIs (mVar 1) (mC .non)))
  (sSet 1 (mC (.str "text")))
  sNil)
  (sSeq (sIf (mNotT (mTru (mCall (F_law_same 8) (mCons (mCall F_law_told_v12 (mCons (mVar 10) mNil)) (mCons (mVar 1) mNil)))))
  (sRet (mC (.bl false)))
  sNil)
  thing05))))
@[irreducible] noncomputable def body05 : MS := (sSeq (sSet 6 (mCall F_law_pot (mCons (mCall F_law_cell_at (mCons (mVar 0) (mCons (mVar 2) mNil))) mNil)))
  (sSeq line05
  (sSeq (sSet 7 (mCall F_law_line_text_v3 (mCons (mVar 3) mNil)))
  (sSeq odA05
  (sSeq odB05
  (sSeq turns05
  back05))))))
@[irreducible] noncomputable def end05 : MS := (sRet (mBin fEq (mCall F_law_told_v12 (mCons (mC (.str "")) mNil)) (mC (.str "text"))))
theorem law05_is : b_law_k05 = (sSeq (sFor (mRange1 (mCons (mCallF fMax (mCons (mC (.int 1)) (mCons (mCallF fMin (mCons (mCallF fLen (mCons (mVar 0) mNil)) (mCons (mC (.int 40)) mNil))) mNil))) mNil)) (.one 2) [1, 2, 3, 4, 5, 6, 7, 8, 9, 10]
  body05)
  end05) := by
  unfold body05 back05 thing05 turns05 turn05 odB05 odA05 line05 end05
  rfl
def oe1 : List Str := ["", "2", "2^", "^2", "2^0", "4^1", "31^1", "2^1000000", "2^1000001", "2^01", "02^1", "1^1", "1*2^1"]
def oe2 : List Str := ["3^1*2^1", "2^1*2^1", "2^1*", "*2^1", "2^1 * 3^1", "2^-1", "2^1^1", "0", "11", "2*3"]
def oeS : List (List Nat) := (oe1 ++ oe2).map TL.tl
def sg05 : List Nat := TL.tl (Str.ofString " *^0123456789-")
theorem oeS_ok : oeS.length = 23 ∧ (oeS.all fun o => decide (o.length ≤ 100) && o.all fun c => decide (c < 128)) = true := by decide +kernel
theorem sg5_ok : sg05.length = 14 ∧ (sg05.all fun c => decide (c < 128)) = true := by decide +kernel
theorem oeS_is : sT oeS = .lst ((oe1 ++ oe2).map T.str) := by
  unfold sT oeS
  rw [List.map_map]
  congr 1
theorem lnN_get {es : List Nat} (l : es.length = 10) : es = lnN fun i => es.getD i 0 := by
  refine List.ext_getElem (by simp [l]) fun i h1 h2 => ?_
  simp [lnN, List.getD_eq_getElem?_getD, h1]
section
variable {h : Store} {n : Nat} {v w : Int} {a : List Nat} {e : Nat → Nat} {P : Pst} {x t : T} {x0 x1 x2 x3 x4 x5 x7 x8 x9 x10 : Option T}
theorem line05_wp (p : potAt h n v) (q : ∀ (e : Nat → Nat) w, 0 ≤ w → mil e → P.nx [x0, x1, x2, some (.tup ((lnN e).map tN)), x4, x5, some (.loc n), x7, x8, x9, x10] (pst h n w)) :
    (line05 [x0, x1, x2, x3, x4, x5, some (.loc n), x7, x8, x9, x10] h).wp P := by
  have hn := p.lt
  have pw : ∀ S, fPow (.int 10) (.int 6) S = some (.int 1000000) := fun S => rfl
  have i2 : ∀ {α : Type} (u v : α), (if 0 + 1 + 1 ≤ 10000 then u else v) = u := fun u v => if_pos (by decide)
  unfold line05
  simp -implicitDefEqProofs only [q2_set, q1_call, q1_cons, q1_nil, q1_var, List.getElem?_cons_zero, List.getElem?_cons_succ, bind_ok, so_bindE, wp_bind]
  refine places_wp p fun ps w w0 e0 e1 e2 => ?_
  have t1 := take_1 (h := h) (n := n) (v := w) (far := 2) hn w0 (by omega) (by omega)
  have w1 : 0 ≤ w / 2 := by omega
  obtain ⟨most, hm, ix⟩ : ∃ most : Nat, most ≤ 1000000 ∧ fIdx (.lst [.int 9, .int 1000000]) (.int (w % 2)) (pst h n (w / 2)) = some (tN most) := by
    by_cases c : w % 2 = 0
    · exact ⟨9, by omega, by rw [c, q3_idxL]; rfl⟩
    · exact ⟨1000000, by omega, by rw [show w % 2 = 1 by omega, q3_idxL]; rfl⟩
  simp -implicitDefEqProofs only [q1_bin, q1_frz, q1_lst, q1_cons, q1_nil, q1_call, q1_var, q1_C, List.getElem?_cons_zero, List.getElem?_cons_succ, bind_ok, pw, ofO_some, List.length_cons, List.length_nil, i2, t1, ix, wp_ok, wp_bind]
  refine lineB_wp (potAt.old hn w1) (by omega) e2 hm fun es w w0 l1 l2 => ?_
  have ee := lnN_get l1
  rw [pst_pst]
  simp -implicitDefEqProofs only [wp_ok, so_nx, List.set]
  rw [ee]
  refine q _ w w0 fun i hi => ?_
  have := l2 (es.getD i 0) (by
    rw [List.getD_eq_getElem?_getD, List.getElem?_eq_getElem (by rw [l1]; exact hi)]
    exact List.getElem_mem _)
  show es.getD i 0 ≤ _
  omega
theorem odA5_eq : odA05 [x0, x1, x2, x3, x4, x5, some (.loc n), x7, x8, x9, x10] h = .nx [x0, x1, x2, x3, some (.lst (oe1.map T.str)), x5, some (.loc n), x7, x8, x9, x10] h := by
  have i13 : ∀ {α : Type} (u v : α), (if 0 + 1 + 1 + 1 + 1 + 1 + 1 + 1 + 1 + 1 + 1 + 1 + 1 + 1 ≤ 10000 then u else v) = u := fun u v => if_pos (by decide)
  unfold odA05
  simp -implicitDefEqProofs only [q2_set, q1_frz, q1_lst, q1_cons, q1_nil, q1_C, List.set, bind_ok, List.length_cons, List.length_nil, i13, bindE_ok]
  rfl
theorem odB5_eq : odB05 [x0, x1, x2, x3, some (.lst (oe1.map T.str)), x5, some (.loc n), x7, x8, x9, x10] h = .nx [x0, x1, x2, x3, some (sT oeS), x5, some (.loc n), x7, x8, x9, x10] h := by
  have i10 : ∀ {α : Type} (u v : α), (if 0 + 1 + 1 + 1 + 1 + 1 + 1 + 1 + 1 + 1 + 1 ≤ 10000 then u else v) = u := fun u v => if_pos (by decide)
  have a1 : fAdd (.lst (oe1.map T.str)) (.lst (oe2.map T.str)) h = some (.lst ((oe1 ++ oe2).map T.str)) := by rw [add_lst (by decide), ← List.map_append]
  rw [← oeS_is] at a1
  generalize T.lst (oe1.map T.str) = M1 at a1 ⊢
  simp only [oe2, List.map_cons, List.map_nil] at a1
  unfold odB05
  simp -implicitDefEqProofs only [q2_set, q1_frz, q1_lst, q1_cons, q1_nil, q1_C, q1_bin, q1_var, List.set, List.getElem?_cons_zero, List.getElem?_cons_succ, bind_ok, List.length_cons, List.length_nil, i10, bindE_ok, ofO_some, a1]
theorem ask05_wp {k : MS} {env : Env'} {S : Store} {i j : Nat} (h0 : env.length = 11) (hj : j < 11) (ij : i ≠ j) (ei : env[i]? = some (some (.str (SX.S a)))) (ga : a.length ≤ 900) (as : ∀ c ∈ a, c < 128)
    (q : ∀ y, (k (env.set j (some y)) S).wp P) :
    ((sSeq (sSet j (mCall F_law_line_due (mCons (mVar i) mNil))) (sSeq (sIf (mTst (mBin fIs (mVar j) (mC .non))) (sSet j (mC (.str "text"))) sNil) (sSeq (sIf (mNotT (mTru (mCall (F_law_same 8) (mCons (mCall F_law_told_v12 (mCons (mVar i) mNil)) (mCons (mVar j) mNil))))) (sRet (mC (.bl false))) sNil) k))) env S).wp P := by
  have du := due5_any (h := S) ga as
  have tl := told5_any (h := S) ga
  have sm : F_law_same 8 [told5T a, told5T a] S = .ok (.bl true) S := same_eq toldA_ok5
  have g1 : ∀ y, (env.set j (some y))[j]? = some (some y) := fun y => by rw [List.getElem?_set_self (by omega)]
  have g2 : ∀ y, (env.set j (some y))[i]? = some (some (.str (SX.S a))) := fun y => by rw [List.getElem?_set_ne (Ne.symm ij)]; exact ei
  rcases due_told (a := a) with ⟨e1, e2⟩ | ⟨f, e1, e2⟩
  · rw [e2] at tl sm
    have isn : fIs .non .non S = some (.bl true) := rfl
    simp -implicitDefEqProofs only [q2_seq, q2_set, q1_call, q1_cons, q1_nil, q1_var, ei, bind_ok, du, e1, bindE_ok, seq_nx, q2_if, q1_tst, q1_bin, g1, g2, q1_C, isn, ofO_some, asB_bl, if_true, List.set_set, q1_notT, q1_tru, tl, sm, truF_bl, Bool.not_true, Bool.false_eq_true, if_false, q2_nil]
    exact q _
  · rw [e2] at tl sm
    have isn : fIs (.tup ((lnN f).map tN)) .non S = some (.bl false) := rfl
    simp -implicitDefEqProofs only [q2_seq, q2_set, q1_call, q1_cons, q1_nil, q1_var, ei, bind_ok, du, e1, bindE_ok, seq_nx, q2_if, q1_tst, q1_bin, g1, g2, q1_C, isn, ofO_some, asB_bl, if_true, List.set_set, q1_notT, q1_tru, tl, sm, truF_bl, Bool.not_true, Bool.false_eq_true, if_false, q2_nil]
    exact q _
theorem ask05e_wp {env : Env'} {S : Store} {i j : Nat} (h0 : env.length = 11) (hj : j < 11) (ij : i ≠ j) (ei : env[i]? = some (some (.str (SX.S a)))) (ga : a.length ≤ 900) (as : ∀ c ∈ a, c < 128)
    (q : ∀ y, P.nx (env.set j (some y)) S) :
    ((sSeq (sSet j (mCall F_law_line_due (mCons (mVar i) mNil))) (sSeq (sIf (mTst (mBin fIs (mVar j) (mC .non))) (sSet j (mC (.str "text"))) sNil) (sIf (mNotT (mTru (mCall (F_law_same 8) (mCons (mCall F_law_told_v12 (mCons (mVar i) mNil)) (mCons (mVar j) mNil))))) (sRet (mC (.bl false))) sNil))) env S).wp P := by
  have du := due5_any (h := S) ga as
  have tl := told5_any (h := S) ga
  have sm : F_law_same 8 [told5T a, told5T a] S = .ok (.bl true) S := same_eq toldA_ok5
  have g1 : ∀ y, (env.set j (some y))[j]? = some (some y) := fun y => by rw [List.getElem?_set_self (by omega)]
  have g2 : ∀ y, (env.set j (some y))[i]? = some (some (.str (SX.S a))) := fun y => by rw [List.getElem?_set_ne (Ne.symm ij)]; exact ei
  rcases due_told (a := a) with ⟨e1, e2⟩ | ⟨f, e1, e2⟩
  · rw [e2] at tl sm
    have isn : fIs .non .non S = some (.bl true) := rfl
    simp -implicitDefEqProofs only [q2_seq, q2_set, q1_call, q1_cons, q1_nil, q1_var, ei, bind_ok, du, e1, bindE_ok, seq_nx, q2_if, q1_tst, q1_bin, g1, g2, q1_C, isn, ofO_some, asB_bl, if_true, List.set_set, q1_notT, q1_tru, tl, sm, truF_bl, Bool.not_true, Bool.false_eq_true, if_false, q2_nil]
    exact q _
  · rw [e2] at tl sm
    have isn : fIs (.tup ((lnN f).map tN)) .non S = some (.bl false) := rfl
    simp -implicitDefEqProofs only [q2_seq, q2_set, q1_call, q1_cons, q1_nil, q1_var, ei, bind_ok, du, e1, bindE_ok, seq_nx, q2_if, q1_tst, q1_bin, g1, g2, q1_C, isn, ofO_some, asB_bl, if_true, List.set_set, q1_notT, q1_tru, tl, sm, truF_bl, Bool.not_true, Bool.false_eq_true, if_false, q2_nil]
    exact q _
theorem turn05_wp (hn : n < h.length) (w0 : 0 ≤ w) (gt : Gd9 290 a) (q : ∀ y1 y5 w, 0 ≤ w → P.nx [x0, y1, none, x3, some (sT oeS), y5, some (.loc n), some (.str (SX.S a)), none, x9, none] (pst h n w)) :
    (turn05 [x0, none, none, x3, some (sT oeS), none, some (.loc n), some (.str (SX.S a)), none, x9, none] (pst h n w)).wp P := by
  have sgs : Str.ofString " *^0123456789-" = SX.S sg05 := (SX.S_tl _).symm
  unfold turn05
  rw [sgs, q2_seq]
  simp -implicitDefEqProofs only [q2_set, q1_call, q1_cons, q1_nil, q1_var, q1_C, List.getElem?_cons_zero, List.getElem?_cons_succ, bind_ok, so_seq, so_bindE, wp_bind]
  refine bent_wp (potAt.old hn w0) gt (fun z => by have := sg5_ok.1; rw [z] at this; simp at this) ⟨by have := sg5_ok.1; omega, fun c hc => of_decide_eq_true (List.all_eq_true.mp sg5_ok.2 c hc)⟩ (fun z => by have := oeS_ok.1; rw [z] at this; simp at this) (by have := oeS_ok.1; omega) (fun o ho => by
    have := List.all_eq_true.mp oeS_ok.2 o ho
    rw [Bool.and_eq_true, decide_eq_true_eq] at this
    exact ⟨this.1, fun c hc => of_decide_eq_true (List.all_eq_true.mp this.2 c hc)⟩) fun x w w0 gx => ?_
  rw [pst_pst]
  simp -implicitDefEqProofs only [wp_ok, so_nx, List.set]
  exact ask05e_wp rfl (by decide) (by decide) rfl gx.1 gx.2 fun y => q _ _ w w0
theorem turns05_wp (hn : n < h.length) (w0 : 0 ≤ w) (gt : Gd9 290 a) (q : ∀ w, 0 ≤ w → P.nx [x0, none, none, x3, some (sT oeS), none, some (.loc n), some (.str (SX.S a)), none, none, none] (pst h n w)) :
    (turns05 [x0, x1, x2, x3, some (sT oeS), x5, some (.loc n), some (.str (SX.S a)), x8, x9, x10] (pst h n w)).wp P := by
  unfold turns05
  rw [sFor_of (range_of (h1 := pst h n w) (e := 2) (by simp -implicitDefEqProofs only [q1_cons, q1_C, q1_nil, bind_ok]; rfl) (by omega))]
  refine forLoop_wp _ (fun i env h' => ∃ w, 0 ≤ w ∧ env = [x0, none, none, x3, some (sT oeS), none, some (.loc n), some (.str (SX.S a)), none, none, none] ∧ h' = pst h n w) ?_ ?_ ⟨w, w0, by simp, rfl⟩
  · rintro i y env h' hy ⟨w, w0, rfl, rfl⟩
    obtain ⟨rfl, hi⟩ := range_at hy
    refine ⟨by simp, _, b_one, ?_⟩
    exact turn05_wp hn w0 gt fun y1 y5 w w0 => ⟨w, w0, rfl, rfl⟩
  · rintro env h' ⟨w, w0, rfl, rfl⟩
    exact ⟨by simp, q w w0⟩
theorem thing05_wp (hn : n < h.length) (w0 : 0 ≤ w) (k : mil e) (q : ∀ y8 h', P.nx [x0, x1, x2, some (.tup ((lnN e).map tN)), x4, x5, some (.loc n), some (.str (lineS e)), y8, x9, x10] h') :
    (thing05 [x0, x1, x2, some (.tup ((lnN e).map tN)), x4, x5, some (.loc n), some (.str (lineS e)), x8, x9, x10] (pst h n w)).wp P := by
  obtain ⟨r, r1, e1⟩ := take_ev (far := 7) hn w0 (by omega) (by omega)
  have i1 : ∀ {α : Type} (u v : α), (if 0 + 1 ≤ 10000 then u else v) = u := fun u v => if_pos (by decide)
  have i7 : ∀ {α : Type} (u v : α), (if 0 + 1 + 1 + 1 + 1 + 1 + 1 + 1 ≤ 10000 then u else v) = u := fun u v => if_pos (by decide)
  obtain ⟨t, ix, it⟩ : ∃ t, fIdx (.lst [.non, .int 2, .bl true, .lst [.str (lineS e)], .tup [.str (lineS e)], .emp, .tup ((lnN e).map tN)]) (.int (r : Int)) (pst h n (w / ((7 : Nat) : Int))) = some t ∧ fIsi "str" t (pst h n (w / ((7 : Nat) : Int))) = some (.bl false) := by
    match r, r1 with
    | 0, _ => exact ⟨_, by rw [q3_idxL]; rfl, rfl⟩
    | 1, _ => exact ⟨_, by rw [q3_idxL]; rfl, rfl⟩
    | 2, _ => exact ⟨_, by rw [q3_idxL]; rfl, rfl⟩
    | 3, _ => exact ⟨_, by rw [q3_idxL]; rfl, rfl⟩
    | 4, _ => exact ⟨_, by rw [q3_idxL]; rfl, rfl⟩
    | 5, _ => exact ⟨_, by rw [q3_idxL]; rfl, rfl⟩
    | 6, _ => exact ⟨_, by rw [q3_idxL]; rfl, rfl⟩
  have t1 := told5_thing it
  have t2 := told5_of (h := pst h n (w / ((7 : Nat) : Int))) (read_pow k) (by rw [pu_tup]; exact pus_tN)
  have s1 : F_law_same 8 [.tup ((lnN e).map tN), .tup ((lnN e).map tN)] (pst h n (w / ((7 : Nat) : Int))) = .ok (.bl true) (pst h n (w / ((7 : Nat) : Int))) := same_eq (so10 e)
  have ne : ∀ S, fNe (.str "text") (.str "text") S = some (.bl false) := fun S => by
    show some (T.bl (!decide (_ = _))) = _
    rw [decide_eq_true rfl]
    rfl
  unfold thing05
  generalize lineS e = A at ix t2 q ⊢
  generalize T.tup ((lnN e).map tN) = B at ix t2 s1 q ⊢
  simp -implicitDefEqProofs only [q2_seq, q2_set, q2_if, q1_bin, q1_frz, q1_lst, q1_cons, q1_nil, q1_tup, q1_C, q1_var, q1_emp, q1_call, q1_orT, q1_notT, q1_tst, q1_tru, List.set, List.getElem?_cons_zero, List.getElem?_cons_succ, bind_ok, List.length_cons, List.length_nil, i1, i7, show T.int 7 = T.int ((7 : Nat) : Int) from rfl, e1, ix, ofO_some, bindE_ok, seq_nx, t1, ne, asB_bl, Bool.false_eq_true, if_false, t2, s1, truF_bl, Bool.not_true, q2_nil]
  exact q _ _
theorem back05_wp (hn : n < h.length) (w0 : 0 ≤ w) (k : mil e) (q : ∀ y1 y8 y10 h', P.nx [x0, y1, x2, some (.tup ((lnN e).map tN)), x4, x5, some (.loc n), some (.str (lineS e)), y8, x9, y10] h') :
    (back05 [x0, x1, x2, some (.tup ((lnN e).map tN)), x4, x5, some (.loc n), some (.str (lineS e)), x8, x9, x10] (pst h n w)).wp P := by
  obtain ⟨a, ea, ga⟩ := lineS_gd k
  have tv := turn_ev (h := pst h n w) (a := a) (env := [x0, x1, x2, some (.tup ((lnN e).map tN)), x4, x5, some (.loc n), some (.str (SX.S a)), x8, x9, x10]) (i := 7) rfl ga (by omega)
  rw [← ea] at tv
  have gv := turn_gd ga
  unfold back05
  rw [q2_seq, q2_set, tv, bindE_ok, seq_nx]
  simp -implicitDefEqProofs only [List.set]
  refine ask05_wp (i := 10) (j := 1) rfl (by decide) (by decide) rfl (by have := gv.1; omega) gv.2 fun y => ?_
  simp -implicitDefEqProofs only [List.set]
  exact thing05_wp hn w0 k fun y8 h2 => q _ _ _ _
end
theorem law05 (ns : List Int) : ∃ h', F_law_k05 [.scr ns] [] = .ok (.bl true) h' := by
  have w : (F_law_k05 [.scr ns] []).wp (fun t _ => t = .bl true) (fun _ _ => False) := by
    obtain ⟨b, hb⟩ : ∃ b, b = b_law_k05 := ⟨_, rfl⟩
    have eb : F_law_k05 = fn 1 11 false b := by rw [hb]; rfl
    rw [eb]
    refine fn_wp rfl ?_
    show (b [some (.scr ns), none, none, none, none, none, none, none, none, none, none] []).wp _
    have lim : ∃ m : Int, 1 ≤ m ∧ m ≤ 40 ∧ (if 1 < (if (40 : Int) < ns.length then 40 else (ns.length : Int)) then (if (40 : Int) < ns.length then 40 else (ns.length : Int)) else 1) = m := ⟨_, by split <;> split <;> omega, by split <;> split <;> omega, rfl⟩
    obtain ⟨m, m1, m2, em⟩ := lim
    have src : mRange1 (mCons (mCallF fMax (mCons (mC (.int 1)) (mCons (mCallF fMin (mCons (mCallF fLen (mCons (mVar 0) mNil)) (mCons (mC (.int 40)) mNil))) mNil))) mNil) [some (.scr ns), none, none, none, none, none, none, none, none, none, none] [] = .ok ⟨Sm.rangeT 0 m.toNat, []⟩ [] := by
      simp -implicitDefEqProofs (disch := first | omega | simp)
      rw [em, asR1_ok (by omega) (by omega)]
    rw [hb, law05_is, q2_seq, so_seq, sFor_of src]
    refine forLoop_wp _ (fun i env h' => env = [some (.scr ns), none, none, none, none, none, none, none, none, none, none]) ?_ ?_ rfl
    · rintro i x env h' hx rfl
      obtain ⟨rfl, hi⟩ := range_at hx
      refine ⟨by simp, _, b_one, ?_⟩
      unfold body05
      obtain ⟨v, hv⟩ := cell_eq (h := h') (ns := ns) (k := (i : Int)) (by omega)
      simp -implicitDefEqProofs only [List.set, q2_seq, q2_set, so_seq, so_bindE, q1_call, q1_cons, q1_var, q1_nil, List.getElem?_cons_zero, List.getElem?_cons_succ, bind_ok, Int.zero_add, hv, wp_bind]
      refine pot_ok fun v v0 => ?_
      have p : potAt (h' ++ [.lst [.int v]]) h'.length v := ⟨by simp, v0⟩
      have hn := p.lt
      generalize h' ++ [.lst [.int v]] = h1 at p hn ⊢
      generalize h'.length = n at p hn ⊢
      simp -implicitDefEqProofs only [wp_ok, so_nx, List.set]
      refine line05_wp p fun e w w0 k => ?_
      have tx := line_text_eq (h := pst h1 n w) k.sm
      obtain ⟨a, ea, ga⟩ := lineS_gd k
      simp -implicitDefEqProofs only [q1_call, q1_cons, q1_var, q1_nil, List.getElem?_cons_zero, List.getElem?_cons_succ, bind_ok, text3_is, tx, wp_ok, so_nx, so_bindE, List.set]
      show (odA05 _ _).wp _
      rw [odA5_eq]
      show (odB05 _ _).wp _
      rw [odB5_eq]
      show (turns05 _ _).wp _
      rw [ea]
      refine turns05_wp hn w0 ga fun w w0 => ?_
      rw [← ea]
      exact back05_wp hn w0 k fun y1 y8 y10 h2 => rfl
    · rintro env h' rfl
      refine ⟨by simp, ?_⟩
      have te := told5_any (h := h') (a := []) (by simp)
      have tz : told5T [] = .str "text" := by
        unfold told5T
        rw [show rdA [] = none from by decide +kernel]
      rw [tz] at te
      have eq : fEq (.str "text") (.str "text") h' = some (.bl true) := by rw [q3_eqS, decide_eq_true rfl]
      unfold end05
      rw [s_e]
      simp -implicitDefEqProofs only [q2_ret, q1_bin, q1_call, q1_cons, q1_nil, q1_C, bind_ok, te, eq, ofO_some, bindE_ok, so_rt]
      exact ⟨si_nil, .inl ⟨rfl, rfl⟩⟩
  revert w
  cases F_law_k05 [.scr ns] [] with
  | ok t h' => exact fun e => ⟨h', by rw [show t = _ from e]⟩
  | ex e h' => exact fun z => z.elim
  | bad => exact fun z => z.elim
end Gd
theorem PySem.Challenge.cw_wholefract_k05_texts_of_no_powers_holds : PySem.Challenge.rw_wholefract_k05_texts_of_no_powers.Holds := by
  exact K05.walk fun ns _ => Gd.law05 ns
