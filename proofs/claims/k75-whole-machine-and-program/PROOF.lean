import PyProof.Rows.All
import Wide.All
import OpenK.AllK
import Wide.FinOn
import HandS.ForMost
import HandS.Walk
import HandS.Exc
import HandS.ExcOwn
import HandS.ExcCtx
import HandS.WordsExc
import HandS.HeadHook1
import HandS.IsInst
import HandS.TupLe
import HandS.TupAny
import HandS.TupMul
import HandS.Wide
import HandS.Zip
import KE.GoesMore
import KE.GoesEnum
import KE.GoesZip
import HandS.Codes
import HandS.Deep
import KE.KTupSum
import KE.DatumOrd
import HandS.NoneIn
import HandS.More
import HandS.Head0
import HandS.Head1
import HandS.Head2
import HandS.HeadEnd
import HandS.HeadHook2
import HandS.HeadHook4
import HandS.Conv
import HandS.Dict
import HandS.ExcInit
import HandS.ClsMeth
import HandS.HotCalls
import HandS.ExcIs
import HandS.ExcField
import HandS.SetFor
import KE.KExcIs
import HandS.TupSets
import HandS.Style
import HandS.TupLen
import HandS.SetKeys
import PyProof.DictMoreH
import HandS.Strs
import PyProof.Rows.SetFrom
import KE.KDictWalk
import HandS.RevRange
import HandS.WideBits
import KE.KIndexOf
import PyProof.Rows.Range3
import HandS.Text
import PyProof.StrOps2
import PyProof.DictRoadsH
import HandS.RaiseMore
import HandS.FStrTup
import PyProof.StrHeap
import HandS.Flow
import HandS.HeadHook3
import PyProof.MeetsDict
import KE.KEqDict
import HandS.EndTab
import PySem.Challenge.RW_wholefract_k75_whole_machine_and_program
set_option Elab.async false
set_option linter.all false
set_option maxRecDepth 100000
namespace Sm
open PySem PySem.Spec PyProof.Rows L2
inductive T where
  | non | bl (b : Bool) | int (i : Int) | str (x : Str) | tup (xs : List T) | lst (xs : List T) | loc (n : Nat)
  /-- the law's script -/
  | scr (ns : List Int)
  /-- an empty dict that nothing changes -/
  | emp
  /-- the exception in hand: its place, its dict's, with one field (or none) -/
  | adr (a d : Addr) (f : Str) (ts : List T)
  /-- a def of the module, by its name -/
  | fnc (x : Str)
  /-- some text -/
  | unk
  /-- a dict by texts that nothing changes any more: an empty text and its keys, what stands there; without any key: a tuple that is known to have no dict of its own -/
  | dct (ks : List Str) (ts : List T)
inductive Cell where
  | lst (xs : List T)
  | dK (kvs : List (Key × T))
  /-- a dict by rows of whole numbers -/
  | dT (kvs : List (List Int × T))
  /-- what was a cell and is fixed now -/
  | dead
  | ins (c : Nat) (fs : List (Str × T))
  /-- the table of a def's code objects, its place, what each code object of it is -/
  | tab (P : Addr) (F : Addr → HO)
abbrev Store := List Cell
abbrev Env' := List (Option T)
inductive Ex where
  | txt (c : Nat) | fld (c : Nat) (f : Str) (t : T)
inductive Out (α : Type) where
  | ok (a : α) (h : Store) | ex (e : Ex) (h : Store) | bad
abbrev M (α : Type) := Env' → Store → Out α
def Out.bind {α β : Type} : Out α → (α → Store → Out β) → Out β
  | .ok a h, k => k a h
  | .ex e h, _ => .ex e h
  | .bad, _ => .bad
@[simp] theorem bind_ok {α β : Type} (a : α) (h : Store) (k : α → Store → Out β) : (Out.ok a h).bind k = k a h := rfl
@[simp] theorem bind_ex {α β : Type} (e : Ex) (h : Store) (k : α → Store → Out β) : (Out.ex e h).bind k = .ex e h := rfl
@[simp] theorem bind_bad {α β : Type} (k : α → Store → Out β) : Out.bad.bind k = .bad := rfl
def Out.ofO {α : Type} : Option α → Store → Out α
  | some a, h => .ok a h
  | none, _ => .bad
@[simp] theorem ofO_some {α : Type} (a : α) (h : Store) : Out.ofO (some a) h = .ok a h := rfl
@[simp] theorem ofO_none {α : Type} (h : Store) : (Out.ofO none h : Out α) = .bad := rfl
mutual
def T.pu : T → Bool
  | .loc _ => false
  | .adr _ _ _ _ => false
  | .fnc _ => false
  | .tup xs => pus xs
  | .lst xs => pus xs
  | .dct _ ts => pus ts
  | _ => true
def pus : List T → Bool
  | [] => true
  | x :: r => x.pu && pus r
end
structure Wd where
  rho : List Addr
  Phi : Hp
def SqF (K : PySem.W.Frag) (H : Hp) (p : Addr) (vs : List V) : Prop := (∃ o, H p = some (.frz o (.tup vs)) ∧ o.dict = none) ∨
  ∃ (o : Obj) (its : Array Value) (n : Nat), K.lookup p = some o ∧ (o.cls = .type "tuple" ∧ o.dict = none) ∧ o.data = .seq its n ∧ its.size ≤ sizeLine ∧ Vals vs its.toList
def FixR (K : PySem.W.Frag) (H : Hp) (p : Addr) (ks : List Str) (vs : List V) (n : Nat) : Prop := (∃ o, H p = some (.frz o (.dK ((ks.tail.map Sum.inr).zip vs))) ∧ ks.length = n + 1) ∨ (ks = [] ∧ SqF K H p vs)
mutual
def Rep (K : PySem.W.Frag) (ω : Wd) : T → V → Prop
  | .non, v => v = .non
  | .bl b, v => v = .bl b
  | .int i, v => v = .int i
  | .str s, v => v = .str s
  | .tup xs, v => ∃ p vs, v = .ref p ∧ SqT K ω.Phi p vs ∧ Reps K ω xs vs
  | .lst xs, v => ∃ p vs, v = .ref p ∧ ω.Phi p = some (.lst vs) ∧ Reps K ω xs vs
  | .loc n, v => ∃ p, v = .ref p ∧ ω.rho[n]? = some p
  | .scr ns, v => ∃ p, v = .ref p ∧ SqL K ω.Phi p (ns.map V.int)
  | .emp, v => ∃ p, v = .ref p ∧ ω.Phi p = some (.dK [])
  | .adr a d f ts, v => v = .ref a ∧ ∃ ws, (ts ≠ [] → ω.Phi d = some (.xd ([f].zip ws))) ∧ Reps K ω ts ws
  | .fnc x, v => v = .ref (He.ga K x)
  | .unk, v => ∃ z : Str, v = .str z
  | .dct ks ts, v => ∃ p vs, v = .ref p ∧ FixR K ω.Phi p ks vs ts.length ∧ Reps K ω ts vs
def Reps (K : PySem.W.Frag) (ω : Wd) : List T → List V → Prop
  | [], vs => vs = []
  | x :: r, vs => ∃ v vr, vs = v :: vr ∧ Rep K ω x v ∧ Reps K ω r vr
end
structure Gr (ω ω' : Wd) : Prop where
  pre : ω.rho <+: ω'.rho
  phi : ∀ a o, ω.Phi a = some o → ω'.Phi a = some o
theorem Gr.refl (ω : Wd) : Gr ω ω := ⟨List.prefix_refl _, fun _ _ h => h⟩
theorem Gr.trans {ω ω1 ω2 : Wd} (a : Gr ω ω1) (b : Gr ω1 ω2) : Gr ω ω2 := ⟨a.pre.trans b.pre, fun x o h => b.phi x o (a.phi x o h)⟩
theorem rd_mono {H H' : Hp} {p : Addr} {u : HO} (m : ∀ a o, H a = some o → H' a = some o) (r : Rd H p u) : Rd H' p u := by
  rcases r with r | ⟨o, r⟩
  · exact .inl (m _ _ r)
  · exact .inr ⟨o, m _ _ r⟩
theorem sqT_mono {K : PySem.W.Frag} {H H' : Hp} {p : Addr} {vs : List V} (m : ∀ a o, H a = some o → H' a = some o) (r : SqT K H p vs) : SqT K H' p vs := by
  rcases r with r | r
  · exact .inl (rd_mono m r)
  · exact .inr r
theorem fixR_mono {K : PySem.W.Frag} {H H' : Hp} {p : Addr} {ks : List Str} {vs : List V} {n : Nat} (m : ∀ a o, H a = some o → H' a = some o) (r : FixR K H p ks vs n) : FixR K H' p ks vs n := by
  rcases r with ⟨o, r, l⟩ | ⟨e, ⟨o, r, d⟩ | r⟩
  · exact .inl ⟨o, m _ _ r, l⟩
  · exact .inr ⟨e, .inl ⟨o, m _ _ r, d⟩⟩
  · exact .inr ⟨e, .inr r⟩
theorem sqL_mono {K : PySem.W.Frag} {H H' : Hp} {p : Addr} {vs : List V} (m : ∀ a o, H a = some o → H' a = some o) (r : SqL K H p vs) : SqL K H' p vs := by
  rcases r with r | r
  · exact .inl (rd_mono m r)
  · exact .inr r
section
variable {K : PySem.W.Frag} {ω ω' : Wd}
mutual
theorem Rep.mono (g : Gr ω ω') : ∀ {t : T} {v : V}, Rep K ω t v → Rep K ω' t v
  | .non, _, h => by simpa only [Rep] using h
  | .bl _, _, h => by simpa only [Rep] using h
  | .int _, _, h => by simpa only [Rep] using h
  | .str _, _, h => by simpa only [Rep] using h
  | .tup xs, _, h => by
    simp only [Rep] at h ⊢
    obtain ⟨p, vs, e, s, r⟩ := h
    exact ⟨p, vs, e, sqT_mono g.phi s, Reps.mono g r⟩
  | .lst xs, _, h => by
    simp only [Rep] at h ⊢
    obtain ⟨p, vs, e, s, r⟩ := h
    exact ⟨p, vs, e, g.phi _ _ s, Reps.mono g r⟩
  | .loc n, _, h => by
    simp only [Rep] at h ⊢
    obtain ⟨p, e, s⟩ := h
    obtain ⟨r, q⟩ := g.pre
    refine ⟨p, e, ?_⟩
    rw [← q, List.getElem?_append_left]
    · exact s
    · exact (List.getElem?_eq_some_iff.mp s).1
  | .scr ns, _, h => by
    simp only [Rep] at h ⊢
    obtain ⟨p, e, s⟩ := h
    exact ⟨p, e, sqL_mono g.phi s⟩
  | .fnc _, _, h => by simpa only [Rep] using h
  | .unk, _, h => by simpa only [Rep] using h
  | .adr a d f ts, _, h => by
    simp only [Rep] at h ⊢
    obtain ⟨e, ws, c, r⟩ := h
    exact ⟨e, ws, fun n => g.phi _ _ (c n), Reps.mono g r⟩
  | .emp, _, h => by
    simp only [Rep] at h ⊢
    obtain ⟨p, e, s⟩ := h
    exact ⟨p, e, g.phi _ _ s⟩
  | .dct ks ts, _, h => by
    simp only [Rep] at h ⊢
    obtain ⟨p, vs, e, s, r⟩ := h
    exact ⟨p, vs, e, fixR_mono g.phi s, Reps.mono g r⟩
theorem Reps.mono (g : Gr ω ω') : ∀ {ts : List T} {vs : List V}, Reps K ω ts vs → Reps K ω' ts vs
  | [], _, h => by simpa only [Reps] using h
  | x :: r, _, h => by
    simp only [Reps] at h ⊢
    obtain ⟨v, vr, e, a, b⟩ := h
    exact ⟨v, vr, e, Rep.mono g a, Reps.mono g b⟩
end
theorem Reps.length : ∀ {ts : List T} {vs : List V}, Reps K ω ts vs → ts.length = vs.length
  | [], _, h => by simp only [Reps] at h; rw [h]; rfl
  | x :: r, _, h => by
    simp only [Reps] at h
    obtain ⟨v, vr, e, a, b⟩ := h
    rw [e, List.length_cons, List.length_cons, Reps.length b]
theorem Reps.get : ∀ {ts : List T} {vs : List V} {i : Nat} {t : T}, Reps K ω ts vs → ts[i]? = some t → ∃ v, vs[i]? = some v ∧ Rep K ω t v
  | [], _, _, _, _, e => by simp at e
  | x :: r, _, i, t, h, e => by
    simp only [Reps] at h
    obtain ⟨v, vr, rfl, a, b⟩ := h
    cases i with
    | zero =>
      have e' : x = t := by simpa using e
      subst e'
      exact ⟨v, rfl, a⟩
    | succ i =>
      have e' : r[i]? = some t := by simpa using e
      obtain ⟨w, h1, h2⟩ := Reps.get b e'
      exact ⟨w, by simpa using h1, h2⟩
theorem Reps.getV : ∀ {ts : List T} {vs : List V} {i : Nat} {v : V}, Reps K ω ts vs → vs[i]? = some v → ∃ t, ts[i]? = some t ∧ Rep K ω t v
  | [], _, _, _, h, e => by simp only [Reps] at h; subst h; simp at e
  | x :: r, _, i, t, h, e => by
    simp only [Reps] at h
    obtain ⟨v, vr, rfl, a, b⟩ := h
    cases i with
    | zero =>
      have e' : v = t := by simpa using e
      subst e'
      exact ⟨x, rfl, a⟩
    | succ i =>
      have e' : vr[i]? = some t := by simpa using e
      obtain ⟨w, h1, h2⟩ := Reps.getV b e'
      exact ⟨w, by simpa using h1, h2⟩
theorem Reps.append : ∀ {ts us : List T} {vs ws : List V}, Reps K ω ts vs → Reps K ω us ws → Reps K ω (ts ++ us) (vs ++ ws)
  | [], _, _, _, h, q => by simp only [Reps] at h; subst h; exact q
  | x :: r, us, _, ws, h, q => by
    simp only [Reps] at h
    obtain ⟨v, vr, rfl, a, b⟩ := h
    show Reps K ω (x :: (r ++ us)) _
    simp only [Reps]
    exact ⟨v, vr ++ ws, rfl, a, Reps.append b q⟩
theorem Reps.one {t : T} {v : V} (h : Rep K ω t v) : Reps K ω [t] [v] := by
  simp only [Reps]
  exact ⟨v, [], rfl, h, rfl⟩
theorem Reps.nil : Reps K ω [] [] := by simp only [Reps]
theorem Reps.cons {t : T} {ts : List T} {v : V} {vs : List V} (h : Rep K ω t v) (q : Reps K ω ts vs) : Reps K ω (t :: ts) (v :: vs) := by
  simp only [Reps]
  exact ⟨v, vs, rfl, h, q⟩
theorem Reps.inv {t : T} {ts : List T} {vs : List V} (h : Reps K ω (t :: ts) vs) : ∃ v vr, vs = v :: vr ∧ Rep K ω t v ∧ Reps K ω ts vr := by
  simpa only [Reps] using h
theorem Reps.nil_inv {vs : List V} (h : Reps K ω [] vs) : vs = [] := by simpa only [Reps] using h
theorem Reps.take (n : Nat) : ∀ {ts : List T} {vs : List V}, Reps K ω ts vs → Reps K ω (ts.take n) (vs.take n) := by
  induction n with
  | zero => intro ts vs _; exact Reps.nil
  | succ n ih =>
    intro ts vs h
    cases ts with
    | nil => simp only [Reps] at h; subst h; exact Reps.nil
    | cons x r =>
      obtain ⟨v, vr, rfl, a, b⟩ := h.inv
      exact Reps.cons a (ih b)
theorem Reps.drop (n : Nat) : ∀ {ts : List T} {vs : List V}, Reps K ω ts vs → Reps K ω (ts.drop n) (vs.drop n) := by
  induction n with
  | zero => intro ts vs h; exact h
  | succ n ih =>
    intro ts vs h
    cases ts with
    | nil => simp only [Reps] at h; subst h; exact Reps.nil
    | cons x r =>
      obtain ⟨v, vr, rfl, a, b⟩ := h.inv
      exact ih b
theorem Reps.set {t : T} {v : V} (h : Rep K ω t v) : ∀ (n : Nat) {ts : List T} {vs : List V}, Reps K ω ts vs → Reps K ω (ts.set n t) (vs.set n v) := by
  intro n
  induction n with
  | zero =>
    intro ts vs q
    cases ts with
    | nil => simp only [Reps] at q; subst q; exact Reps.nil
    | cons x r =>
      obtain ⟨w, vr, rfl, a, b⟩ := q.inv
      exact Reps.cons h b
  | succ n ih =>
    intro ts vs q
    cases ts with
    | nil => simp only [Reps] at q; subst q; exact Reps.nil
    | cons x r =>
      obtain ⟨w, vr, rfl, a, b⟩ := q.inv
      exact Reps.cons a (ih b)
mutual
theorem Rep.pure (m : ∀ a o, ω.Phi a = some o → ω'.Phi a = some o) : ∀ {t : T} {v : V}, t.pu = true → Rep K ω t v → Rep K ω' t v
  | .non, _, _, h => by simpa only [Rep] using h
  | .bl _, _, _, h => by simpa only [Rep] using h
  | .int _, _, _, h => by simpa only [Rep] using h
  | .str _, _, _, h => by simpa only [Rep] using h
  | .tup xs, _, hp, h => by
    simp only [Rep] at h ⊢
    simp only [T.pu] at hp
    obtain ⟨p, vs, e, s, r⟩ := h
    exact ⟨p, vs, e, sqT_mono m s, Reps.pure m hp r⟩
  | .lst xs, _, hp, h => by
    simp only [Rep] at h ⊢
    simp only [T.pu] at hp
    obtain ⟨p, vs, e, s, r⟩ := h
    exact ⟨p, vs, e, m _ _ s, Reps.pure m hp r⟩
  | .loc n, _, hp, h => by simp [T.pu] at hp
  | .scr ns, _, _, h => by
    simp only [Rep] at h ⊢
    obtain ⟨p, e, s⟩ := h
    exact ⟨p, e, sqL_mono m s⟩
  | .adr _ _ _ _, _, hp, h => by simp [T.pu] at hp
  | .fnc _, _, hp, h => by simp [T.pu] at hp
  | .unk, _, _, h => by simpa only [Rep] using h
  | .emp, _, _, h => by
    simp only [Rep] at h ⊢
    obtain ⟨p, e, s⟩ := h
    exact ⟨p, e, m _ _ s⟩
  | .dct ks ts, _, hp, h => by
    simp only [Rep] at h ⊢
    simp only [T.pu] at hp
    obtain ⟨p, vs, e, s, r⟩ := h
    exact ⟨p, vs, e, fixR_mono m s, Reps.pure m hp r⟩
theorem Reps.pure (m : ∀ a o, ω.Phi a = some o → ω'.Phi a = some o) : ∀ {ts : List T} {vs : List V}, pus ts = true → Reps K ω ts vs → Reps K ω' ts vs
  | [], _, _, h => by simpa only [Reps] using h
  | x :: r, _, hp, h => by
    simp only [Reps] at h ⊢
    simp only [pus, Bool.and_eq_true] at hp
    obtain ⟨v, vr, e, a, b⟩ := h
    exact ⟨v, vr, e, Rep.pure m hp.1 a, Reps.pure m hp.2 b⟩
end
end
theorem nodup_at {α : Type} {N : List α} (hN : N.Nodup) {i j : Nat} {x : α} (a : N[i]? = some x) (b : N[j]? = some x) : i = j := by
  exact (List.getElem?_inj (List.getElem?_eq_some_iff.mp a).1 hN).mp (a.trans b.symm)
def RepKV {κ : Type} (K : PySem.W.Frag) (ω : Wd) : List (κ × T) → List (κ × V) → Prop
  | [], l => l = []
  | (k, t) :: r, l => ∃ v lr, l = (k, v) :: lr ∧ Rep K ω t v ∧ RepKV K ω r lr
theorem RepKV.mono {κ : Type} {K : PySem.W.Frag} {ω ω' : Wd} (g : Gr ω ω') : ∀ {a : List (κ × T)} {b : List (κ × V)}, RepKV K ω a b → RepKV K ω' a b
  | [], _, h => h
  | (k, t) :: r, _, ⟨v, lr, e, h1, h2⟩ => ⟨v, lr, e, h1.mono g, RepKV.mono g h2⟩
def puKV {κ : Type} (l : List (κ × T)) : Bool := l.all fun p => p.2.pu
theorem RepKV.pure {κ : Type} {K : PySem.W.Frag} {ω ω' : Wd} (m : ∀ a o, ω.Phi a = some o → ω'.Phi a = some o) : ∀ {a : List (κ × T)} {b : List (κ × V)}, puKV a = true → RepKV K ω a b → RepKV K ω' a b
  | [], _, _, h => h
  | (k, t) :: r, _, hp, ⟨v, lr, e, h1, h2⟩ => by
    simp only [puKV, List.all_cons, Bool.and_eq_true] at hp
    exact ⟨v, lr, e, h1.pure m hp.1, RepKV.pure m hp.2 h2⟩
abbrev DRow := List Int × Addr × V
def entI (x : List Int × Addr × Value) : DictEntry := ⟨reduceHash (Builtin.Tuple.tupleHashOf (x.1.map hashInt)), .ref x.2.1, x.2.2⟩
def DXp (a : Addr) (l : List DRow) (h : Heap) : Prop := ∃ xs : List (List Int × Addr × Value), Paired (fun (p : DRow) (q : List Int × Addr × Value) => p.1 = q.1 ∧ p.2.1 = q.2.1 ∧ RelV p.2.2 q.2.2) l xs ∧
  ∃ o es ep, h.get? a = some o ∧ o.ExactDict ∧ o.data = .dict es ep ∧ es.toList = xs.map entI ∧ (xs.map (·.1)).Nodup
def DX (a : Addr) (l : List DRow) : HO := .ext (DXp a l)
def RepKT (K : PySem.W.Frag) (ω : Wd) : List (List Int × T) → List DRow → Prop
  | [], l => l = []
  | (k, t) :: r, l => ∃ b v lr, l = (k, b, v) :: lr ∧ SqT K ω.Phi b (k.map V.int) ∧ Rep K ω t v ∧ RepKT K ω r lr
theorem RepKT.mono {K : PySem.W.Frag} {ω ω' : Wd} (g : Gr ω ω') : ∀ {a : List (List Int × T)} {b : List DRow}, RepKT K ω a b → RepKT K ω' a b
  | [], _, h => h
  | (k, t) :: r, _, ⟨b, v, lr, e, h1, h2, h3⟩ => ⟨b, v, lr, e, sqT_mono g.phi h1, h2.mono g, RepKT.mono g h3⟩
theorem RepKT.pure {K : PySem.W.Frag} {ω ω' : Wd} (m : ∀ a o, ω.Phi a = some o → ω'.Phi a = some o) : ∀ {a : List (List Int × T)} {b : List DRow}, puKV a = true → RepKT K ω a b → RepKT K ω' a b
  | [], _, _, h => h
  | (k, t) :: r, _, hp, ⟨b, v, lr, e, h1, h2, h3⟩ => by
    simp only [puKV, List.all_cons, Bool.and_eq_true] at hp
    exact ⟨b, v, lr, e, sqT_mono m h1, h2.pure m hp.1, RepKT.pure m hp.2 h3⟩
def encK (kvs : List (List Int × T)) : List (Str × T) := kvs.map fun x => (Str.empty, .tup [.tup (x.1.map T.int), x.2])
theorem ints_inj : ∀ {a b : List Int}, a.map T.int = b.map T.int → a = b
  | [], [], _ => rfl
  | [], _ :: _, h => by cases h
  | _ :: _, [], h => by cases h
  | x :: a, y :: b, h => by
    rw [List.map_cons, List.map_cons] at h
    injection h with h1 h2
    injection h1 with h1
    rw [h1, ints_inj h2]
theorem encK_inj : ∀ {a b : List (List Int × T)}, encK a = encK b → a = b
  | [], [], _ => rfl
  | [], _ :: _, h => by cases h
  | _ :: _, [], h => by cases h
  | (k, t) :: a, (k2, t2) :: b, h => by
    have h : (Str.empty, T.tup [.tup (k.map T.int), t]) :: encK a = (Str.empty, T.tup [.tup (k2.map T.int), t2]) :: encK b := h
    injection h with h1 h2
    injection h1 with _ h1
    injection h1 with h1
    injection h1 with h1 h3
    injection h1 with h1
    injection h3 with h3
    rw [ints_inj h1, h3, encK_inj h2]
def CellOk (K : PySem.W.Frag) (cl : Nat → Addr) (ω : Wd) (H : Hp) (p : Addr) : Cell → Prop
  | .lst xs => pus xs = true ∧ ∃ vs, H p = some (.lst vs) ∧ Reps K ω xs vs
  | .dK kvs => puKV kvs = true ∧ ∃ l, H p = some (.dK l) ∧ RepKV K ω kvs l
  | .dT kvs => (puKV kvs = true ∧ kvs.length ≤ 100000) ∧ ∃ l, ((H p = some (DX p l) ∧ (p == sysModules) = false) ∨ (l = [] ∧ H p = some (.dT []))) ∧ RepKT K ω kvs l
  | .dead => ∃ o, H p = some o ∧ ∀ fs, o ≠ .xd fs
  | .ins c fs => (c < 1000 ∧ ∃ dx l, H p = some (.ins (cl c) dx l) ∧ RepKV K ω fs l) ∨ (1000 ≤ c ∧ ∃ kvs l, fs = encK kvs ∧ kvs.length ≤ 100000 ∧ ((H p = some (DX p l) ∧ (p == sysModules) = false) ∨ (l = [] ∧ H p = some (.dT []))) ∧ RepKT K ω kvs l)
  | .tab P F => p = P ∧ ∃ ps, H p = some (.tbl ps) ∧ TriplesOk ps.toList ∧ ∀ pos cv, codeAmong pos ps.toList = some cv → ∃ c, cv = .ref c ∧ ω.Phi c = some (F c)
structure StOk (K : PySem.W.Frag) (cl : Nat → Addr) (ω : Wd) (h : Store) (H : Hp) : Prop where
  len : ω.rho.length = h.length
  nd : ω.rho.Nodup
  cells : ∀ (i : Nat) (c : Cell) (p : Addr), h[i]? = some c → ω.rho[i]? = some p → CellOk K cl ω H p c
  phi : ∀ a o, ω.Phi a = some o → H a = some o
  dis : ∀ (i : Nat) (p : Addr), ω.rho[i]? = some p → h[i]? = some .dead ∨ ω.Phi p = none
structure Nx (ω : Wd) (H : Hp) (ω' : Wd) (H' : Hp) : Prop extends Gr ω ω' where
  newR : ∀ p ∈ ω'.rho, p ∈ ω.rho ∨ H p = none
  /-- an exception's dict may be fixed when it is in hand -/
  newF : ∀ a o, ω'.Phi a = some o → ω.Phi a = some o ∨ H a = none ∨ (∃ fs, o = .xd fs) ∨ a ∈ ω.rho
  fr : ∀ a o, H a = some o → a ∉ ω.rho → H' a = some o
  dom : ∀ a, H' a = none → H a = none
theorem Nx.refl (ω : Wd) (H : Hp) : Nx ω H ω H := ⟨Gr.refl ω, fun _ h => .inl h, fun _ _ h => .inl h, fun _ _ h _ => h, fun _ h => h⟩
theorem Nx.trans {ω ω1 ω2 : Wd} {H H1 H2 : Hp} (a : Nx ω H ω1 H1) (b : Nx ω1 H1 ω2 H2) : Nx ω H ω2 H2 where
  toGr := a.toGr.trans b.toGr
  newR := fun p hp => (b.newR p hp).elim (fun q => a.newR p q) fun q => .inr (a.dom p q)
  newF := fun x o h => (b.newF x o h).elim (fun q => a.newF x o q) fun q => q.elim (fun q => .inr (.inl (a.dom x q))) fun q => q.elim (fun q => .inr (.inr (.inl q))) fun q => (a.newR x q).elim (fun q => .inr (.inr (.inr q))) fun q => .inr (.inl q)
  fr := fun x o h n => b.fr x o (a.fr x o h n) fun m => (a.newR x m).elim n fun q => by rw [q] at h; cases h
  dom := fun x h => a.dom x (b.dom x h)
section
variable {K : PySem.W.Frag} {cl : Nat → Addr} {ω : Wd} {h : Store} {H : Hp}
theorem StOk.at_ (S : StOk K cl ω h H) {i : Nat} {c : Cell} (e : h[i]? = some c) : ∃ p, ω.rho[i]? = some p ∧ CellOk K cl ω H p c := by
  have hl : i < ω.rho.length := by rw [S.len]; exact (List.getElem?_eq_some_iff.mp e).1
  exact ⟨ω.rho[i], List.getElem?_eq_getElem hl, S.cells i c _ e (List.getElem?_eq_getElem hl)⟩
theorem CellOk.hit {p : Addr} {c : Cell} (k : CellOk K cl ω H p c) : ∃ o, H p = some o := by
  cases c with
  | lst xs => obtain ⟨_, vs, e, _⟩ := k; exact ⟨_, e⟩
  | dK xs => obtain ⟨_, vs, e, _⟩ := k; exact ⟨_, e⟩
  | dT xs =>
    obtain ⟨_, vs, e, _⟩ := k
    rcases e with ⟨e, _⟩ | ⟨_, e⟩
    · exact ⟨_, e⟩
    · exact ⟨_, e⟩
  | dead => obtain ⟨o, e, _⟩ := k; exact ⟨o, e⟩
  | ins c xs =>
    rcases k with ⟨_, dx, vs, e, _⟩ | ⟨_, kvs, l, _, _, e, _⟩
    · exact ⟨_, e⟩
    · rcases e with ⟨e, _⟩ | ⟨_, e⟩
      · exact ⟨_, e⟩
      · exact ⟨_, e⟩
  | tab P F => obtain ⟨_, ps, e, _⟩ := k; exact ⟨_, e⟩
theorem StOk.somR (S : StOk K cl ω h H) {p : Addr} (hp : p ∈ ω.rho) : ∃ o, H p = some o := by
  obtain ⟨i, hi, e⟩ := List.getElem_of_mem hp
  have hi' : i < h.length := by rw [← S.len]; exact hi
  exact (S.cells i h[i] p (List.getElem?_eq_getElem hi') (by rw [List.getElem?_eq_getElem hi, e])).hit
theorem CellOk.move {ω' : Wd} {H' : Hp} {p : Addr} {c : Cell} (k : CellOk K cl ω H p c) (g : Gr ω ω') (e : ∀ o, H p = some o → H' p = some o) : CellOk K cl ω' H' p c := by
  cases c with
  | lst xs => obtain ⟨a, vs, q, r⟩ := k; exact ⟨a, vs, e _ q, r.mono g⟩
  | dK xs => obtain ⟨a, vs, q, r⟩ := k; exact ⟨a, vs, e _ q, r.mono g⟩
  | dT xs => obtain ⟨a, vs, q, r⟩ := k; exact ⟨a, vs, q.elim (fun z => .inl ⟨e _ z.1, z.2⟩) (fun z => .inr ⟨z.1, e _ z.2⟩), r.mono g⟩
  | dead => obtain ⟨o, q, n⟩ := k; exact ⟨o, e _ q, n⟩
  | ins c xs =>
    rcases k with ⟨a, dx, vs, q, r⟩ | ⟨a, kvs, l, b, d, q, r⟩
    · exact .inl ⟨a, dx, vs, e _ q, r.mono g⟩
    · exact .inr ⟨a, kvs, l, b, d, q.elim (fun z => .inl ⟨e _ z.1, z.2⟩) (fun z => .inr ⟨z.1, e _ z.2⟩), r.mono g⟩
  | tab P F =>
    obtain ⟨a, ps, q, t, r⟩ := k
    exact ⟨a, ps, e _ q, t, fun pos cv hc => let ⟨c, e1, e2⟩ := r pos cv hc; ⟨c, e1, g.phi _ _ e2⟩⟩
def Wd.fix (ω : Wd) (p : Addr) (o : HO) : Wd := ⟨ω.rho, upd ω.Phi p o⟩
def Wd.cell (ω : Wd) (p : Addr) : Wd := ⟨ω.rho ++ [p], ω.Phi⟩
theorem gr_fix {p : Addr} {o : HO} (n : ω.Phi p = none) : Gr ω (ω.fix p o) := ⟨List.prefix_refl _, fun a u e => by
  show upd ω.Phi p o a = _
  rw [upd_ne (ne_of_none e n)]
  exact e⟩
theorem gr_cell {p : Addr} : Gr ω (ω.cell p) := ⟨List.prefix_append _ _, fun _ _ e => e⟩
theorem StOk.fixIt (S : StOk K cl ω h H) {p : Addr} {o : HO} (e : H p = some o) (n : ω.Phi p = none) (nr : p ∉ ω.rho) : StOk K cl (ω.fix p o) h H where
  len := S.len
  nd := S.nd
  cells := fun i c q a b => (S.cells i c q a b).move (gr_fix n) fun _ z => z
  phi := fun a u z => by
    have z' : upd ω.Phi p o a = some u := z
    by_cases q : a = p
    · subst q; rw [upd_same] at z'; cases z'; exact e
    · rw [upd_ne q] at z'; exact S.phi a u z'
  dis := fun i q hq => (S.dis i q hq).imp id fun z => by
    show upd ω.Phi p o q = none
    rw [upd_ne (fun z : q = p => nr (by rw [← z]; exact List.mem_of_getElem? hq))]
    exact z
theorem Nx.fixIt {ω0 : Wd} {H0 : Hp} (N : Nx ω0 H0 ω H) {p : Addr} {o : HO} (n : ω.Phi p = none) (f : H0 p = none) : Nx ω0 H0 (ω.fix p o) H where
  toGr := N.toGr.trans (gr_fix n)
  newR := N.newR
  newF := fun a u z => by
    have z' : upd ω.Phi p o a = some u := z
    by_cases q : a = p
    · subst q; exact .inr (.inl f)
    · rw [upd_ne q] at z'; exact N.newF a u z'
  fr := N.fr
  dom := N.dom
theorem Nx.fixX {p : Addr} {fs : List (Str × V)} (n : ω.Phi p = none) : Nx ω H (ω.fix p (.xd fs)) H where
  toGr := gr_fix n
  newR := fun _ h => .inl h
  newF := fun a u z => by
    have z' : upd ω.Phi p (.xd fs) a = some u := z
    by_cases q : a = p
    · subst q; rw [upd_same] at z'; cases z'; exact .inr (.inr (.inl ⟨fs, rfl⟩))
    · rw [upd_ne q] at z'; exact .inl z'
  fr := fun _ _ h _ => h
  dom := fun _ h => h
theorem StOk.cellIt (S : StOk K cl ω h H) {p : Addr} {c : Cell} (k : CellOk K cl ω H p c) (n : ω.Phi p = none) (nr : p ∉ ω.rho) : StOk K cl (ω.cell p) (h ++ [c]) H where
  len := by show (ω.rho ++ [p]).length = _; simp [S.len]
  nd := by
    show (ω.rho ++ [p]).Nodup
    rw [List.nodup_append]
    refine ⟨S.nd, by simp, fun a ha b hb z => ?_⟩
    have : b = p := by simpa using hb
    subst this; subst z
    exact nr ha
  cells := fun i c' q a b => by
    have b' : (ω.rho ++ [p])[i]? = some q := b
    by_cases hi : i < h.length
    · rw [List.getElem?_append_left hi] at a
      rw [List.getElem?_append_left (by rw [S.len]; exact hi)] at b'
      exact (S.cells i c' q a b').move gr_cell fun _ z => z
    · have hi2 : i = h.length := by
        have := (List.getElem?_eq_some_iff.mp a).1
        simp at this; omega
      subst hi2
      rw [List.getElem?_append_right (Nat.le_refl _)] at a
      rw [List.getElem?_append_right (by rw [S.len]; exact Nat.le_refl _), S.len] at b'
      simp at a b'
      subst a; subst b'
      exact k.move gr_cell fun _ z => z
  phi := S.phi
  dis := fun i q hq => by
    have b : (ω.rho ++ [p])[i]? = some q := hq
    by_cases hi : i < h.length
    · rw [List.getElem?_append_left (by rw [S.len]; exact hi)] at b
      rw [List.getElem?_append_left hi]
      exact S.dis i q b
    · have lt := (List.getElem?_eq_some_iff.mp b).1
      rw [List.length_append, S.len] at lt
      have hi2 : i = h.length := by
        have : i < h.length + 1 := lt
        omega
      subst hi2
      rw [List.getElem?_append_right (by rw [S.len]; exact Nat.le_refl _), S.len] at b
      simp at b
      rw [← b]
      exact .inr n
theorem Nx.cellIt {ω0 : Wd} {H0 : Hp} (N : Nx ω0 H0 ω H) {p : Addr} (f : H0 p = none) : Nx ω0 H0 (ω.cell p) H where
  toGr := N.toGr.trans gr_cell
  newR := fun q hq => by
    have : q ∈ ω.rho ++ [p] := hq
    rcases List.mem_append.mp this with z | z
    · exact N.newR q z
    · have : q = p := by simpa using z
      rw [this]; exact .inr f
  newF := N.newF
  fr := N.fr
  dom := N.dom
theorem StOk.freshF (S : StOk K cl ω h H) {p : Addr} (n : H p = none) : ω.Phi p = none := by
  cases e : ω.Phi p with
  | none => rfl
  | some o => rw [S.phi p o e] at n; cases n
theorem StOk.freshR (S : StOk K cl ω h H) {p : Addr} (n : H p = none) : p ∉ ω.rho := fun m => by
  obtain ⟨o, e⟩ := S.somR m
  rw [n] at e; cases e
theorem StOk.lay (S : StOk K cl ω h H) {p : Addr} {o : HO} (n : H p = none) : StOk K cl ω h (upd H p o) where
  len := S.len
  nd := S.nd
  cells := fun i c q a b => (S.cells i c q a b).move (Gr.refl _) fun u z => by rw [upd_ne (ne_of_none z n)]; exact z
  phi := fun a u z => by rw [upd_ne (ne_of_none (S.phi a u z) n)]; exact S.phi a u z
  dis := S.dis
theorem nx_lay {p : Addr} {o : HO} (n : H p = none) : Nx ω H ω (upd H p o) where
  toGr := Gr.refl _
  newR := fun _ h => .inl h
  newF := fun _ _ h => .inl h
  fr := fun a u z _ => by rw [upd_ne (ne_of_none z n)]; exact z
  dom := fun a z => by
    by_cases q : a = p
    · rw [q]; exact n
    · rw [upd_ne q] at z; exact z
theorem StOk.newF (S : StOk K cl ω h H) {p : Addr} {o : HO} (n : H p = none) : StOk K cl (ω.fix p o) h (upd H p o) :=
  (S.lay n).fixIt upd_same (S.freshF n) (S.freshR n)
theorem nx_newF (S : StOk K cl ω h H) {p : Addr} {o : HO} (n : H p = none) : Nx ω H (ω.fix p o) (upd H p o) := (nx_lay n).fixIt (S.freshF n) n
theorem StOk.put (S : StOk K cl ω h H) {i : Nat} {p : Addr} {c c0 : Cell} {o : HO} (e0 : h[i]? = some c0) (nd0 : c0 ≠ .dead) (e : ω.rho[i]? = some p) (k : CellOk K cl ω (upd H p o) p c) : StOk K cl ω (h.set i c) (upd H p o) where
  len := by rw [List.length_set]; exact S.len
  nd := S.nd
  cells := fun j d q a b => by
    by_cases hij : i = j
    · subst hij
      have hi : i < h.length := by rw [← S.len]; exact (List.getElem?_eq_some_iff.mp e).1
      rw [List.getElem?_set_self hi] at a
      cases a
      rw [e] at b; cases b
      exact k
    · rw [List.getElem?_set_ne hij] at a
      refine (S.cells j d q a b).move (Gr.refl _) fun u z => ?_
      rw [upd_ne ?_]
      · exact z
      · intro z; subst z
        exact hij (nodup_at S.nd e b)
  phi := fun a u z => by
    rw [upd_ne ?_]
    · exact S.phi a u z
    · intro q; subst q
      rcases S.dis i _ e with w | w
      · rw [e0] at w
        cases w
        exact nd0 rfl
      · rw [w] at z; cases z
  dis := fun j q hq => by
    by_cases hij : i = j
    · subst hij
      rw [e] at hq
      cases hq
      rcases S.dis i _ e with w | w
      · rw [e0] at w
        cases w
        exact absurd rfl nd0
      · exact .inr w
    · rw [List.getElem?_set_ne hij]
      exact S.dis j q hq
theorem nx_put (S : StOk K cl ω h H) {i : Nat} {p : Addr} {o : HO} (e : ω.rho[i]? = some p) : Nx ω H ω (upd H p o) where
  toGr := Gr.refl _
  newR := fun _ h => .inl h
  newF := fun _ _ h => .inl h
  fr := fun a u z n => by rw [upd_ne (fun q : a = p => n (by rw [q]; exact List.mem_of_getElem? e))]; exact z
  dom := fun a z => by
    by_cases q : a = p
    · rw [q, upd_same] at z; cases z
    · rw [upd_ne q] at z; exact z
theorem StOk.alive (S : StOk K cl ω h H) {i : Nat} {p : Addr} {c : Cell} (e0 : h[i]? = some c) (nd0 : c ≠ .dead) (e : ω.rho[i]? = some p) : ω.Phi p = none := by
  rcases S.dis i _ e with w | w
  · rw [e0] at w
    cases w
    exact absurd rfl nd0
  · exact w
theorem StOk.freeze (S : StOk K cl ω h H) {i : Nat} {p : Addr} {xs : List T} {vs : List V} (e0 : h[i]? = some (.lst xs)) (e : ω.rho[i]? = some p) (hp : H p = some (.lst vs)) : StOk K cl (ω.fix p (.lst vs)) (h.set i .dead) H where
  len := by rw [List.length_set]; exact S.len
  nd := S.nd
  cells := fun j c q a b => by
    have n := S.alive e0 (fun z => by cases z) e
    by_cases hij : i = j
    · subst hij
      rw [List.getElem?_set_self (List.getElem?_eq_some_iff.mp e0).1] at a
      cases a
      have b' : ω.rho[i]? = some q := b
      rw [e] at b'
      cases b'
      exact ⟨_, hp, fun _ z => nomatch z⟩
    · rw [List.getElem?_set_ne hij] at a
      exact (S.cells j c q a b).move (gr_fix n) fun _ z => z
  phi := fun a u z => by
    have z' : upd ω.Phi p (.lst vs) a = some u := z
    by_cases q : a = p
    · subst q
      rw [upd_same] at z'
      cases z'
      exact hp
    · rw [upd_ne q] at z'
      exact S.phi a u z'
  dis := fun j q hq => by
    have hq' : ω.rho[j]? = some q := hq
    by_cases hij : i = j
    · subst hij
      exact .inl (List.getElem?_set_self (List.getElem?_eq_some_iff.mp e0).1)
    · rw [List.getElem?_set_ne hij]
      refine (S.dis j q hq').imp id fun z => ?_
      show upd ω.Phi p (.lst vs) q = none
      rw [upd_ne (fun w : q = p => hij (nodup_at S.nd e (by rw [hq', w])))]
      exact z
theorem nx_freeze (S : StOk K cl ω h H) {i : Nat} {p : Addr} {o : HO} (n : ω.Phi p = none) (e : ω.rho[i]? = some p) : Nx ω H (ω.fix p o) H where
  toGr := gr_fix n
  newR := fun _ h => .inl h
  newF := fun a u z => by
    have z' : upd ω.Phi p o a = some u := z
    by_cases q : a = p
    · subst q
      exact .inr (.inr (.inr (List.mem_of_getElem? e)))
    · rw [upd_ne q] at z'
      exact .inl z'
  fr := fun _ _ h _ => h
  dom := fun _ h => h
end
def XOk (K : PySem.W.Frag) (cl : Nat → Addr) (ω : Wd) (H : Hp) : Ex → Value → Option Addr → Prop
  | .txt c, cls, d => cls = .ref (cl c) ∧ d = none
  | .fld c f t, cls, d => cls = .ref (cl c) ∧ t.pu = true ∧ ∃ dx v, d = some dx ∧ H dx = some (.xd [(f, v)]) ∧ Rep K ω t v
def PostG (K : PySem.W.Frag) (cl : Nat → Addr) (W : WX) (ω : Wd) (H : Hp) (σ : L2.St) {α : Type} (o : Out α) (R : α → Store → Wd → Hp → Prop) : Prop :=
  match o with
  | .ok a h' => ∀ ω' H', Nx ω H ω' H' → StOk K cl ω' h' H' → R a h' ω' H'
  | .ex e h' => ∀ ω' H' cls d, Nx ω H ω' H' → StOk K cl ω' h' H' → XOk K cl ω' H' e cls d → W cls d σ H'
  | .bad => False
section
variable {K : PySem.W.Frag} {cl : Nat → Addr} {W : WX} {ω : Wd} {H : Hp} {σ : L2.St} {α β : Type}
theorem PostG.bind {o : Out α} {k : α → Store → Out β} {R : β → Store → Wd → Hp → Prop} (h : PostG K cl W ω H σ (o.bind k) R) :
    PostG K cl W ω H σ o fun a h1 ω1 H1 => PostG K cl W ω1 H1 σ (k a h1) R := by
  cases o with
  | bad => exact h
  | ex e h' => exact h
  | ok a h' =>
    intro ω1 H1 N1 S1
    have q : PostG K cl W ω H σ (k a h') R := h
    revert q
    cases k a h' with
    | bad => exact fun q => q
    | ex e h2 => exact fun q ω2 H2 cls d N2 S2 x => q ω2 H2 cls d (N1.trans N2) S2 x
    | ok b h2 => exact fun q ω2 H2 N2 S2 => q ω2 H2 (N1.trans N2) S2
theorem PostG.mono {o : Out α} {R R' : α → Store → Wd → Hp → Prop} (h : PostG K cl W ω H σ o R) (m : ∀ a h' ω' H', Nx ω H ω' H' → StOk K cl ω' h' H' → R a h' ω' H' → R' a h' ω' H') : PostG K cl W ω H σ o R' := by
  cases o with
  | bad => exact h
  | ex e h' => exact h
  | ok a h' => exact fun ω' H' N S => m a h' ω' H' N S (h ω' H' N S)
theorem PostG.ofO {o : Option α} {h : Store} {R : α → Store → Wd → Hp → Prop} (q : PostG K cl W ω H σ (Out.ofO o h) R) : ∃ a, o = some a ∧ ∀ ω' H', Nx ω H ω' H' → StOk K cl ω' h H' → R a h ω' H' := by
  cases o with
  | none => exact q.elim
  | some a => exact ⟨a, rfl, q⟩
end
def EnvOk (K : PySem.W.Frag) (ω : Wd) (env : Env') (σ : L2.St) : Prop := env.length = σ.length ∧ ∀ (i : Nat) (t : T), env[i]? = some (some t) → ∃ v : V, σ[i]? = some (some v) ∧ Rep K ω t v
theorem EnvOk.mono {K : PySem.W.Frag} {ω ω' : Wd} {env : Env'} {σ : L2.St} (e : EnvOk K ω env σ) (g : Gr ω ω') : EnvOk K ω' env σ :=
  ⟨e.1, fun i t h => let ⟨v, a, b⟩ := e.2 i t h; ⟨v, a, b.mono g⟩⟩
theorem EnvOk.set {K : PySem.W.Frag} {ω : Wd} {env : Env'} {σ : L2.St} (e : EnvOk K ω env σ) (i : Nat) {t : T} {v : V} (r : Rep K ω t v) : EnvOk K ω (env.set i (some t)) (σ.set i (some v)) := by
  refine ⟨by simp [e.1], fun j u h => ?_⟩
  by_cases q : i = j
  · subst q
    have hi : i < env.length := by
      have := (List.getElem?_eq_some_iff.mp h).1
      simpa using this
    rw [List.getElem?_set_self hi] at h
    cases h
    exact ⟨v, by rw [List.getElem?_set_self (by rw [← e.1]; exact hi)], r⟩
  · rw [List.getElem?_set_ne q] at h
    obtain ⟨w, a, b⟩ := e.2 j u h
    exact ⟨w, by rw [List.getElem?_set_ne q]; exact a, b⟩
theorem EnvOk.drop {K : PySem.W.Frag} {ω : Wd} {env : Env'} {σ : L2.St} (e : EnvOk K ω env σ) (i : Nat) : EnvOk K ω (env.set i none) σ := by
  refine ⟨by simp [e.1], fun j u h => ?_⟩
  by_cases q : i = j
  · subst q
    have hi : i < env.length := by
      have := (List.getElem?_eq_some_iff.mp h).1
      simpa using this
    rw [List.getElem?_set_self hi] at h
    cases h
  · rw [List.getElem?_set_ne q] at h
    exact e.2 j u h
variable (K : PySem.W.Frag) (cl : Nat → Addr) (W : WX)
def tE (m : M T) : TE := fun σ H Q => ∃ env h ω, EnvOk K ω env σ ∧ StOk K cl ω h H ∧ PostG K cl W ω H σ (m env h) fun t _ ω' H' => ∀ v, Rep K ω' t v → Q v H'
def tA (m : M (List T)) : TA := fun σ H Q => ∃ env h ω, EnvOk K ω env σ ∧ StOk K cl ω h H ∧ PostG K cl W ω H σ (m env h) fun ts _ ω' H' => ∀ vs, Reps K ω' ts vs → Q vs H'
def tT (m : M Bool) : TT := fun σ H Q => ∃ env h ω, EnvOk K ω env σ ∧ StOk K cl ω h H ∧ PostG K cl W ω H σ (m env h) fun b _ _ H' => Q b H'
def tN (m : M (List T)) : TE := fun σ H Q => ∃ env h ω, EnvOk K ω env σ ∧ StOk K cl ω h H ∧ PostG K cl W ω H σ (m env h) fun ts _ ω' H' => ∀ l vs, Reps K ω' ts vs → H' l = some (.lst vs) → ω'.Phi l = none → l ∉ ω'.rho → H l = none → Q (.ref l) H'
end Sm
namespace Sm
open PySem PySem.Spec PyProof.Rows L2
section
variable {X : Cx}
theorem _root_.L2.PE.weak {e : Expr} {t t' : TE} (h : PE X e t) (m : ∀ σ H Q, t' σ H Q → t σ H Q) : PE X e t' := ⟨fun pins s σ H Q I q => h.run pins s σ H Q I (m σ H Q q)⟩
theorem _root_.L2.PT.weak {e : Expr} {t t' : TT} (h : PT X e t) (m : ∀ σ H Q, t' σ H Q → t σ H Q) : PT X e t' := ⟨fun pins s σ H Q I q => h.run pins s σ H Q I (m σ H Q q)⟩
theorem _root_.L2.PW.weak {e : Expr} {t t' : TT} (h : PW X e t) (m : ∀ σ H Q, t' σ H Q → t σ H Q) : PW X e t' := ⟨fun wh pins s σ H Q I q => h.run wh pins s σ H Q I (m σ H Q q)⟩
theorem _root_.L2.PA.weak {e : List Expr} {t t' : TA} (h : PA X e t) (m : ∀ σ H Q, t' σ H Q → t σ H Q) : PA X e t' := ⟨fun pos pins s σ H Q I q => h.run pos pins s σ H Q I (m σ H Q q)⟩
theorem _root_.L2.PS.weak {e : Stmt} {t t' : TS} (h : PS X e t) (m : ∀ D σ H, t' D σ H → t D σ H) : PS X e t' := ⟨fun pins s σ H D I q => h.run pins s σ H D I (m D σ H q)⟩
theorem _root_.L2.PSs.weak {e : List Stmt} {t t' : TS} (h : PSs X e t) (m : ∀ D σ H, t' D σ H → t D σ H) : PSs X e t' := ⟨fun pins s σ H D I q => h.run pins s σ H D I (m D σ H q)⟩
end
@[simp] def lstOf (h : Store) : T → Option (List T)
  | .lst xs => some xs
  | .loc n => match h[n]? with
    | some (.lst xs) => some xs
    | _ => none
  | _ => none
@[simp] def tupOf : T → Option (List T)
  | .tup xs => some xs
  | _ => none
@[simp] def seqOf (h : Store) : T → Option (List T)
  | .tup xs => some xs
  | .scr ns => some (ns.map .int)
  | t => lstOf h t
section
variable {K : PySem.W.Frag} {cl : Nat → Addr} {ω : Wd} {h : Store} {H : Hp}
theorem lstOf_ok (S : StOk K cl ω h H) {t : T} {v : V} {xs : List T} (r : Rep K ω t v) (e : lstOf h t = some xs) : ∃ p vs, v = .ref p ∧ H p = some (.lst vs) ∧ Reps K ω xs vs := by
  cases t with
  | lst ys =>
    simp only [lstOf, Option.some.injEq] at e
    subst e
    simp only [Rep] at r
    obtain ⟨p, vs, a, b, c⟩ := r
    exact ⟨p, vs, a, S.phi _ _ b, c⟩
  | loc n =>
    simp only [Rep] at r
    obtain ⟨p, rfl, q⟩ := r
    simp only [lstOf] at e
    cases hn : h[n]? with
    | none => rw [hn] at e; cases e
    | some c =>
      rw [hn] at e
      cases c with
      | lst ys =>
        cases e
        obtain ⟨_, vs, a, b⟩ := S.cells n _ p hn q
        exact ⟨p, vs, rfl, a, b⟩
      | _ => cases e
  | _ => simp [lstOf] at e
theorem tupOf_ok (S : StOk K cl ω h H) {t : T} {v : V} {xs : List T} (r : Rep K ω t v) (e : tupOf t = some xs) : ∃ p vs, v = .ref p ∧ SqT K H p vs ∧ Reps K ω xs vs := by
  cases t with
  | tup ys =>
    simp only [tupOf, Option.some.injEq] at e
    subst e
    simp only [Rep] at r
    obtain ⟨p, vs, a, b, c⟩ := r
    exact ⟨p, vs, a, sqT_mono S.phi b, c⟩
  | _ => simp [tupOf] at e
theorem reps_ints : ∀ ns : List Int, Reps K ω (ns.map T.int) (ns.map V.int)
  | [] => by simp only [List.map_nil, Reps]
  | n :: r => by
    simp only [List.map_cons, Reps, Rep]
    exact ⟨_, _, rfl, rfl, reps_ints r⟩
theorem seqOf_ok (S : StOk K cl ω h H) {t : T} {v : V} {xs : List T} (r : Rep K ω t v) (e : seqOf h t = some xs) : ∃ p vs, v = .ref p ∧ (SqL K H p vs ∨ SqT K H p vs) ∧ Reps K ω xs vs := by
  cases t with
  | tup ys =>
    obtain ⟨p, vs, a, b, c⟩ := tupOf_ok (xs := xs) S r (by simpa [seqOf] using e)
    exact ⟨p, vs, a, .inr b, c⟩
  | scr ns =>
    simp only [seqOf, Option.some.injEq] at e
    subst e
    simp only [Rep] at r
    obtain ⟨p, a, b⟩ := r
    exact ⟨p, ns.map V.int, a, .inl (sqL_mono S.phi b), reps_ints ns⟩
  | _ =>
    obtain ⟨p, vs, a, b, c⟩ := lstOf_ok (xs := xs) S r e
    exact ⟨p, vs, a, .inl (SqL.of b), c⟩
theorem lst_at (S : StOk K cl ω h H) {n : Nat} {v : V} {xs : List T} (r : Rep K ω (.loc n) v) (e : h[n]? = some (.lst xs)) : ∃ p vs, v = .ref p ∧ ω.rho[n]? = some p ∧ H p = some (.lst vs) ∧ Reps K ω xs vs ∧ pus xs = true := by
  simp only [Rep] at r
  obtain ⟨p, rfl, q⟩ := r
  obtain ⟨a, vs, b, c⟩ := S.cells n _ p e q
  exact ⟨p, vs, rfl, q, b, c, a⟩
end
section
variable {X : Cx} {cl : Nat → Addr} {W : WX}
def mVar (i : Nat) : M T := fun env h => match env[i]? with
  | some (some t) => .ok t h
  | _ => .bad
def mC (t : T) : M T := fun _ h => .ok t h
theorem k_var {e : Expr} {i : Nat} (hp : PE X e (tVar i)) : PE X e (tE X.K cl W (mVar i)) := by
  refine hp.weak fun σ H Q ⟨env, h, ω, he, hs, q⟩ => ?_
  unfold mVar at q
  cases hi : env[i]? with
  | none => rw [hi] at q; exact q.elim
  | some o =>
    rw [hi] at q
    cases o with
    | none => exact q.elim
    | some t =>
      obtain ⟨v, e1, r⟩ := he.2 i t hi
      exact ⟨v, e1, q ω H (Nx.refl _ _) hs v r⟩
theorem k_const {e : Expr} {t : T} {v : V} (hp : PE X e (tC v)) (r : ∀ ω, Rep X.K ω t v) : PE X e (tE X.K cl W (mC t)) :=
  hp.weak fun σ H Q ⟨env, h, ω, he, hs, q⟩ => q ω H (Nx.refl _ _) hs v (r ω)
theorem k_int {i : Int} {j pos} : PE X (.Constant (.int i) j pos) (tE X.K cl W (mC (.int i))) := k_const pe_int fun _ => by simp only [Rep]
theorem k_bl {b : Bool} {j pos} : PE X (.Constant (.bool b) j pos) (tE X.K cl W (mC (.bl b))) := k_const pe_bl fun _ => by simp only [Rep]
theorem k_non {j pos} : PE X (.Constant .none j pos) (tE X.K cl W (mC .non)) := k_const pe_non fun _ => by simp only [Rep]
theorem k_str {x : Str} {j pos} : PE X (.Constant (.str x) j pos) (tE X.K cl W (mC (.str x))) := k_const pe_str fun _ => by simp only [Rep]
end
abbrev F2 := T → T → Store → Option T
abbrev F1 := T → Store → Option T
abbrev FA := List T → Store → Option T
def rV2 (K : PySem.W.Frag) (cl : Nat → Addr) (f : F2) : R2 := fun x y H Q => ∃ a b h ω t, StOk K cl ω h H ∧ Rep K ω a x ∧ Rep K ω b y ∧ f a b h = some t ∧ ∀ ω' H' v, Nx ω H ω' H' → StOk K cl ω' h H' → Rep K ω' t v → Q v H'
def rVA (K : PySem.W.Frag) (cl : Nat → Addr) (f : FA) : List V → Hp → VK → Prop := fun xs H Q => ∃ as h ω t, StOk K cl ω h H ∧ Reps K ω as xs ∧ f as h = some t ∧ ∀ ω' H' v, Nx ω H ω' H' → StOk K cl ω' h H' → Rep K ω' t v → Q v H'
def mBin (f : F2) (m n : M T) : M T := fun env h => (m env h).bind fun a h1 => (n env h1).bind fun b h2 => Out.ofO (f a b h2) h2
def mUn (f : F1) (m : M T) : M T := fun env h => (m env h).bind fun a h1 => Out.ofO (f a h1) h1
def mTst (m : M T) : M Bool := fun env h => (m env h).bind fun a h1 => match a with
  | .bl b => .ok b h1
  | _ => .bad
section
variable {X : Cx} {cl : Nat → Addr} {W : WX} {a b : Expr} {m n : M T} {f : F2} {pos : Pos}
theorem two_step {K : PySem.W.Frag} {σ : L2.St} {H : Hp} {Q : VK} (h : tE K cl W (mBin f m n) σ H Q) : tE K cl W m σ H fun x H1 => tE K cl W n σ H1 fun y H2 => rV2 K cl f x y H2 Q := by
  obtain ⟨env, h, ω, he, hs, q⟩ := h
  refine ⟨env, h, ω, he, hs, (PostG.bind q).mono fun tx h1 ω1 H1 N1 S1 q1 vx rx => ⟨env, h1, ω1, he.mono N1.toGr, S1, (PostG.bind q1).mono fun ty h2 ω2 H2 N2 S2 q2 vy ry => ?_⟩⟩
  obtain ⟨t, e, q3⟩ := q2.ofO
  exact ⟨tx, ty, h2, ω2, t, S2, rx.mono N2.toGr, ry, e, fun ω' H' v N S r => q3 ω' H' N S v r⟩
theorem k_bin {op : Operator} (ho : OpR X (binaryOp op) (rV2 X.K cl f)) (ha : PE X a (tE X.K cl W m)) (hb : PE X b (tE X.K cl W n)) : PE X (.BinOp a op b pos) (tE X.K cl W (mBin f m n)) :=
  (pe_op ho ha hb).weak fun _ _ _ h => two_step h
theorem k_cmp {op : CmpOp} (ho : OpR X (compareOp op) (rV2 X.K cl f)) (hm : behindInMarks op b = false) (ha : PE X a (tE X.K cl W m)) (hb : PE X b (tE X.K cl W n)) : PE X (.Compare a [op] [b] pos) (tE X.K cl W (mBin f m n)) :=
  (pe_cmpR ho ha hb hm).weak fun _ _ _ h => two_step h
theorem tst_step {K : PySem.W.Frag} {σ : L2.St} {H : Hp} {Q : Bool → Hp → Prop} (h : tT K cl W (mTst m) σ H Q) : tE K cl W m σ H fun x H' => ∃ k, x = .bl k ∧ Q k H' := by
  obtain ⟨env, h, ω, he, hs, q⟩ := h
  refine ⟨env, h, ω, he, hs, (PostG.bind q).mono fun tx h1 ω1 H1 N1 S1 q1 vx rx => ?_⟩
  cases tx with
  | bl b =>
    simp only [Rep] at rx
    exact ⟨b, rx, q1 ω1 H1 (Nx.refl _ _) S1⟩
  | _ => exact q1.elim
theorem kt_cmp {op : CmpOp} (ho : OpR X (compareOp op) (rV2 X.K cl f)) (hm : behindInMarks op b = false) (ha : PE X a (tE X.K cl W m)) (hb : PE X b (tE X.K cl W n)) : PT X (.Compare a [op] [b] pos) (tT X.K cl W (mTst (mBin f m n))) := by
  refine (pt_cmpR ho ha hb hm).weak fun σ H Q h => ?_
  exact two_step (tst_step h)
def truF : T → Store → Option Bool
  | .non, _ => some false
  | .bl b, _ => some b
  | .int i, _ => some (i != 0)
  | .str y, _ => if y.length ≤ sizeLine then some ((y.length : Int) != 0) else none
  | .tup xs, _ => some (!xs.isEmpty)
  | .lst xs, _ => some (!xs.isEmpty)
  | .loc n, h => match h[n]? with
    | some (.lst xs) => some (!xs.isEmpty)
    | _ => none
  | .scr _, _ => none
  | .emp, _ => none
  | .adr _ _ _ _, _ => none
  | .fnc _, _ => none
  | .unk, _ => none
  | .dct _ _, _ => none
def mTru (m : M T) : M Bool := fun env h => (m env h).bind fun a h1 => Out.ofO (truF a h1) h1
theorem Reps.empty {K : PySem.W.Frag} {ω : Wd} {xs : List T} {vs : List V} (r : Reps K ω xs vs) : (!xs.isEmpty) = !vs.isEmpty := by
  have := r.length
  cases xs <;> cases vs <;> simp_all
theorem truF_ok {K : PySem.W.Frag} {ω : Wd} {h : Store} {H : Hp} (S : StOk K cl ω h H) {t : T} {v : V} {k : Bool} (r : Rep K ω t v) (e : truF t h = some k) : TruV K v H k := by
  cases t with
  | non => simp only [Rep] at r; subst r; simp only [truF, Option.some.injEq] at e; exact e.symm
  | bl b => simp only [Rep] at r; subst r; simp only [truF, Option.some.injEq] at e; exact e.symm
  | int b => simp only [Rep] at r; subst r; simp only [truF, Option.some.injEq] at e; exact e.symm
  | str b =>
    simp only [Rep] at r; subst r
    simp only [truF] at e
    split at e
    · exact ⟨by assumption, by simpa using e.symm⟩
    · cases e
  | tup xs =>
    obtain ⟨p, vs, rfl, a, b⟩ := tupOf_ok (xs := xs) S r rfl
    simp only [truF, Option.some.injEq] at e
    exact .inr (.inl ⟨vs, a, by rw [← e]; exact b.empty⟩)
  | lst xs =>
    obtain ⟨p, vs, rfl, a, b⟩ := lstOf_ok (xs := xs) S r rfl
    simp only [truF, Option.some.injEq] at e
    exact .inl ⟨vs, SqL.of a, by rw [← e]; exact b.empty⟩
  | loc n =>
    simp only [truF] at e
    cases hn : h[n]? with
    | none => rw [hn] at e; cases e
    | some c =>
      rw [hn] at e
      cases c with
      | lst xs =>
        obtain ⟨p, vs, rfl, a, b⟩ := lstOf_ok (xs := xs) S r (by simp [lstOf, hn])
        simp only [Option.some.injEq] at e
        exact .inl ⟨vs, SqL.of a, by rw [← e]; exact b.empty⟩
      | _ => cases e
  | scr ns => simp [truF] at e
  | emp => simp [truF] at e
  | adr a d f ts => simp [truF] at e
  | fnc x => simp [truF] at e
  | unk => simp [truF] at e
  | dct ks ts => simp [truF] at e
theorem kt_tru {e : Expr} (h : PE X e (tE X.K cl W m)) (he : ∀ whole, isTrue e X.env whole = (do let v ← whole; standAt e.pos; holding [v] (truthy v)) := by intro _; rfl) : PT X e (tT X.K cl W (mTru m)) := by
  refine (pt_truth h he).weak fun σ H Q ⟨env, h, ω, he, hs, q⟩ => ?_
  refine ⟨env, h, ω, he, hs, (PostG.bind q).mono fun tx h1 ω1 H1 N1 S1 q1 vx rx => ?_⟩
  obtain ⟨k, e, q2⟩ := q1.ofO
  exact ⟨k, truF_ok S1 rx e, q2 ω1 H1 (Nx.refl _ _) S1⟩
def mAndT (m n : M Bool) : M Bool := fun env h => (m env h).bind fun a h1 => if a = true then n env h1 else .ok false h1
def mOrT (m n : M Bool) : M Bool := fun env h => (m env h).bind fun a h1 => if a = true then .ok true h1 else n env h1
def mNotT (m : M Bool) : M Bool := fun env h => (m env h).bind fun a h1 => .ok (!a) h1
variable {mb nb : M Bool} {rest : List Expr}
theorem kw_and1 (ha : PT X a (tT X.K cl W mb)) : PW X (.BoolOp .And [a] pos) (tT X.K cl W mb) := pw_and1 ha
theorem kw_and (ha : PT X a (tT X.K cl W mb)) (hb : PW X (.BoolOp .And (b :: rest) pos) (tT X.K cl W nb)) : PW X (.BoolOp .And (a :: b :: rest) pos) (tT X.K cl W (mAndT mb nb)) := by
  refine (pw_and ha hb).weak fun σ H Q ⟨env, h, ω, he, hs, q⟩ => ⟨env, h, ω, he, hs, (PostG.bind q).mono fun x h1 ω1 H1 N1 S1 q1 => ?_⟩
  cases x with
  | true => rw [if_pos rfl] at q1 ⊢; exact ⟨env, h1, ω1, he.mono N1.toGr, S1, q1⟩
  | false => rw [if_neg Bool.false_ne_true] at q1 ⊢; exact q1 ω1 H1 (Nx.refl _ _) S1
theorem kt_bool (h : PW X a (tT X.K cl W mb)) : PT X a (tT X.K cl W mb) := h.pt
def mAndV (m n : M T) : M T := fun env h => (m env h).bind fun a h1 => match a with
  | .bl c => if c = true then n env h1 else .ok (.bl false) h1
  | _ => .bad
def mOrV (m n : M T) : M T := fun env h => (m env h).bind fun a h1 => match a with
  | .bl c => if c = true then .ok (.bl true) h1 else n env h1
  | _ => .bad
def mNotV (m : M T) : M T := fun env h => (m env h).bind fun a h1 => match a with
  | .bl c => .ok (.bl (!c)) h1
  | _ => .bad
theorem k_not (ha : PE X a (tE X.K cl W m)) : PE X (.UnaryOp .Not a pos) (tE X.K cl W (mNotV m)) := by
  refine (pe_not ha).weak fun σ H Q ⟨env, h, ω, he, hs, q⟩ => ⟨env, h, ω, he, hs, (PostG.bind q).mono fun x h1 ω1 H1 N1 S1 q1 v r => ?_⟩
  cases x with
  | bl c =>
    simp only [Rep] at r
    exact ⟨c, r, q1 ω1 H1 (Nx.refl _ _) S1 _ (by simp only [Rep])⟩
  | _ => exact q1.elim
def mIf (c : M Bool) (m n : M T) : M T := fun env h => (c env h).bind fun a h1 => if a = true then m env h1 else n env h1
def mChain (f g : F2) (m n p : M T) : M T := fun env h => (m env h).bind fun a h1 => (n env h1).bind fun b h2 => (Out.ofO (f a b h2) h2).bind fun k h3 => match k with
  | .bl c => if c = true then (p env h3).bind fun d h4 => Out.ofO (g b d h4) h4 else .ok (.bl false) h3
  | _ => .bad
variable {g : F2} {p : M T} {c : Expr}
def mNil : M (List T) := fun _ h => .ok [] h
def mCons (m : M T) (r : M (List T)) : M (List T) := fun env h => (m env h).bind fun a h1 => (r env h1).bind fun as h2 => .ok (a :: as) h2
variable {e : Expr} {es : List Expr} {r : M (List T)}
theorem ka_nil : PA X [] (tA X.K cl W mNil) := pa_nil.weak fun σ H Q ⟨env, h, ω, he, hs, q⟩ => q ω H (Nx.refl _ _) hs [] Reps.nil
theorem ka_cons (ha : PE X e (tE X.K cl W m)) (hr : PA X es (tA X.K cl W r)) (hs : starEach (e :: es) X.env = (false, eval e X.env) :: starEach es X.env := by rfl) : PA X (e :: es) (tA X.K cl W (mCons m r)) := by
  refine (pa_cons ha hr hs).weak fun σ H Q ⟨env, h, ω, he, hs, q⟩ => ⟨env, h, ω, he, hs, (PostG.bind q).mono fun x h1 ω1 H1 N1 S1 q1 v rv => ⟨env, h1, ω1, he.mono N1.toGr, S1, (PostG.bind q1).mono fun xs h2 ω2 H2 N2 S2 q2 vs rvs => ?_⟩⟩
  exact q2 ω2 H2 (Nx.refl _ _) S2 _ (Reps.cons (rv.mono N2.toGr) rvs)
def mTup (r : M (List T)) : M T := fun env h => (r env h).bind fun ts h1 => if ts.length ≤ 10000 then .ok (.tup ts) h1 else .bad
theorem le_line {n : Nat} (h : n ≤ 10000) : n ≤ sizeLine := by rw [sizeLine_eq]; omega
theorem k_tup {x1} (hr : PA X es (tA X.K cl W r)) : PE X (.Tuple es x1 pos) (tE X.K cl W (mTup r)) := by
  refine (pe_tup hr).weak fun σ H Q ⟨env, h, ω, he, hs, q⟩ => ⟨env, h, ω, he, hs, (PostG.bind q).mono fun ts h1 ω1 H1 N1 S1 q1 vs rvs => ?_⟩
  split at q1
  · rename_i hl
    refine ⟨by rw [← rvs.length]; exact le_line hl, fun p hp => ?_⟩
    refine q1 _ _ (nx_newF S1 hp) (S1.newF hp) _ ?_
    simp only [Rep]
    exact ⟨p, vs, rfl, SqT.of upd_same, rvs.mono (gr_fix (S1.freshF hp))⟩
  · exact q1.elim
def mLst (r : M (List T)) : M (List T) := fun env h => (r env h).bind fun ts h1 => if ts.length ≤ 10000 then .ok ts h1 else .bad
theorem kn_lst (hr : PA X es (tA X.K cl W r)) : PE X (.List es pos) (tN X.K cl W (mLst r)) := by
  refine (pe_lst hr).weak fun σ H Q ⟨env, h, ω, he, hs, q⟩ => ⟨env, h, ω, he, hs, (((PostG.bind q).mono fun ts h1 ω1 H1 N1 S1 q1 vs rvs => ?_))⟩
  split at q1
  · rename_i hl
    refine ⟨by rw [← rvs.length]; exact le_line hl, fun p hp => ?_⟩
    exact q1 _ _ (nx_lay hp) (S1.lay hp) p vs rvs upd_same (S1.freshF hp) (S1.freshR hp) (N1.dom p hp)
  · exact q1.elim
def mFrz (r : M (List T)) : M T := fun env h => (r env h).bind fun ts h1 => .ok (.lst ts) h1
def mCell (r : M (List T)) : M T := fun env h => (r env h).bind fun ts h1 => if pus ts = true then .ok (.loc h1.length) (h1 ++ [.lst ts]) else .bad
theorem k_frz (h : PE X e (tN X.K cl W r)) : PE X e (tE X.K cl W (mFrz r)) := by
  refine h.weak fun σ H Q ⟨env, h, ω, he, hs, q⟩ => ⟨env, h, ω, he, hs, ?_⟩
  unfold mFrz at q
  revert q
  cases r env h with
  | bad => exact fun z => z
  | ex x h1 => exact fun z => z
  | ok ts h1 =>
    intro q ω1 H1 N1 S1 l vs rvs e1 n1 n2 f1
    refine q _ H1 (N1.fixIt (o := .lst vs) n1 f1) (S1.fixIt e1 n1 n2) _ ?_
    simp only [Rep]
    exact ⟨l, vs, rfl, upd_same, rvs.mono (gr_fix n1)⟩
theorem k_cell (h : PE X e (tN X.K cl W r)) : PE X e (tE X.K cl W (mCell r)) := by
  refine h.weak fun σ H Q ⟨env, h, ω, he, hs, q⟩ => ⟨env, h, ω, he, hs, ?_⟩
  unfold mCell at q
  revert q
  cases r env h with
  | bad => exact fun z => z
  | ex x h1 => exact fun z => z
  | ok ts h1 =>
    intro q ω1 H1 N1 S1 l vs rvs e1 n1 n2 f1
    simp only [Out.bind] at q
    split at q
    · rename_i hp
      refine q _ H1 (N1.cellIt f1) (S1.cellIt (c := .lst ts) ⟨hp, vs, e1, rvs⟩ n1 n2) _ ?_
      simp only [Rep]
      refine ⟨l, rfl, ?_⟩
      show (ω1.rho ++ [l])[h1.length]? = some l
      rw [List.getElem?_append_right (by rw [S1.len]; exact Nat.le_refl _), S1.len]
      simp
    · exact q.elim
end
end Sm
namespace Sm
open PySem PySem.Spec PyProof.Rows L2
def SqX (K : PySem.W.Frag) (H : Hp) (t : Bool) (a : Addr) (xs : List V) : Prop := cond t (SqT K H a xs) (SqL K H a xs)
def ItX (h : Heap) (t : Bool) (j a : Addr) (i : Nat) : Prop := cond t (h.IsTupleIter j a i) (h.IsListIter j a i)
def CtX (h : Heap) (t : Bool) (a : Addr) (us : Array Value) : Prop := cond t (h.IsTuple a us) (h.IsList a us)
def objX (t : Bool) (a : Addr) : Obj := { cls := .type (cond t "tuple_iterator" "list_iterator"), data := .fields #[.ref a, .int 0 0] }
section
variable {X : Cx} {pins : List (Addr × Obj)} {σ : L2.St} {H : Hp} {s : Shared} {t : Bool} {a j : Addr} {xs ys : List V} {h h' : Heap} {i : Nat}
theorem sqx_get (I : Inv X pins σ H s) : SqX X.K H t a xs → ∃ us : List Value, Vals xs us ∧ CtX s.heap t a us.toArray ∧ a < s.heap.objs.size := by
  intro q
  cases t
  · have ⟨us, r, p, _⟩ := I.list (show SqL X.K H a xs from q)
    exact ⟨us, r, p.isList, p.lt⟩
  · have ⟨us, r, p, _⟩ := I.tuple (show SqT X.K H a xs from q)
    have ⟨o, ho, _⟩ := p
    exact ⟨us, r, ⟨o, ho, ‹_›⟩, Heap.lt_size ho⟩
theorem sqx_inj (I : Inv X pins σ H s) : SqX X.K H t a xs → SqX X.K H t a ys → xs = ys := by
  cases t
  · exact fun q r => I.list_inj q r
  · exact fun q r => I.tuple_inj q r
theorem itx_at (q : ItX h t j a i) (k : ∀ o, h.get? j = some o → h'.get? j = some o) : ItX h' t j a i := by
  cases t
  · exact Heap.IsListIter.at q k
  · exact Heap.IsTupleIter.at q k
theorem itx_obj (q : ItX h t j a i) : ∃ o, h.get? j = some o ∧ ∀ v, o.data ≠ .cell v := by
  cases t <;> exact (let ⟨o, ho, _, hd⟩ := q; ⟨o, ho, fun v e => by rw [hd] at e; cases e⟩)
theorem drx (hh : X.A.handled = none) (hne : a ≠ j) (us : Array Value) : Draws X.prog X.w X.A.in1 j [j, a] us.size (fun i v => us[i]? = some v) (fun i h => ItX h t j a i ∧ CtX h t a us) := by
  cases t
  · exact Draws.list (A := X.A.in1) hh j a hne us
  · exact Draws.tuple (A := X.A.in1) hh j a hne us
theorem begx (us : Array Value) : Begins (.ref a) (objX t a) (fun h => CtX h t a us) := by
  cases t
  · exact begins_list a us
  · exact begins_tuple a us
theorem itx_new (e : h.get? j = some (objX t a)) : ItX h t j a 0 := by
  cases t <;> exact ⟨_, e, rfl, rfl⟩
theorem vals_at {us : List Value} (r : Vals xs us) {y : Value} (e : us.toArray[i]? = some y) : ∃ x, xs[i]? = some x ∧ RelV x y := by
  have hi : i < us.length := by
    have := (Array.getElem?_eq_some_iff.mp e).1
    simpa using this
  have hx : xs[i]? = some (xs[i]'(by rw [r.length]; exact hi)) := List.getElem?_eq_getElem _
  have ⟨u, hu, ru⟩ := r.get hx
  refine ⟨_, hx, ?_⟩
  have : us[i]? = some y := by simpa using e
  rw [hu] at this
  cases this
  exact ru
end
structure Tab where
  n : Nat
  row : Nat → List V → Prop
def rowIt (Rw : Hp → Tab → Prop) : It :=
  ⟨fun i H => ∃ b, Rw H b ∧ i < b.n, fun i H v H' => ∃ T xs, v = .ref T ∧ H T = none ∧ H' = upd H T (.tup xs) ∧ ∀ b, Rw H b → b.row i xs, fun i H => ∃ b, Rw H b ∧ i = b.n⟩
structure Giver (P : Program) (w : World) (K : PySem.W.Frag) (Rw : Hp → Tab → Prop) (fp : List Addr) (it : Addr) (tn : Nat → Heap → Prop) : Prop where
  mem : it ∈ fp
  obj : ∀ i h, tn i h → ∀ c ∈ fp, ∃ o, h.get? c = some o ∧ ∀ v, o.data ≠ .cell v
  keep : ∀ i h h', tn i h → (∀ c ∈ fp, ∀ o, h.get? c = some o → h'.get? c = some o) → tn i h'
  self : ∀ A i s Q E, tn i s.heap → Q (.ref it) s → wpAny (model P w) A (pyIter (.ref it)) Q E s
  uni : ∀ (X : Cx) pins σ H s b b', X.K = K → Inv X pins σ H s → Rw H b → Rw H b' → b = b'
  give : ∀ (X : Cx) pins σ H s b i, X.prog = P → X.w = w → X.K = K → X.A.handled = none → Inv X pins σ H s → tn i s.heap → Rw H b → ∃ fp' wr Pt St Mid, WalksT P w X.A it fp' wr b.n Pt St Mid ∧
    (∀ c ∈ wr, c ∈ fp) ∧ St i s.heap ∧ (∀ j h, St j h → tn j h) ∧ ∀ us, Pt i us → ∃ xs, Vals xs us.toList ∧ xs.length ≤ 3 ∧ b.row i xs
section
variable {P : Program} {w : World} {K : PySem.W.Frag} {Rw : Hp → Tab → Prop} {fp : List Addr} {it : Addr} {tn : Nat → Heap → Prop} {elts : List Expr} {kk : Nat} {tpos : Pos}
theorem Giver.turn (G : Giver P w K Rw fp it tn) : Turn P w K (.Tuple elts kk tpos) (rowIt Rw) fp it tn where
  mem := G.mem
  obj := G.obj
  keep := G.keep
  self := fun A i s Q E st h => G.self A i s Q E st h
  item := by
    intro X e1 e2 e3 hc i pins s σ H E I hf st ⟨b, hb, hi⟩
    have ⟨fp', wr, Pt, Sx, Mid, W, hw, st', back, hrow⟩ := G.give X pins σ H s b i e1 e2 e3 (I.ok.hd hc) I st hb
    refine W.item i s _ E hi st' fun T us h1 tk hP hT ht hm k1 => ⟨_, rfl, W.go elts kk tpos i T { s with heap := h1, toks := tk } _ E hm fun h2 st2 k2 => ?_⟩
    have ⟨xs, rx, hx, hr⟩ := hrow us hP
    have ⟨o, ho, hcl, m, hd⟩ := ht
    have ho2 := k2 T o (W.apart i T h1 hm) ho
    subst e1 e2
    refine ⟨.ref T, upd H T (.tup xs), I.turnedNew (t' := tk) (ch := fp) (fun c oc n e => k2 c oc (fun z => n (hw c z)) (k1 c oc (fun z => n (hw c z)) e)) hf hT ⟨Nat.le_trans hx (by decide), us.toList, rx, ⟨o, ho2, hcl, m, by rw [hd]⟩⟩, rfl, ⟨T, xs, rfl, I.hok.fresh hT, rfl, fun b' hb' => ?_⟩, back _ _ st2, fun c hcm => ?_⟩
    · rw [← G.uni X pins σ H s b b' e3 I hb hb']
      exact hr
    · have ⟨oc, hoc, _⟩ := G.obj i s.heap st c hcm
      rw [upd_ne (fun e => by rw [e] at hoc; exact absurd (Heap.lt_size hoc) (Nat.not_lt.mpr hT))]
      exact (hf c hcm).1
  done := by
    intro X e1 e2 e3 hc i pins s σ H E I hf st ⟨b, hb, hi⟩
    have ⟨fp', wr, Pt, Sx, Mid, W, hw, st', _⟩ := G.give X pins σ H s b i e1 e2 e3 (I.ok.hd hc) I st hb
    subst hi
    exact W.done s _ E st' fun h1 tk k1 => ⟨rfl, I.turnedL (t' := tk) (ch := fp) (fun c oc n e => k1 c oc (fun z => n (hw c z)) e) hf⟩
theorem Giver.begun {X : Cx} {pins : List (Addr × Obj)} {σ : L2.St} {H : Hp} {s : Shared} {h' : Heap} {R : It → Hp → Prop} (G : Giver X.prog X.w X.K Rw fp it tn) (I : Inv X pins σ H s) (k : ∀ c o, s.heap.get? c = some o → h'.get? c = some o)
    (st : tn 0 h') (hfp : ∀ c ∈ fp, s.heap.objs.size ≤ c) (q : R (rowIt Rw) H) : PIE X pins σ (.Tuple elts kk tpos) R (.ref it) { s with heap := h' } :=
  ⟨it, fp, tn, rowIt Rw, H, rfl, I.kept (t' := s.toks) k, G.turn, st, fun c m => I.fpOk (hfp c m) (I.hok.fresh (hfp c m)), q⟩
end
def enumHp (h : Heap) (o : Obj) : Heap := (h.push o).push { cls := .type "enumerate", data := .fields #[.none, .bool false, .ref h.objs.size, rawInt 0, .none, .none] }
set_option maxHeartbeats 1000000 in
theorem enum_made {v : Value} {o : Obj} {C : Heap → Prop} (B : Begins v o C) : Meets (Builtin.«enumerate.__new__» ⟨[.type "enumerate", v], []⟩) (fun _ R s => C s.heap ∧ R (.ok (.ret (.ref (s.heap.push o).objs.size))) { s with heap := enumHp s.heap o }) := by
  refine .of_wp fun P w A R s ⟨c, q⟩ => ?_
  have hsub := sub_enumerate
  have it1 : ∀ {A1 : Around} {E Q : Value → Shared → Prop}, Q (.ref s.heap.objs.size) { s with heap := s.heap.push o } → wpAny (model P w) A1 (pyIter v) Q E s := fun z => B.iter P w _ _ s _ c z
  cases s
  wp_walk using it1
  refine wpAny_stack_any fun _ => wpAny_pure ?_
  split
  · rename_i ty _ _ _ _ _
    cases ty == Value.type "enumerate" <;> (wp_walk using it1; exact ⟨_, rfl, q⟩)
  · wp_walk using it1
    exact ⟨_, rfl, q⟩
theorem enum_called {P : Program} {w : World} {A : Around} {E Q : Value → Shared → Prop} {s : Shared} {v : Value} {o : Obj} {C : Heap → Prop} (B : Begins v o C) (c : C s.heap)
    (q : ∀ h', IsEnum h' (s.heap.objs.size + 1) s.heap.objs.size 0 .none → h'.get? s.heap.objs.size = some o → (∀ b ob, s.heap.get? b = some ob → h'.get? b = some ob) → Q (.ref (s.heap.objs.size + 1)) { s with heap := h' }) :
    wpAny (model P w) A (call (.type "enumerate") [v]) Q E s := by
  have z : (s.heap.push o).objs.size = s.heap.objs.size + 1 := Heap.size_push ..
  have top : IsEnum (enumHp s.heap o) (s.heap.objs.size + 1) s.heap.objs.size 0 .none := by
    have e := Heap.get?_push_size (s.heap.push o) (o := { cls := .type "enumerate", data := .fields #[.none, .bool false, .ref s.heap.objs.size, rawInt 0, .none, .none] }) rfl
    rwa [z] at e
  refine callType_new F.called_enumerate (by decide) (F.typeCall_enumerate_1 _) (F.newCall_enumerate_1 _) (fun ob => F.args_object_init_2 ob _) F.entry_enumerate_new (enum_made B) ⟨c, ?_⟩
  show _ ∧ _
  rw [z]
  exact ⟨⟨_, top, rfl⟩, q _ top (Heap.get?_push_of_some _ (Heap.get?_push_size _ B.free)) fun b ob e => Heap.get?_push_of_some _ (Heap.get?_push_of_some _ e)⟩
def rwE (K : PySem.W.Frag) (t : Bool) (a : Addr) (H : Hp) (b : Tab) : Prop := ∃ xs, SqX K H t a xs ∧ b = ⟨xs.length, fun i r => ∃ x, xs[i]? = some x ∧ r = [.int (i : Nat), x]⟩
theorem enum_giver {P : Program} {w : World} {K : PySem.W.Frag} {t : Bool} {a e j : Addr} (n1 : a ≠ e) (n2 : a ≠ j) (n3 : e ≠ j) :
    Giver P w K (rwE K t a) [e, j] e (fun i h => (∃ old, IsEnum h e j (0 + (i : Int)) old) ∧ ItX h t j a i) where
  mem := List.mem_cons_self ..
  obj := by
    intro i h ⟨⟨old, he⟩, hj⟩
    exact List.forall_mem_cons.mpr ⟨⟨_, he, nofun⟩, List.forall_mem_cons.mpr ⟨itx_obj hj, nofun⟩⟩
  keep := fun i h h' ⟨⟨old, he⟩, hj⟩ k => ⟨⟨old, k e (by simp) _ he⟩, itx_at hj (k j (by simp))⟩
  self := fun A i s Q E ⟨⟨_, he⟩, _⟩ q => wpAny_pyIter_enum he q
  uni := by
    rintro X pins σ H s _ _ rfl I ⟨xs, q, rfl⟩ ⟨ys, r, rfl⟩
    rw [sqx_inj I q r]
  give := by
    rintro X pins σ H s _ i rfl rfl rfl hh I ⟨he, hj⟩ ⟨xs, q, rfl⟩
    have ⟨us, r, c, _⟩ := sqx_get I q
    have W := WalksT.enumFrom (A := X.A) 0 (drx (X := X) (t := t) hh n2 us.toArray) e n3 (by simp [n3, Ne.symm n1]) (List.mem_cons_self ..)
    rw [show us.toArray.size = xs.length by rw [r.length]; rfl] at W
    refine ⟨_, _, _, _, _, W, fun c m => m, ⟨he, hj, c⟩, fun k h st => ⟨st.1, st.2.1⟩, fun vs ⟨tk, y, e1, e2⟩ => ?_⟩
    have ⟨x, hx, rx⟩ := vals_at r e1
    subst e2
    exact ⟨[.int (i : Nat), x], .cons ⟨tk, by rw [Int.zero_add]⟩ (.cons rx .nil), by simp, x, hx, rfl⟩
def iEnumX (K : PySem.W.Frag) (ta : TA) : TI := fun σ H R => ta σ H fun vs H1 => ∃ t a xs, vs = [.ref a] ∧ SqX K H1 t a xs ∧ R (rowIt (rwE K t a)) H1
theorem pi_enumX {X : Cx} {e : Expr} {ta : TA} {p pos tpos : Pos} {elts : List Expr} {kk : Nat} (hg : Gl X "enumerate") (hm : X.mg "enumerate" = none) (ha : PA X [e] ta) (hs : starEach [e] X.env = [(false, eval e X.env)] := by rfl) :
    PI X (.Tuple elts kk tpos) (.Call (.Name "enumerate" p) [e] [] pos) (iEnumX X.K ta) := by
  constructor
  intro pins s σ H R I q0
  refine Call_ (ld_blt I hg hm boot_enumerate (PyProof.Rows.callWith_type1 (thn (ha.run pos pins s σ H _ I q0) fun us s1 ⟨vs, H1, I1, rr, t, a, xs, ex, hq, q⟩ => ?_) hs rfl))
  subst ex
  have ⟨u, eu, ru⟩ := rr.one
  subst eu
  cases ru
  have ⟨us, r, c, la⟩ := sqx_get I1 hq
  refine enum_called (begx us.toArray) c fun h' he hj k => wpAny_pyIter_enum he ((enum_giver (Nat.ne_of_lt (Nat.lt_succ_of_lt la)) (Nat.ne_of_lt la) (Nat.succ_ne_self _)).begun I1 k ⟨⟨_, he⟩, itx_new hj⟩ ?_ q)
  exact List.forall_mem_cons.mpr ⟨Nat.le_succ _, List.forall_mem_cons.mpr ⟨Nat.le_refl _, nofun⟩⟩
def rwZ (K : PySem.W.Frag) (t1 t2 : Bool) (a b : Addr) (H : Hp) (B : Tab) : Prop :=
  ∃ xs ys, SqX K H t1 a xs ∧ SqX K H t2 b ys ∧ B = ⟨min xs.length ys.length, fun i r => ∃ x y, xs[i]? = some x ∧ ys[i]? = some y ∧ r = [x, y]⟩
theorem zip_giver {P : Program} {w : World} {K : PySem.W.Frag} {t1 t2 : Bool} {a b z TI TO j1 j2 : Addr} (D : ZipSep2 z TI TO j1 j2 [j1, a] [j2, b]) (n1 : a ≠ j1) (n2 : b ≠ j2) :
    Giver P w K (rwZ K t1 t2 a b) [z, TI, TO, j1, j2] z (fun i h => IsZip h z TI TO .none ∧ IsTupOf2 h TI (.ref j1) (.ref j2) ∧ (∃ x y, IsTupOf2 h TO x y) ∧ ItX h t1 j1 a i ∧ ItX h t2 j2 b i) where
  mem := List.mem_cons_self ..
  obj := by
    intro i h ⟨hz, hI, ⟨x, y, hO⟩, h1, h2⟩
    simp only [List.forall_mem_cons]
    exact ⟨⟨_, hz, nofun⟩, ⟨_, hI, nofun⟩, ⟨_, hO, nofun⟩, itx_obj h1, itx_obj h2, nofun⟩
  keep := by
    intro i h h' ⟨hz, hI, ⟨x, y, hO⟩, h1, h2⟩ k
    simp only [List.forall_mem_cons] at k
    have ⟨kz, kI, kO, k1, k2, _⟩ := k
    exact ⟨kz _ hz, kI _ hI, ⟨x, y, kO _ hO⟩, itx_at h1 k1, itx_at h2 k2⟩
  self := fun A i s Q E st q => wpAny_pyIter_zip st.1 q
  uni := by
    rintro X pins σ H s _ _ rfl I ⟨xs, ys, q1, q2, rfl⟩ ⟨xs', ys', r1, r2, rfl⟩
    rw [sqx_inj I q1 r1, sqx_inj I q2 r2]
  give := by
    rintro X pins σ H s _ i rfl rfl rfl hh I ⟨hz, hI, hO, h1, h2⟩ ⟨xs, ys, q1, q2, rfl⟩
    have ⟨us, r1, c1, _⟩ := sqx_get I q1
    have ⟨ws, r2, c2, _⟩ := sqx_get I q2
    have W := WalksT.zipD2 (A := X.A) D (drx (X := X) (t := t1) hh n1 us.toArray) (drx (X := X) (t := t2) hh n2 ws.toArray)
    rw [show min us.toArray.size ws.toArray.size = min xs.length ys.length by rw [r1.length, r2.length]; rfl] at W
    refine ⟨_, _, _, _, _, W, ?_, ⟨hz, hI, hO, ⟨h1, c1⟩, h2, c2⟩, fun k h st => ⟨st.1, st.2.1, st.2.2.1, st.2.2.2.1.1, st.2.2.2.2.1⟩, fun vs ⟨y1, y2, e1, e2, e3⟩ => ?_⟩
    · simp only [List.forall_mem_cons]
      simp
    · have ⟨x1, hx1, rx1⟩ := vals_at r1 e1
      have ⟨x2, hx2, rx2⟩ := vals_at r2 e2
      subst e3
      exact ⟨[x1, x2], .cons rx1 (.cons rx2 .nil), by simp, x1, x2, hx1, hx2, rfl⟩
theorem lt_of_one {N : Nat} {a : Addr} (h : a < N) : ∀ c ∈ [a], c < N := List.forall_mem_cons.mpr ⟨h, nofun⟩
def iZipX (K : PySem.W.Frag) (ta : TA) : TI := fun σ H R => ta σ H fun vs H1 => ∃ t1 t2 a b xs ys, vs = [.ref a, .ref b] ∧ SqX K H1 t1 a xs ∧ SqX K H1 t2 b ys ∧ R (rowIt (rwZ K t1 t2 a b)) H1
theorem pi_zipX {X : Cx} {e e2 : Expr} {ta : TA} {p pos tpos : Pos} {elts : List Expr} {kk : Nat} (hg : Gl X "zip") (hm : X.mg "zip" = none) (ha : PA X [e, e2] ta)
    (hst : starEach [e, e2] X.env = (false, eval e X.env) :: starEach [e2] X.env := by rfl) (hpl : (backTo pos (starEach [e2] X.env)).any (·.1) = false := by rfl) :
    PI X (.Tuple elts kk tpos) (.Call (.Name "zip" p) [e, e2] [] pos) (iZipX X.K ta) := by
  constructor
  intro pins s σ H R I q0
  refine Call_ (ld_blt I hg hm PyProof.Rows.boot_zip (PyProof.Rows.callWith_type1 (thn (ha.run pos pins s σ H _ I q0) fun us s1 ⟨vs, H1, I1, rr, t1, t2, a, b, xs, ys, ex, d1, d2, q⟩ => ?_) hst hpl))
  subst ex
  obtain _ | ⟨ra, _ | ⟨rb, _ | _⟩⟩ := rr
  cases ra
  cases rb
  have ⟨us, r1, c1, la⟩ := sqx_get I1 d1
  have ⟨ws, r2, c2, lb⟩ := sqx_get I1 d2
  refine zip_begins2 (begx us.toArray) (begx ws.toArray) c1 c2 fun h' hz hI hO g1 g2 _ k => wpAny_pyIter_zip hz ?_
  refine (zip_giver (zip_sep2 (lt_of_one la) (lt_of_one lb)) (Nat.ne_of_lt la) (Nat.ne_of_lt (Nat.lt_succ_of_lt lb))).begun I1 k ⟨hz, hI, ⟨_, _, hO⟩, itx_new g1, itx_new g2⟩ ?_ q
  simp only [List.forall_mem_cons]
  exact ⟨Nat.le_add_right _ _, Nat.le_add_right _ _, Nat.le_add_right _ _, Nat.le_refl _, Nat.le_add_right _ _, nofun⟩
end Sm
namespace Sm
open PySem PySem.Spec PyProof.Rows L2
section
variable {K : PySem.W.Frag} {cl : Nat → Addr} {ω : Wd} {h : Store} {H : Hp}
theorem rep_int {i : Int} : Rep K ω (.int i) (.int i) := by simp only [Rep]
theorem rep_bl {i : Bool} : Rep K ω (.bl i) (.bl i) := by simp only [Rep]
theorem rep_str {i : Str} : Rep K ω (.str i) (.str i) := by simp only [Rep]
theorem rep_non : Rep K ω .non .non := by simp only [Rep]
theorem Rep.int_inv {i : Int} {v : V} (r : Rep K ω (.int i) v) : v = .int i := by simpa only [Rep] using r
theorem Rep.bl_inv {i : Bool} {v : V} (r : Rep K ω (.bl i) v) : v = .bl i := by simpa only [Rep] using r
theorem Rep.str_inv {i : Str} {v : V} (r : Rep K ω (.str i) v) : v = .str i := by simpa only [Rep] using r
theorem Rep.non_inv {v : V} (r : Rep K ω .non v) : v = .non := by simpa only [Rep] using r
theorem give_tup {Q : VK} {ts : List T} {vs : List V} (S : StOk K cl ω h H) (r : Reps K ω ts vs) (q : ∀ ω' H' v, Nx ω H ω' H' → StOk K cl ω' h H' → Rep K ω' (.tup ts) v → Q v H') {p : Addr} (hp : H p = none) : Q (.ref p) (upd H p (.tup vs)) := by
  refine q _ _ _ (nx_newF S hp) (S.newF hp) ?_
  simp only [Rep]
  exact ⟨p, vs, rfl, SqT.of upd_same, r.mono (gr_fix (S.freshF hp))⟩
theorem give_lst {Q : VK} {ts : List T} {vs : List V} (S : StOk K cl ω h H) (r : Reps K ω ts vs) (q : ∀ ω' H' v, Nx ω H ω' H' → StOk K cl ω' h H' → Rep K ω' (.lst ts) v → Q v H') {p : Addr} (hp : H p = none) : Q (.ref p) (upd H p (.lst vs)) := by
  refine q _ _ _ (nx_newF S hp) (S.newF hp) ?_
  simp only [Rep]
  exact ⟨p, vs, rfl, upd_same, r.mono (gr_fix (S.freshF hp))⟩
theorem Reps.flat {xs : List T} {vs : List V} (r : Reps K ω xs vs) (k : Nat) : Reps K ω (List.replicate k xs).flatten (List.replicate k vs).flatten := by
  induction k with
  | zero => exact Reps.nil
  | succ k ih =>
    rw [List.replicate_succ, List.replicate_succ, List.flatten_cons, List.flatten_cons]
    exact r.append ih
end
def mulB (i j : Int) : Bool := !(decide (Builtin.Int.intBits i > shortFactorBits) && decide (Builtin.Int.intBits j > shortFactorBits) && Builtin.Int.intTooBig (Builtin.Int.intBits i + Builtin.Int.intBits j))
theorem mulB_ok {i j : Int} (h : mulB i j = true) : IntMulOk i j := by
  unfold mulB at h
  unfold IntMulOk
  intro z
  rw [z] at h
  cases h
def intsOf? : List T → Option (List Int)
  | [] => some []
  | .int i :: r => (intsOf? r).map (i :: ·)
  | _ => none
def fAdd : F2
  | .int i, .int j, _ => some (.int (i + j))
  | .str i, .str j, _ => if i.length + j.length ≤ 100000 then some (.str (i ++ j)) else none
  | .tup xs, .tup ys, _ => if xs.length + ys.length ≤ 100000 then some (.tup (xs ++ ys)) else none
  | a, b, h => match lstOf h a, lstOf h b with
    | some xs, some ys => if xs.length + ys.length ≤ 100000 then some (.lst (xs ++ ys)) else none
    | _, _ => none
def fSub : F2
  | .int i, .int j, _ => some (.int (i - j))
  | _, _, _ => none
def fMul : F2
  | .int i, .int j, _ => if mulB i j = true then some (.int (i * j)) else none
  | .tup xs, .int k, _ => if xs ≠ [] ∧ 2 ≤ k ∧ k ≤ 100000 ∧ xs.length ≤ 40 then some (.tup (List.replicate k.toNat xs).flatten) else none
  | a, .int k, h => match lstOf h a with
    | some xs => if k < 100000 ∧ -100000 < k ∧ xs.length ≤ 100 then some (.lst (List.replicate k.toNat xs).flatten) else none
    | none => none
  | _, _, _ => none
def divB (j : Int) : Bool := decide (j ≠ 0) && decide (j.natAbs.log2 < 9000)
def fFdiv : F2
  | .int i, .int j, _ => if divB j = true then some (.int (i.fdiv j)) else none
  | _, _, _ => none
def fMod : F2
  | .int i, .int j, _ => if j ≠ 0 then some (.int (i.fmod j)) else none
  | _, _, _ => none
def fPow : F2
  | .int i, .int j, _ => if 0 ≤ j ∧ j ≤ 100000 ∧ i.natAbs < 2 ^ 64 then some (.int (i ^ j.toNat)) else none
  | _, _, _ => none
theorem line5 {n : Nat} (h : n ≤ 100000) : n ≤ sizeLine := by rw [sizeLine_eq]; omega
theorem ne_ite {α : Type} {c : Prop} [Decidable c] {x t : α} (h : (if c then some x else none) = some t) : c ∧ x = t := by
  split at h
  · exact ⟨by assumption, Option.some.inj h⟩
  · cases h
section
variable {X : Cx} {cl : Nat → Addr}
theorem o_sub : OpR X (binaryOp .Sub) (rV2 X.K cl fSub) := by
  intro pins s σ H x y v u Q I rx ry ⟨a, b, h, ω, t, S, ra, rb, e, q⟩
  unfold fSub at e
  split at e
  · rw [ra.int_inv] at rx; rw [rb.int_inv] at ry; cases e
    exact op_sub pins s σ H _ _ v u Q I rx ry ⟨_, _, rfl, rfl, q _ _ _ (Nx.refl _ _) S rep_int⟩
  · cases e
theorem o_mod : OpR X (binaryOp .Mod) (rV2 X.K cl fMod) := by
  intro pins s σ H x y v u Q I rx ry ⟨a, b, h, ω, t, S, ra, rb, e, q⟩
  unfold fMod at e
  split at e
  · rw [ra.int_inv] at rx; rw [rb.int_inv] at ry
    obtain ⟨c, rfl⟩ := ne_ite e
    exact op_modN pins s σ H _ _ v u Q I rx ry ⟨_, _, rfl, rfl, c, q _ _ _ (Nx.refl _ _) S rep_int⟩
  · cases e
theorem o_fdiv : OpR X (binaryOp .FloorDiv) (rV2 X.K cl fFdiv) := by
  intro pins s σ H x y v u Q I rx ry ⟨a, b, h, ω, t, S, ra, rb, e, q⟩
  unfold fFdiv at e
  split at e
  · rw [ra.int_inv] at rx; rw [rb.int_inv] at ry
    obtain ⟨c, rfl⟩ := ne_ite e
    obtain ⟨t1, rfl⟩ := rx
    obtain ⟨t2, rfl⟩ := ry
    simp only [divB, Bool.and_eq_true, decide_eq_true_eq] at c
    exact floordiv_int c.1 ⟨.int _, H, I.tok _, ⟨_, rfl⟩, q _ _ _ (Nx.refl _ _) S rep_int⟩ (.inl (PyProof.noPylong_of_log2 c.2))
  · cases e
theorem o_pow : OpR X (binaryOp .Pow) (rV2 X.K cl fPow) := by
  intro pins s σ H x y v u Q I rx ry ⟨a, b, h, ω, t, S, ra, rb, e, q⟩
  unfold fPow at e
  split at e
  · rw [ra.int_inv] at rx; rw [rb.int_inv] at ry
    obtain ⟨c, rfl⟩ := ne_ite e
    exact op_pow pins s σ H _ _ v u Q I rx ry ⟨_, _, rfl, rfl, ⟨c.1, by omega, c.2.2⟩, q _ _ _ (Nx.refl _ _) S rep_int⟩
  · cases e
theorem o_add : OpR X (binaryOp .Add) (rV2 X.K cl fAdd) := by
  intro pins s σ H x y v u Q I rx ry ⟨a, b, h, ω, t, S, ra, rb, e, q⟩
  unfold fAdd at e
  split at e
  · rw [ra.int_inv] at rx; rw [rb.int_inv] at ry; cases e
    exact op_add pins s σ H _ _ v u Q I rx ry ⟨_, _, rfl, rfl, q _ _ _ (Nx.refl _ _) S rep_int⟩
  · rw [ra.str_inv] at rx; rw [rb.str_inv] at ry
    obtain ⟨c, rfl⟩ := ne_ite e
    exact op_add_str pins s σ H _ _ v u Q I rx ry ⟨_, _, rfl, rfl, line5 c, q _ _ _ (Nx.refl _ _) S rep_str⟩
  · rename_i xs ys
    obtain ⟨c, rfl⟩ := ne_ite e
    obtain ⟨p, vs, rfl, b1, c1⟩ := tupOf_ok (xs := xs) S ra rfl
    obtain ⟨p2, vs2, rfl, b2, c2⟩ := tupOf_ok (xs := ys) S rb rfl
    have l1 := c1.length
    have l2 := c2.length
    refine op_catA pins s σ H _ _ v u Q I rx ry ⟨p, p2, vs, vs2, rfl, rfl, b1, b2, by rw [← l1, ← l2]; exact line5 c, fun e1 => ?_, fun n1 e2 => ?_, fun n1 n2 p hp => ?_⟩
    · have : xs = [] := by cases xs with | nil => rfl | cons _ _ => rw [e1] at l1; simp at l1
      subst this
      exact q _ _ _ (Nx.refl _ _) S rb
    · have : ys = [] := by cases ys with | nil => rfl | cons _ _ => rw [e2] at l2; simp at l2
      subst this
      refine q _ _ _ (Nx.refl _ _) S ?_
      rw [List.append_nil]
      exact ra
    · exact give_tup S (c1.append c2) q hp
  · split at e
    · rename_i xs ys ea eb
      obtain ⟨c, rfl⟩ := ne_ite e
      obtain ⟨p, vs, rfl, b1, c1⟩ := lstOf_ok S ra ea
      obtain ⟨p2, vs2, rfl, b2, c2⟩ := lstOf_ok S rb eb
      exact op_cat pins s σ H _ _ v u Q I rx ry ⟨p, p2, vs, vs2, rfl, rfl, b1, b2, by rw [← c1.length, ← c2.length]; exact line5 c, fun p hp => give_lst S (c1.append c2) q hp⟩
    · cases e
theorem op_many : OpR X (binaryOp .Mult) (fun x y H Q => ∃ l k xs, x = .ref l ∧ y = .int k ∧ SqT X.K H l xs ∧ xs ≠ [] ∧ 2 ≤ k ∧ k ≤ 100000 ∧ xs.length ≤ 40 ∧ ∀ p, H p = none → Q (.ref p) (upd H p (.tup (List.replicate k.toNat xs).flatten))) := by
  rintro pins s σ H _ _ v u Q I rx ry ⟨l, k, xs, rfl, rfl, tp, ne, k2, k5, few, q⟩
  cases rx
  have ⟨tk, ek⟩ := ry
  subst ek
  have ⟨its, r, ⟨o, at_l, cls_l, n, dat_l⟩, _⟩ := I.tuple tp
  rcases o with ⟨cls, dd, dat, sl⟩
  cases (show cls = _ from cls_l)
  cases (show dat = _ from dat_l)
  have lens := r.length
  have full : its ≠ [] := fun z => ne (List.length_eq_zero_iff.mp (by rw [lens, z]; rfl))
  have some_ : its.toArray.isEmpty = false := by
    rcases its with _ | ⟨a, b⟩
    · exact absurd rfl full
    · rfl
  have room : k.toNat * its.length ≤ 4000000 := by
    have a := Nat.mul_le_mul (show k.toNat ≤ 100000 by omega) (show its.length ≤ 40 by omega)
    omega
  have prod : ((its.toArray.size : Nat) : Int) * k = ((k.toNat * its.length : Nat) : Int) := by
    rw [List.size_toArray, Int.natCast_mul, Int.toNat_of_nonneg (by omega), Int.mul_comm]
  have e0 : (decide (k < -(2 ^ 63)) || decide (k ≥ 2 ^ 63)) = false := by simp; omega
  have e1 : (its.toArray.isEmpty || k == 1) = false := by rw [some_]; simp; omega
  have e2 : (decide (k ≤ 0) || its.toArray.isEmpty) = false := by rw [some_]; simp; omega
  have e3 : ¬ ((its.toArray.size : Nat) : Int) * k > (2 ^ 63 - 1) / 8 := by rw [prod]; omega
  have e4 : Builtin.Tuple.tupleTooMany (((its.toArray.size : Nat) : Int) * k) = false := by
    rw [prod]
    unfold Builtin.Tuple.tupleTooMany
    simp only [sizeLine_eq, decide_eq_false_iff_not]
    omega
  have flat : (List.replicate k.toNat its).flatten.length ≤ sizeLine := by rw [PyProof.Rows.lm_len_rep_flat, sizeLine_eq]; omega
  refine wpAny_binaryOp_repeat_ref (T := "tuple") (U := "int") (by decide) ⟨_, at_l, rfl⟩ (fun _ => typeIs_int _ k tk) noFill_tuple_mul F.fills_int_mul F.slot_int_rmul repeat_tuple F.slot_int_index.lookup ?_
  refine call_meets F.slot_int_rmul (typeIs_int s k tk) F.entry_int_rmul (F.args_int_rmul_2 _ _) (int_rmul_tuple k tk l its.toArray n dd sl) ⟨at_l, rfl, ⟨_, at_l, rfl⟩, ?_⟩
  refine call_meets F.slot_tuple_mul ⟨_, at_l, rfl⟩ F.entry_tuple_mul (F.args_tuple_mul_2 _ _) (tuple_mulW l its.toArray n dd sl k tk e0 e1 e2 e3 e4 (by rw [size_rep, List.size_toArray]; exact flat)) ⟨at_l, ?_⟩
  rw [size_rep]
  have laid : ObjOk X.prog X.w (upd H s.heap.objs.size (.tup (List.replicate k.toNat xs).flatten)) (s.heap.push { cls := .type "tuple", data := .seq (List.replicate k.toNat its).flatten.toArray }) s.heap.objs.size (.tup (List.replicate k.toNat xs).flatten) :=
    ⟨by rw [PyProof.Rows.lm_len_rep_flat, lens, sizeLine_eq]; omega, _, r.rep k.toNat, IsTup.new _ _⟩
  exact ⟨.ref s.heap.objs.size, _, I.laid (t' := s.toks) (fun _ _ z => Heap.get?_push_of_some _ z) (Nat.le_refl _) laid, rfl, q _ (I.hok.fresh (Nat.le_refl _))⟩
theorem o_mul : OpR X (binaryOp .Mult) (rV2 X.K cl fMul) := by
  intro pins s σ H x y v u Q I rx ry ⟨a, b, h, ω, t, S, ra, rb, e, q⟩
  unfold fMul at e
  split at e
  · rw [ra.int_inv] at rx; rw [rb.int_inv] at ry
    obtain ⟨c, rfl⟩ := ne_ite e
    obtain ⟨t1, rfl⟩ := rx
    obtain ⟨t2, rfl⟩ := ry
    exact mul_int ⟨.int _, H, I.tok _, ⟨_, rfl⟩, q _ _ _ (Nx.refl _ _) S rep_int⟩ (mulB_ok c)
  · rename_i xs k
    obtain ⟨c, rfl⟩ := ne_ite e
    rw [rb.int_inv] at ry
    obtain ⟨p, vs, rfl, b1, c1⟩ := tupOf_ok (xs := xs) S ra rfl
    have l1 := c1.length
    refine op_many pins s σ H _ _ v u Q I rx ry ⟨p, k, vs, rfl, rfl, b1, fun e => ?_, c.2.1, c.2.2.1, by rw [← l1]; exact c.2.2.2, fun p hp => give_tup S (c1.flat _) q hp⟩
    subst e
    exact c.1 (List.eq_nil_of_length_eq_zero (by rw [l1]; rfl))
  · split at e
    · rename_i k _ _ _ xs ea
      obtain ⟨c, rfl⟩ := ne_ite e
      rw [rb.int_inv] at ry
      obtain ⟨p, vs, rfl, b1, c1⟩ := lstOf_ok S ra ea
      refine op_rep pins s σ H _ _ v u Q I rx ry ⟨p, k, vs, rfl, rfl, b1, by omega, by omega, ?_, fun p hp => give_lst S (c1.flat _) q hp⟩
      rw [← c1.length, sizeLine_eq]
      have h1 : k.toNat ≤ 100000 := by omega
      have h2 : xs.length ≤ 100 := c.2.2
      have := Nat.mul_le_mul h2 h1
      omega
    · cases e
  · cases e
def rNew2 (K : PySem.W.Frag) (cl : Nat → Addr) (f : T → T → Store → Option (List T)) : R2 := fun x y H Q => ∃ a b h ω ts, StOk K cl ω h H ∧ Rep K ω a x ∧ Rep K ω b y ∧ f a b h = some ts ∧ ∀ p vs, Reps K ω ts vs → H p = none → Q (.ref p) (upd H p (.lst vs))
def fCat (a b : T) (h : Store) : Option (List T) := match lstOf h a, lstOf h b with
  | some xs, some ys => if xs.length + ys.length ≤ 100000 then some (xs ++ ys) else none
  | _, _ => none
theorem n_cat : OpR X (binaryOp .Add) (rNew2 X.K cl fCat) := by
  intro pins s σ H x y v u Q I rx ry ⟨a, b, h, ω, t, S, ra, rb, e, q⟩
  unfold fCat at e
  split at e
  · rename_i xs ys ea eb
    obtain ⟨c, rfl⟩ := ne_ite e
    obtain ⟨p, vs, rfl, b1, c1⟩ := lstOf_ok S ra ea
    obtain ⟨p2, vs2, rfl, b2, c2⟩ := lstOf_ok S rb eb
    exact op_cat pins s σ H _ _ v u Q I rx ry ⟨p, p2, vs, vs2, rfl, rfl, b1, b2, by rw [← c1.length, ← c2.length]; exact line5 c, fun p hp => q p _ (c1.append c2) hp⟩
  · cases e
def mNew2 (f : T → T → Store → Option (List T)) (m n : M T) : M (List T) := fun env h => (m env h).bind fun a h1 => (n env h1).bind fun b h2 => Out.ofO (f a b h2) h2
theorem new2_step {K : PySem.W.Frag} {W : WX} {m n : M T} {f : T → T → Store → Option (List T)} {σ : L2.St} {H : Hp} {Q : VK} (h : tN K cl W (mNew2 f m n) σ H Q) : tE K cl W m σ H fun x H1 => tE K cl W n σ H1 fun y H2 => rNew2 K cl f x y H2 Q := by
  obtain ⟨env, h, ω, he, hs, q⟩ := h
  unfold mNew2 at q
  refine ⟨env, h, ω, he, hs, ?_⟩
  revert q
  cases m env h with
  | bad => exact fun z => z
  | ex x h1 => exact fun z => z
  | ok tx h1 =>
    intro q ω1 H1 N1 S1 vx rx
    refine ⟨env, h1, ω1, he.mono N1.toGr, S1, ?_⟩
    simp only [Out.bind] at q
    revert q
    cases n env h1 with
    | bad => exact fun z => z
    | ex x h1 => exact fun z ω2 H2 cls d N2 S2 x => z ω2 H2 cls d (N1.trans N2) S2 x
    | ok ty h2 =>
      intro q ω2 H2 N2 S2 vy ry
      simp only at q
      cases e : f tx ty h2 with
      | none => rw [e] at q; exact q.elim
      | some ts =>
        rw [e] at q
        refine ⟨tx, ty, h2, ω2, ts, S2, rx.mono N2.toGr, ry, e, fun p vs rv hp => ?_⟩
        exact q ω2 _ ((N1.trans N2).trans (nx_lay hp)) (S2.lay hp) p vs rv upd_same (S2.freshF hp) (S2.freshR hp) ((N1.trans N2).dom p hp)
theorem kn_bin {W : WX} {a b : Expr} {m n : M T} {pos : Pos} {op : Operator} {f : T → T → Store → Option (List T)} (ho : OpR X (binaryOp op) (rNew2 X.K cl f)) (ha : PE X a (tE X.K cl W m)) (hb : PE X b (tE X.K cl W n)) : PE X (.BinOp a op b pos) (tN X.K cl W (mNew2 f m n)) :=
  (pe_op ho ha hb).weak fun _ _ _ h => new2_step h
end
end Sm
namespace Sm
open PySem PySem.Spec PyProof.Rows L2
mutual
def dat : T → Option PyData
  | .non => some .none
  | .bl b => some (.bool b)
  | .int i => some (.int i)
  | .str s => some (.str s)
  | .tup xs => (dats xs).map .tuple
  | .lst xs => (dats xs).map .list
  | .loc _ => none
  | .scr _ => none
  | .emp => none
  | .adr _ _ _ _ => none
  | .fnc _ => none
  | .unk => none
  | .dct _ _ => none
def dats : List T → Option (List PyData)
  | [] => some []
  | x :: r => match dat x, dats r with
    | some d, some l => some (d :: l)
    | _, _ => none
end
def datS (h : Store) : T → Option PyData
  | .loc n => match h[n]? with
    | some (.lst xs) => (dats xs).map .list
    | _ => none
  | t => dat t
section
variable {K : PySem.W.Frag} {cl : Nat → Addr} {ω : Wd} {h : Store} {H : Hp}
mutual
theorem dat_ok (S : StOk K cl ω h H) : ∀ {t : T} {v : V} {d : PyData}, Rep K ω t v → dat t = some d → Dp K H v d
  | .non, v, d, r, e => by simp only [dat, Option.some.injEq] at e; subst e; rw [r.non_inv]; exact .non
  | .bl b, v, d, r, e => by simp only [dat, Option.some.injEq] at e; subst e; rw [r.bl_inv]; exact .bl b
  | .int i, v, d, r, e => by simp only [dat, Option.some.injEq] at e; subst e; rw [r.int_inv]; exact .int i
  | .str s, v, d, r, e => by simp only [dat, Option.some.injEq] at e; subst e; rw [r.str_inv]; exact .str s
  | .tup xs, v, d, r, e => by
    simp only [dat, Option.map_eq_some_iff] at e
    obtain ⟨ds, e1, rfl⟩ := e
    simp only [Rep] at r
    obtain ⟨p, vs, rfl, b, c⟩ := r
    exact .tup (sqT_mono S.phi b) (dats_ok S c e1)
  | .lst xs, v, d, r, e => by
    simp only [dat, Option.map_eq_some_iff] at e
    obtain ⟨ds, e1, rfl⟩ := e
    simp only [Rep] at r
    obtain ⟨p, vs, rfl, b, c⟩ := r
    exact .lst (SqL.of (S.phi _ _ b)) (dats_ok S c e1)
  | .loc n, v, d, r, e => by simp [dat] at e
  | .scr n, v, d, r, e => by simp [dat] at e
  | .emp, v, d, r, e => by simp [dat] at e
  | .adr _ _ _ _, v, d, r, e => by simp [dat] at e
  | .dct _ _, v, d, r, e => by simp [dat] at e
  | .fnc _, v, d, r, e => by simp [dat] at e
  | .unk, v, d, r, e => by simp [dat] at e
theorem dats_ok (S : StOk K cl ω h H) : ∀ {ts : List T} {vs : List V} {ds : List PyData}, Reps K ω ts vs → dats ts = some ds → DpAll K H vs ds
  | [], vs, ds, r, e => by
    simp only [dats, Option.some.injEq] at e
    subst e
    rw [r.nil_inv]
    exact .nil
  | x :: xs, vs, ds, r, e => by
    simp only [dats] at e
    split at e
    · rename_i d ds' e1 e2
      cases e
      obtain ⟨v, vr, rfl, a, b⟩ := r.inv
      exact .cons (dat_ok S a e1) (dats_ok S b e2)
    · cases e
end
theorem datS_ok (S : StOk K cl ω h H) {t : T} {v : V} {d : PyData} (r : Rep K ω t v) (e : datS h t = some d) : Dp K H v d := by
  cases t with
  | loc n =>
    simp only [datS] at e
    split at e
    · rename_i xs hn
      rw [Option.map_eq_some_iff] at e
      obtain ⟨ds, e1, rfl⟩ := e
      obtain ⟨p, vs, rfl, _, b, c, _⟩ := lst_at S r hn
      exact .lst (SqL.of b) (dats_ok S c e1)
    · cases e
  | _ => exact dat_ok S r (by simpa only [datS] using e)
end
def eqG (a b : T) (h : Store) : Option Bool := match datS h a, datS h b with
  | some d, some e => if SeqAt.shaped d = true ∧ SeqAt.shaped e = true then some (PyData.eqv d e) else none
  | _, _ => none
def eqB (a b : T) (h : Store) : Option Bool := match a, b with
  | .int i, .int j => some (decide (i = j))
  | .bl i, .bl j => some (decide (i = j))
  | .str i, .str j => some (decide (i = j))
  | a, b => eqG a b h
def fEq : F2 := fun a b h => (eqB a b h).map .bl
def fNe : F2 := fun a b h => (eqB a b h).map fun c => .bl (!c)
def cmpI (p : Int → Int → Bool) : F2
  | .int i, .int j, _ => some (.bl (p i j))
  | _, _, _ => none
def fLt : F2
  | .int i, .int j, _ => some (.bl (decide (i < j)))
  | .str i, .str j, _ => some (.bl (decide (i.cps.toList < j.cps.toList)))
  | .tup xs, .tup ys, _ => match intsOf? xs, intsOf? ys with
    | some ns, some ms => some (.bl (HT.lexLt ns ms))
    | _, _ => none
  | _, _, _ => none
def fLe : F2 := cmpI fun i j => decide (i ≤ j)
def fGt : F2 := cmpI fun i j => decide (j < i)
def fGe : F2 := cmpI fun i j => decide (j ≤ i)
def isNon : T → Bool
  | .non => true
  | _ => false
def fIs : F2
  | a, .non, _ => some (.bl (isNon a))
  | .bl a, .bl b, _ => some (.bl (decide (a = b)))
  | _, _, _ => none
def fIsNot : F2
  | a, .non, _ => some (.bl (!isNon a))
  | .bl a, .bl b, _ => some (.bl (!decide (a = b)))
  | _, _, _ => none
def flatT : T → Bool
  | .non => true
  | .bl _ => true
  | .int _ => true
  | .str _ => true
  | _ => false
def eqT : T → T → Bool
  | .non, .non => true
  | .bl a, .bl b => a == b
  | .bl c, .int i => (if c then 1 else 0) == i
  | .int i, .bl c => i == (if c then 1 else 0)
  | .int a, .int b => a == b
  | .str a, .str b => a == b
  | _, _ => false
section
variable {K : PySem.W.Frag} {ω : Wd}
theorem Rep.nonIff {t : T} {v : V} (r : Rep K ω t v) : decide (v = .non) = isNon t := by
  cases t with
  | non => rw [r.non_inv]; rfl
  | bl b => rw [r.bl_inv]; rfl
  | int b => rw [r.int_inv]; rfl
  | str b => rw [r.str_inv]; rfl
  | tup xs => simp only [Rep] at r; obtain ⟨p, vs, rfl, _⟩ := r; rfl
  | lst xs => simp only [Rep] at r; obtain ⟨p, vs, rfl, _⟩ := r; rfl
  | loc n => simp only [Rep] at r; obtain ⟨p, rfl, _⟩ := r; rfl
  | scr n => simp only [Rep] at r; obtain ⟨p, rfl, _⟩ := r; rfl
  | emp => simp only [Rep] at r; obtain ⟨p, rfl, _⟩ := r; rfl
  | adr a d f ts => simp only [Rep] at r; obtain ⟨rfl, _⟩ := r; rfl
  | fnc x => simp only [Rep] at r; subst r; rfl
  | unk => simp only [Rep] at r; obtain ⟨z, rfl⟩ := r; rfl
  | dct ks ts => simp only [Rep] at r; obtain ⟨p, vs, rfl, _⟩ := r; rfl
theorem Rep.flat {t : T} {v : V} (r : Rep K ω t v) (f : flatT t = true) : flatV v = true := by
  cases t with
  | non => rw [r.non_inv]; exact f
  | bl b => rw [r.bl_inv]; exact f
  | int b => rw [r.int_inv]; exact f
  | str b => rw [r.str_inv]; exact f
  | tup xs => simp only [Rep] at r; obtain ⟨p, vs, rfl, _⟩ := r; exact f
  | lst xs => simp only [Rep] at r; obtain ⟨p, vs, rfl, _⟩ := r; exact f
  | loc n => simp only [Rep] at r; obtain ⟨p, rfl, _⟩ := r; exact f
  | scr n => simp only [Rep] at r; obtain ⟨p, rfl, _⟩ := r; exact f
  | emp => simp only [Rep] at r; obtain ⟨p, rfl, _⟩ := r; exact f
  | adr a d f ts => simp only [Rep] at r; obtain ⟨rfl, _⟩ := r; exact f
  | fnc x => simp only [Rep] at r; subst r; exact f
  | unk => cases f
  | dct ks ts => simp only [Rep] at r; obtain ⟨p, vs, rfl, _⟩ := r; exact f
theorem Rep.eqv {t u : T} {v w : V} (r : Rep K ω t v) (q : Rep K ω u w) (f : flatT t = true) (g : flatT u = true) : eqV v w = eqT t u := by
  cases t <;> simp only [flatT, Bool.false_eq_true] at f <;> cases u <;> simp only [flatT, Bool.false_eq_true] at g <;>
    simp only [Rep] at r q <;> subst r <;> subst q <;> rfl
theorem Reps.ints : ∀ {ts : List T} {vs : List V} {ns : List Int}, Reps K ω ts vs → intsOf? ts = some ns → vs = ns.map V.int
  | [], _, ns, r, e => by
    simp only [intsOf?, Option.some.injEq] at e
    subst e
    exact r.nil_inv
  | t :: ts, _, ns, r, e => by
    obtain ⟨v, vr, rfl, a, b⟩ := r.inv
    cases t with
    | int i =>
      simp only [intsOf?, Option.map_eq_some_iff] at e
      obtain ⟨ms, e1, rfl⟩ := e
      rw [a.int_inv, Reps.ints b e1]
      rfl
    | _ => simp [intsOf?] at e
end
section
variable {X : Cx} {cl : Nat → Addr}
theorem eqB_ok (hu : X.A.units + 64 < cLine) {pins : List (Addr × Obj)} {s : Shared} {σ : L2.St} {H : Hp} {x y : V} {v u : Value} {Q : VK} {a b : T} {h : Store} {ω : Wd} {c : Bool} (I : Inv X pins σ H s) (rx : RelV x v) (ry : RelV y u)
    (S : StOk X.K cl ω h H) (ra : Rep X.K ω a x) (rb : Rep X.K ω b y) (e : eqB a b h = some c) (q : Q (.bl c) H) : wpAny (model X.prog X.w) X.A (compareOp .Eq v u) (EP X pins σ Q) X.xe s := by
  unfold eqB at e
  split at e
  · rw [ra.int_inv] at rx; rw [rb.int_inv] at ry; cases e
    exact op_eq pins s σ H _ _ v u Q I rx ry ⟨rfl, by simpa using q⟩
  · rw [ra.bl_inv] at rx; rw [rb.bl_inv] at ry; cases e
    exact op_eq pins s σ H _ _ v u Q I rx ry ⟨rfl, by simpa using q⟩
  · rw [ra.str_inv] at rx; rw [rb.str_inv] at ry; cases e
    exact op_eq pins s σ H _ _ v u Q I rx ry ⟨rfl, by simpa using q⟩
  · unfold eqG at e
    split at e
    · rename_i d d' e1 e2
      obtain ⟨c, rfl⟩ := ne_ite e
      exact op_eqD hu pins s σ H _ _ v u Q I rx ry ⟨d, d', datS_ok S ra e1, datS_ok S rb e2, c.1, c.2, q⟩
    · cases e
theorem neB_ok (hu : X.A.units + 64 < cLine) {pins : List (Addr × Obj)} {s : Shared} {σ : L2.St} {H : Hp} {x y : V} {v u : Value} {Q : VK} {a b : T} {h : Store} {ω : Wd} {c : Bool} (I : Inv X pins σ H s) (rx : RelV x v) (ry : RelV y u)
    (S : StOk X.K cl ω h H) (ra : Rep X.K ω a x) (rb : Rep X.K ω b y) (e : eqB a b h = some c) (q : Q (.bl (!c)) H) : wpAny (model X.prog X.w) X.A (compareOp .NotEq v u) (EP X pins σ Q) X.xe s := by
  unfold eqB at e
  split at e
  · rw [ra.int_inv] at rx; rw [rb.int_inv] at ry; cases e
    exact op_ne pins s σ H _ _ v u Q I rx ry ⟨rfl, by simpa using q⟩
  · rw [ra.bl_inv] at rx; rw [rb.bl_inv] at ry; cases e
    exact op_ne pins s σ H _ _ v u Q I rx ry ⟨rfl, by simpa using q⟩
  · rw [ra.str_inv] at rx; rw [rb.str_inv] at ry; cases e
    exact op_ne pins s σ H _ _ v u Q I rx ry ⟨rfl, by simpa using q⟩
  · unfold eqG at e
    split at e
    · rename_i d d' e1 e2
      obtain ⟨c, rfl⟩ := ne_ite e
      exact op_neD hu pins s σ H _ _ v u Q I rx ry ⟨d, d', datS_ok S ra e1, datS_ok S rb e2, c.1, c.2, q⟩
    · cases e
theorem o_eq (hu : X.A.units + 64 < cLine) : OpR X (compareOp .Eq) (rV2 X.K cl fEq) := by
  intro pins s σ H x y v u Q I rx ry ⟨a, b, h, ω, t, S, ra, rb, e, q⟩
  unfold fEq at e
  rw [Option.map_eq_some_iff] at e
  obtain ⟨c, e1, rfl⟩ := e
  exact eqB_ok hu I rx ry S ra rb e1 (q _ _ _ (Nx.refl _ _) S rep_bl)
theorem o_ne (hu : X.A.units + 64 < cLine) : OpR X (compareOp .NotEq) (rV2 X.K cl fNe) := by
  intro pins s σ H x y v u Q I rx ry ⟨a, b, h, ω, t, S, ra, rb, e, q⟩
  unfold fNe at e
  rw [Option.map_eq_some_iff] at e
  obtain ⟨c, e1, rfl⟩ := e
  exact neB_ok hu I rx ry S ra rb e1 (q _ _ _ (Nx.refl _ _) S rep_bl)
theorem o_cmpI {op : CmpOp} {p : Int → Int → Bool} (ho : OpR X (compareOp op) (rI0 fun i j => .bl (p i j))) : OpR X (compareOp op) (rV2 X.K cl (cmpI p)) := by
  intro pins s σ H x y v u Q I rx ry ⟨a, b, h, ω, t, S, ra, rb, e, q⟩
  unfold cmpI at e
  split at e
  · rw [ra.int_inv] at rx; rw [rb.int_inv] at ry; cases e
    exact ho pins s σ H _ _ v u Q I rx ry ⟨_, _, rfl, rfl, q _ _ _ (Nx.refl _ _) S rep_bl⟩
  · cases e
theorem o_le : OpR X (compareOp .LtE) (rV2 X.K cl fLe) := o_cmpI op_le
theorem o_gt : OpR X (compareOp .Gt) (rV2 X.K cl fGt) := o_cmpI op_gt
theorem o_ge : OpR X (compareOp .GtE) (rV2 X.K cl fGe) := o_cmpI op_ge
theorem o_lt (hu : X.A.units < cLine) : OpR X (compareOp .Lt) (rV2 X.K cl fLt) := by
  intro pins s σ H x y v u Q I rx ry ⟨a, b, h, ω, t, S, ra, rb, e, q⟩
  unfold fLt at e
  split at e
  · rw [ra.int_inv] at rx; rw [rb.int_inv] at ry; cases e
    exact op_lt pins s σ H _ _ v u Q I rx ry ⟨_, _, rfl, rfl, q _ _ _ (Nx.refl _ _) S rep_bl⟩
  · rw [ra.str_inv] at rx; rw [rb.str_inv] at ry; cases e
    exact op_lt_str pins s σ H _ _ v u Q I rx ry ⟨_, _, rfl, rfl, q _ _ _ (Nx.refl _ _) S rep_bl⟩
  · rename_i xs ys
    split at e
    · rename_i ns ms e1 e2
      cases e
      obtain ⟨p, vs, rfl, b1, c1⟩ := tupOf_ok (xs := xs) S ra rfl
      obtain ⟨p2, vs2, rfl, b2, c2⟩ := tupOf_ok (xs := ys) S rb rfl
      rw [c1.ints e1] at b1
      rw [c2.ints e2] at b2
      exact op_ltT hu pins s σ H _ _ v u Q I rx ry ⟨p, p2, ns, ms, rfl, rfl, b1, b2, q _ _ _ (Nx.refl _ _) S rep_bl⟩
    · cases e
  · cases e
theorem o_is : OpR X (compareOp .Is) (rV2 X.K cl fIs) := by
  intro pins s σ H x y v u Q I rx ry ⟨a, b, h, ω, t, S, ra, rb, e, q⟩
  unfold fIs at e
  split at e
  · rw [rb.non_inv] at ry; cases e
    exact op_isN pins s σ H _ _ v u Q I rx ry ⟨rfl, by rw [ra.nonIff]; exact q _ _ _ (Nx.refl _ _) S rep_bl⟩
  · rw [ra.bl_inv] at rx; rw [rb.bl_inv] at ry; cases e
    exact op_is_bl pins s σ H _ _ v u Q I rx ry ⟨_, _, rfl, rfl, q _ _ _ (Nx.refl _ _) S rep_bl⟩
  · cases e
end
end Sm
namespace Sm
open PySem PySem.Spec PyProof.Rows L2
def fIdx : F2 := fun a b h => match b with
  | .int i => match a with
    | .str z => if z.length ≤ 100000 then (atI z.cps.toList i).map fun c => .str ⟨#[c]⟩ else none
    | a => (seqOf h a).bind fun xs => atI xs i
  | _ => none
section
variable {K : PySem.W.Frag} {ω : Wd}
theorem Reps.atI {ts : List T} {vs : List V} {i : Int} {t : T} (r : Reps K ω ts vs) (e : L2.atI ts i = some t) : ∃ v, L2.atI vs i = some v ∧ Rep K ω t v := by
  unfold L2.atI at e ⊢
  rw [Option.bind_eq_some_iff] at e
  obtain ⟨j, e1, e2⟩ := e
  obtain ⟨v, e3, q⟩ := r.get e2
  refine ⟨v, ?_, q⟩
  rw [← r.length, Option.bind_eq_some_iff]
  exact ⟨j, e1, e3⟩
end
section
variable {X : Cx} {cl : Nat → Addr} {W : WX} {a b : Expr} {m n : M T} {pos : Pos}
theorem ix_ok : IxR X (rV2 X.K cl fIdx) := by
  intro value slice pins s σ H x y v u Q I rx ry ⟨a, b, h, ω, t, S, ra, rb, e, q⟩ hsub
  unfold fIdx at e
  split at e
  · rename_i i
    rw [rb.int_inv] at ry
    split at e
    · rename_i z
      obtain ⟨c, e⟩ : z.length ≤ 100000 ∧ (L2.atI z.cps.toList i).map (fun c => T.str ⟨#[c]⟩) = some t := by
        split at e
        · rename_i c; exact ⟨c, e⟩
        · cases e
      rw [Option.map_eq_some_iff] at e
      obtain ⟨k, e1, rfl⟩ := e
      rw [ra.str_inv] at rx
      exact ix_seq value slice pins s σ H _ _ v u Q I rx ry (.inr (.inr ⟨z, i, k, rfl, rfl, line5 c, e1, q _ _ _ (Nx.refl _ _) S rep_str⟩)) hsub
    · rw [Option.bind_eq_some_iff] at e
      obtain ⟨xs, e1, e2⟩ := e
      obtain ⟨p, vs, rfl, b1, c1⟩ := seqOf_ok S ra e1
      obtain ⟨w, e3, rw'⟩ := c1.atI e2
      have q' := q _ _ _ (Nx.refl _ _) S rw'
      rcases b1 with b1 | b1
      · exact ix_seq value slice pins s σ H _ _ v u Q I rx ry (.inl ⟨p, vs, i, w, rfl, rfl, b1, e3, q'⟩) hsub
      · exact ix_seq value slice pins s σ H _ _ v u Q I rx ry (.inr (.inl ⟨p, vs, i, w, rfl, rfl, b1, e3, q'⟩)) hsub
  · cases e
theorem k_idx (hs : PlainIx b) (ha : PE X a (tE X.K cl W m)) (hb : PE X b (tE X.K cl W n)) : PE X (.Subscript a b pos) (tE X.K cl W (mBin fIdx m n)) :=
  (pe_ix ix_ok ha hb hs).weak fun _ _ _ h => two_step h
def cutT (xs : List T) (lo hi : Option Int) : List T := (xs.drop (HT.sIx xs.length 0 lo)).take (HT.sIx xs.length xs.length hi - HT.sIx xs.length 0 lo)
theorem Reps.cut {K : PySem.W.Frag} {ω : Wd} {ts : List T} {vs : List V} (r : Reps K ω ts vs) (lo hi : Option Int) : Reps K ω (cutT ts lo hi) (cutV vs lo hi) := by
  unfold cutT cutV
  rw [r.length]
  exact (r.drop _).take _
def mPart : Option (M T) → M (Option Int)
  | none => fun _ h => .ok none h
  | some m => fun env h => (m env h).bind fun t h1 => match t with
    | .int i => .ok (some i) h1
    | _ => .bad
def tO (K : PySem.W.Frag) (cl : Nat → Addr) (W : WX) (m : M (Option Int)) : TO := fun σ H Q => ∃ env h ω, EnvOk K ω env σ ∧ StOk K cl ω h H ∧ PostG K cl W ω H σ (m env h) fun o _ _ H' => Q o H'
theorem _root_.L2.PO.weak {e : Option Expr} {t t' : TO} (h : PO X e t) (m : ∀ σ H Q, t' σ H Q → t σ H Q) : PO X e t' := ⟨fun pins s σ H Q I q => h.run pins s σ H Q I (m σ H Q q)⟩
theorem ko_none : PO X none (tO X.K cl W (mPart none)) := po_none.weak fun σ H Q ⟨env, h, ω, he, hs, q⟩ => q ω H (Nx.refl _ _) hs
theorem ko_some {e : Expr} (h : PE X e (tE X.K cl W m)) : PO X (some e) (tO X.K cl W (mPart (some m))) := by
  refine (po_some h).weak fun σ H Q ⟨env, h, ω, he, hs, q⟩ => ⟨env, h, ω, he, hs, (PostG.bind q).mono fun t h1 ω1 H1 N1 S1 q1 v r => ?_⟩
  cases t with
  | int i => exact ⟨i, r.int_inv, q1 ω1 H1 (Nx.refl _ _) S1⟩
  | _ => exact q1.elim
def fSl (a : T) (lo hi : Option Int) (h : Store) : Option T := match a with
  | .str z => if z.length ≤ 100000 then some (.str (Txt.slice z lo hi)) else none
  | .tup xs => some (.tup (cutT xs lo hi))
  | a => (lstOf h a).map fun xs => .lst (cutT xs lo hi)
def mSl (m : M T) (lo hi : M (Option Int)) : M T := fun env h => (m env h).bind fun a h1 => (lo env h1).bind fun l h2 => (hi env h2).bind fun u h3 => Out.ofO (fSl a l u h3) h3
theorem sl_any : SlR X (fun x lo hi H Q => ∃ a h ω t, StOk X.K cl ω h H ∧ Rep X.K ω a x ∧ fSl a lo hi h = some t ∧ ∀ ω' H' v, Nx ω H ω' H' → StOk X.K cl ω' h H' → Rep X.K ω' t v → Q v H') := by
  intro pins s σ H x v vl vu lo hi sl Q I rx hs pl pu ⟨a, h, ω, t, S, ra, e, q⟩
  unfold fSl at e
  split at e
  · rename_i z
    obtain ⟨c, rfl⟩ := ne_ite e
    rw [ra.str_inv] at rx
    exact C8.sl_txt pins s σ H _ v vl vu lo hi sl Q I rx hs pl pu ⟨z, rfl, line5 c, q _ _ _ (Nx.refl _ _) S rep_str⟩
  · rename_i xs
    cases e
    obtain ⟨p, vs, rfl, b1, c1⟩ := tupOf_ok (xs := xs) S ra rfl
    refine sl_tupA pins s σ H _ v vl vu lo hi sl Q I rx hs pl pu ⟨p, vs, rfl, b1, fun w => ?_, fun w p hp => give_tup S (c1.cut lo hi) q hp⟩
    have e1 : cutT xs lo hi = xs := by
      unfold cutT
      rw [c1.length, w.1, w.2, List.drop_zero, ← c1.length, Nat.sub_zero, List.take_length]
    rw [e1] at q
    exact q _ _ _ (Nx.refl _ _) S ra
  · rw [Option.map_eq_some_iff] at e
    obtain ⟨xs, e1, rfl⟩ := e
    obtain ⟨p, vs, rfl, b1, c1⟩ := lstOf_ok S ra e1
    exact sl_list pins s σ H _ v vl vu lo hi sl Q I rx hs pl pu ⟨p, vs, rfl, SqL.of b1, fun p hp => give_lst S (c1.cut lo hi) q hp⟩
theorem k_slice {lo hi : Option Expr} {ml mh : M (Option Int)} {p2 : Pos} (he : PE X a (tE X.K cl W m)) (hl : PO X lo (tO X.K cl W ml)) (hu : PO X hi (tO X.K cl W mh)) : PE X (.Subscript a (.Slice lo hi none p2) pos) (tE X.K cl W (mSl m ml mh)) := by
  refine (pe_slice (sl_any (cl := cl)) he hl hu).weak fun σ H Q ⟨env, h, ω, he, hs, q⟩ => ⟨env, h, ω, he, hs, (PostG.bind q).mono fun t h1 ω1 H1 N1 S1 q1 v r => ⟨env, h1, ω1, he.mono N1.toGr, S1, (PostG.bind q1).mono fun l h2 ω2 H2 N2 S2 q2 => ⟨env, h2, ω2, (he.mono N1.toGr).mono N2.toGr, S2, (PostG.bind q2).mono fun u h3 ω3 H3 N3 S3 q3 => ?_⟩⟩⟩
  obtain ⟨t', e, q4⟩ := q3.ofO
  exact ⟨t, h3, ω3, t', S3, (r.mono N2.toGr).mono N3.toGr, e, fun ω' H' v N S r => q4 ω' H' N S v r⟩
def mCallF (f : FA) (r : M (List T)) : M T := fun env h => (r env h).bind fun as h1 => Out.ofO (f as h1) h1
variable {r : M (List T)} {f : FA}
theorem callF_step {K : PySem.W.Frag} {σ : L2.St} {H : Hp} {Q : VK} (h : tE K cl W (mCallF f r) σ H Q) : tA K cl W r σ H fun vs H1 => rVA K cl f vs H1 Q := by
  obtain ⟨env, h, ω, he, hs, q⟩ := h
  refine ⟨env, h, ω, he, hs, (PostG.bind q).mono fun ts h1 ω1 H1 N1 S1 q1 vs rs => ?_⟩
  obtain ⟨t, e, q3⟩ := q1.ofO
  exact ⟨ts, h1, ω1, t, S1, rs, e, fun ω' H' v N S r => q3 ω' H' N S v r⟩
theorem k_callB {x : Str} {id : String} {p : Pos} {e : Expr} {es : List Expr} (hc : CallR X (.builtin id) (rVA X.K cl f)) (hg : Gl X x) (hm : X.mg x = none) (hv : bootBuiltins x = some (.builtin id)) (ha : PA X (e :: es) (tA X.K cl W r)) (hn : x ≠ "__name__" := by decide) (hdb : (x == ("__debug__" : Str)) = false := by decide)
    (he : starEach (e :: es) X.env = (false, eval e X.env) :: starEach es X.env := by rfl) (hpl : (backTo pos (starEach es X.env)).any (·.1) = false := by rfl) : PE X (.Call (.Name x p) (e :: es) [] pos) (tE X.K cl W (mCallF f r)) :=
  (pe_callB hc hg hm hv ha hn hdb he hpl).weak fun _ _ _ h => callF_step h
theorem k_callTy {x : Str} {Ty : String} {p : Pos} {e : Expr} {es : List Expr} (hc : CallR X (.type Ty) (rVA X.K cl f)) (hg : Gl X x) (hm : X.mg x = none) (hv : bootBuiltins x = some (.type Ty)) (ha : PA X (e :: es) (tA X.K cl W r)) (hn : x ≠ "__name__" := by decide) (hdb : (x == ("__debug__" : Str)) = false := by decide)
    (he : starEach (e :: es) X.env = (false, eval e X.env) :: starEach es X.env := by rfl) (hpl : (backTo pos (starEach es X.env)).any (·.1) = false := by rfl) : PE X (.Call (.Name x p) (e :: es) [] pos) (tE X.K cl W (mCallF f r)) :=
  (pe_callTy hc hg hm hv ha hn hdb he hpl).weak fun _ _ _ h => callF_step h
def blsOf? : List T → Option (List Bool)
  | [] => some []
  | .bl i :: r => (blsOf? r).map (i :: ·)
  | _ => none
theorem Reps.bls {K : PySem.W.Frag} {ω : Wd} : ∀ {ts : List T} {vs : List V} {ns : List Bool}, Reps K ω ts vs → blsOf? ts = some ns → vs = ns.map V.bl
  | [], _, ns, r, e => by
    simp only [blsOf?, Option.some.injEq] at e
    subst e
    exact r.nil_inv
  | t :: ts, _, ns, r, e => by
    obtain ⟨v, vr, rfl, a, b⟩ := r.inv
    cases t with
    | bl i =>
      simp only [blsOf?, Option.map_eq_some_iff] at e
      obtain ⟨ms, e1, rfl⟩ := e
      rw [a.bl_inv, Reps.bls b e1]
      rfl
    | _ => simp [blsOf?] at e
def maxL : List Int → Int
  | [] => 0
  | [x] => x
  | x :: y :: r => if x < maxL (y :: r) then maxL (y :: r) else x
def minL : List Int → Int
  | [] => 0
  | [x] => x
  | x :: y :: r => if minL (y :: r) < x then minL (y :: r) else x
def fLen : FA := fun as h => match as with
  | [.str y] => if y.length ≤ 100000 then some (.int y.length) else none
  | [t] => (seqOf h t).map fun xs => .int xs.length
  | _ => none
def fAll : FA := fun as h => match as with
  | [t] => (lstOf h t).bind fun xs => (blsOf? xs).map fun ns => .bl (ns.all id)
  | _ => none
def fMax : FA := fun as h => match as with
  | [.int i, .int j] => some (.int (if j > i then j else i))
  | [t] => (lstOf h t).bind fun xs => (intsOf? xs).bind fun ns => if ns ≠ [] then some (.int (maxL ns)) else none
  | _ => none
def fMin : FA := fun as h => match as with
  | [.int i, .int j] => some (.int (if j < i then j else i))
  | [.tup xs] => (intsOf? xs).bind fun ns => if ns ≠ [] then some (.int (minL ns)) else none
  | [t] => (lstOf h t).bind fun xs => (intsOf? xs).bind fun ns => if ns ≠ [] then some (.int (minL ns)) else none
  | _ => none
def fInt : FA := fun as _ => match as with
  | [.int i] => some (.int i)
  | [.bl k] => some (.int (if k then 1 else 0))
  | _ => none
def fTuple : FA := fun as h => match as with
  | [.tup xs] => some (.tup xs)
  | [t] => (lstOf h t).map .tup
  | _ => none
theorem c_len : CallR X (.builtin "len") (rVA X.K cl fLen) := by
  intro pins s σ H xs us Q I rx ⟨as, h, ω, t, S, ra, e, q⟩
  unfold fLen at e
  split at e
  · rename_i y
    obtain ⟨c, rfl⟩ := ne_ite e
    obtain ⟨v, vr, rfl, a, b⟩ := ra.inv
    rw [b.nil_inv, a.str_inv] at rx
    exact call_len pins s σ H _ us Q I rx ⟨_, _, rfl, ⟨line5 c, rfl⟩, q _ _ _ (Nx.refl _ _) S rep_int⟩
  · rename_i t' _
    rw [Option.map_eq_some_iff] at e
    obtain ⟨ys, e1, rfl⟩ := e
    obtain ⟨v, vr, rfl, a, b⟩ := ra.inv
    obtain ⟨p, vs, rfl, b1, c1⟩ := seqOf_ok S a e1
    rw [b.nil_inv] at rx
    refine call_len pins s σ H _ us Q I rx ⟨_, _, rfl, b1.elim (fun z => .inl ⟨vs, z, rfl⟩) (fun z => .inr ⟨vs, z, rfl⟩), ?_⟩
    rw [← c1.length]
    exact q _ _ _ (Nx.refl _ _) S rep_int
  · cases e
theorem c_all (hc : X.calm = true) : CallR X (.builtin "all") (rVA X.K cl fAll) := by
  intro pins s σ H xs us Q I rx ⟨as, h, ω, t, S, ra, e, q⟩
  unfold fAll at e
  split at e
  · rw [Option.bind_eq_some_iff] at e
    obtain ⟨ys, e1, e⟩ := e
    rw [Option.map_eq_some_iff] at e
    obtain ⟨ns, e2, rfl⟩ := e
    obtain ⟨v, vr, rfl, a, b⟩ := ra.inv
    obtain ⟨p, vs, rfl, b1, c1⟩ := lstOf_ok S a e1
    rw [b.nil_inv] at rx
    rw [c1.bls e2] at b1
    exact cr_all hc pins s σ H _ us Q I rx ⟨p, ns, rfl, SqL.of b1, q _ _ _ (Nx.refl _ _) S rep_bl⟩
  · cases e
theorem c_int : CallR X (.type "int") (rVA X.K cl fInt) := by
  intro pins s σ H xs us Q I rx ⟨as, h, ω, t, S, ra, e, q⟩
  unfold fInt at e
  split at e
  · cases e
    obtain ⟨v, vr, rfl, a, b⟩ := ra.inv
    rw [b.nil_inv, a.int_inv] at rx
    exact call_int1 pins s σ H _ us Q I rx (.inl ⟨_, rfl, q _ _ _ (Nx.refl _ _) S rep_int⟩)
  · cases e
    obtain ⟨v, vr, rfl, a, b⟩ := ra.inv
    rw [b.nil_inv, a.bl_inv] at rx
    exact call_int1 pins s σ H _ us Q I rx (.inr ⟨_, rfl, q _ _ _ (Nx.refl _ _) S rep_int⟩)
  · cases e
theorem c_tuple : CallR X (.type "tuple") (rVA X.K cl fTuple) := by
  intro pins s σ H xs us Q I rx ⟨as, h, ω, t, S, ra, e, q⟩
  unfold fTuple at e
  split at e
  · rename_i ys
    cases e
    obtain ⟨v, vr, rfl, a, b⟩ := ra.inv
    obtain ⟨p, vs, rfl, b1, c1⟩ := tupOf_ok (xs := ys) S a rfl
    rw [b.nil_inv] at rx
    exact call_tuple_of pins s σ H _ us Q I rx ⟨p, vs, rfl, .inr ⟨b1, q _ _ _ (Nx.refl _ _) S a⟩⟩
  · rw [Option.map_eq_some_iff] at e
    obtain ⟨ys, e1, rfl⟩ := e
    obtain ⟨v, vr, rfl, a, b⟩ := ra.inv
    obtain ⟨p, vs, rfl, b1, c1⟩ := lstOf_ok S a e1
    rw [b.nil_inv] at rx
    exact call_tuple_of pins s σ H _ us Q I rx ⟨p, vs, rfl, .inl ⟨SqL.of b1, fun l hl => give_tup S c1 q hl⟩⟩
  · cases e
def rNewA (K : PySem.W.Frag) (cl : Nat → Addr) (f : List T → Store → Option (List T)) : List V → Hp → VK → Prop := fun xs H Q => ∃ as h ω ts, StOk K cl ω h H ∧ Reps K ω as xs ∧ f as h = some ts ∧ ∀ p vs, Reps K ω ts vs → H p = none → Q (.ref p) (upd H p (.lst vs))
def mNewA (f : List T → Store → Option (List T)) (r : M (List T)) : M (List T) := fun env h => (r env h).bind fun as h1 => Out.ofO (f as h1) h1
theorem newA_step {K : PySem.W.Frag} {g : List T → Store → Option (List T)} {σ : L2.St} {H : Hp} {Q : VK} (h : tN K cl W (mNewA g r) σ H Q) : tA K cl W r σ H fun vs H1 => rNewA K cl g vs H1 Q := by
  obtain ⟨env, h, ω, he, hs, q⟩ := h
  unfold mNewA at q
  refine ⟨env, h, ω, he, hs, ?_⟩
  revert q
  cases r env h with
  | bad => exact fun z => z
  | ex x h1 => exact fun z => z
  | ok tx h1 =>
    intro q ω1 H1 N1 S1 vs rs
    simp only [Out.bind] at q
    cases e : g tx h1 with
    | none => rw [e] at q; exact q.elim
    | some ts =>
      rw [e] at q
      refine ⟨tx, h1, ω1, ts, S1, rs, e, fun p vs rv hp => ?_⟩
      exact q ω1 _ (N1.trans (nx_lay hp)) (S1.lay hp) p vs rv upd_same (S1.freshF hp) (S1.freshR hp) (N1.dom p hp)
def fList (as : List T) (h : Store) : Option (List T) := match as with
  | [t] => seqOf h t
  | _ => none
theorem n_list : CallR X (.type "list") (rNewA X.K cl fList) := by
  intro pins s σ H xs us Q I rx ⟨as, h, ω, t, S, ra, e, q⟩
  unfold fList at e
  split at e
  · obtain ⟨v, vr, rfl, a, b⟩ := ra.inv
    obtain ⟨p, vs, rfl, b1, c1⟩ := seqOf_ok S a e
    rw [b.nil_inv] at rx
    exact call_list_of pins s σ H _ us Q I rx ⟨p, vs, rfl, b1, fun l hl => q l vs c1 hl⟩
  · cases e
theorem kn_callTy {x : Str} {Ty : String} {p : Pos} {e : Expr} {es : List Expr} {g : List T → Store → Option (List T)} (hc : CallR X (.type Ty) (rNewA X.K cl g)) (hg : Gl X x) (hm : X.mg x = none) (hv : bootBuiltins x = some (.type Ty)) (ha : PA X (e :: es) (tA X.K cl W r)) (hn : x ≠ "__name__" := by decide) (hdb : (x == ("__debug__" : Str)) = false := by decide)
    (he : starEach (e :: es) X.env = (false, eval e X.env) :: starEach es X.env := by rfl) (hpl : (backTo pos (starEach es X.env)).any (·.1) = false := by rfl) : PE X (.Call (.Name x p) (e :: es) [] pos) (tN X.K cl W (mNewA g r)) :=
  (pe_callTy hc hg hm hv ha hn hdb he hpl).weak fun _ _ _ h => newA_step h
def tyOf (h : Store) : T → Option String
  | .non => some "NoneType"
  | .bl _ => some "bool"
  | .int _ => some "int"
  | .str _ => some "str"
  | .tup _ => some "tuple"
  | .lst _ => some "list"
  | .loc n => match h[n]? with
    | some (.lst _) => some "list"
    | some (.dK _) => some "dict"
    | _ => none
  | .scr _ => none
  | .emp => some "dict"
  | .adr _ _ _ _ => none
  | .fnc _ => none
  | .unk => none
  | .dct _ _ => none
def isiB (a b : String) : Bool := a == b || (a == "bool" && b == "int")
def fIsi (ty : String) : F1 := fun t h => (tyOf h t).map fun a => .bl (isiB a ty)
end
end Sm
namespace Sm
open PySem PySem.Spec PyProof.Rows L2
structure Src where
  items : List T
  gs : List (Nat × List T)
def gsOk (h : Store) (gs : List (Nat × List T)) : Prop := ∀ g ∈ gs, h[g.1]? = some (.lst g.2)
@[simp] theorem gsOk_nil (h : Store) : gsOk h [] = True := by simp [gsOk]
open Classical in
noncomputable instance gsDec (h : Store) (gs : List (Nat × List T)) : Decidable (gsOk h gs) := propDecidable _
structure ItOk (K : PySem.W.Frag) (cl : Nat → Addr) (J : It) (s : Src) (ω0 : Wd) : Prop where
  goes : ∀ i ω h H, Gr ω0 ω → StOk K cl ω h H → gsOk h s.gs → i < s.items.length → J.go i H
  stops : ∀ ω h H, Gr ω0 ω → StOk K cl ω h H → gsOk h s.gs → J.stop s.items.length H
  yields : ∀ i ω h H x H', Gr ω0 ω → StOk K cl ω h H → gsOk h s.gs → i < s.items.length → J.yld i H x H' → ∃ ω' t, Nx ω H ω' H' ∧ StOk K cl ω' h H' ∧ s.items[i]? = some t ∧ Rep K ω' t x
def tI (K : PySem.W.Frag) (cl : Nat → Addr) (W : WX) (m : M Src) : TI := fun σ H R => ∃ env h ω, EnvOk K ω env σ ∧ StOk K cl ω h H ∧ PostG K cl W ω H σ (m env h) fun s _ ω' H' => ∀ J, ItOk K cl J s ω' → R J H'
theorem _root_.L2.PI.weak {X : Cx} {tg e : Expr} {t t' : TI} (h : PI X tg e t) (m : ∀ σ H R, t' σ H R → t σ H R) : PI X tg e t' := ⟨fun pins s σ H R I q => h.run pins s σ H R I (m σ H R q)⟩
section
variable {X : Cx} {cl : Nat → Addr} {W : WX} {tg : Expr}
theorem pi_any {l : Expr} {tl : TE} (hl : PE X l tl) : PI X tg l (fun σ H R => tl σ H fun x H1 => (∃ a xs, x = .ref a ∧ SqL X.K H1 a xs ∧ R (Itl X.K a) H1) ∨ (∃ a xs, x = .ref a ∧ SqT X.K H1 a xs ∧ R (Itt X.K a) H1) ∨ ∃ z, x = .str z ∧ R (Its z) H1) := by
  constructor
  intro pins s σ H R I q0
  refine thn (hl.run pins s σ H _ I q0) fun v s1 ⟨x, H1, I1, rx, cases3⟩ => ?_
  obtain ⟨a, xs, rfl, hq, q⟩ | ⟨a, xs, rfl, hq, q⟩ | ⟨z, rfl, q⟩ := cases3
  · cases rx
    have ⟨us, _, p, _⟩ := I1.list hq
    exact wpAny_pyIter_list p.isList (pi_one (tk := s1.toks) I1 _ (turn_list a _) ⟨_, Heap.get?_push_size _ rfl, rfl, rfl⟩ q)
  · cases rx
    have ⟨us, _, p, _⟩ := I1.tuple hq
    exact wpAny_pyIter_tuple p (pi_one (tk := s1.toks) I1 _ (turn_tuple a _) ⟨_, Heap.get?_push_size _ rfl, rfl, rfl⟩ q)
  · have ⟨t, et⟩ := rx
    subst et
    by_cases ha : z.cps.all (· < 128) = true
    · exact wpAny_pyIter_ascii ha (pi_one (tk := s1.toks) I1 _ (turn_str _ z t "str_ascii_iterator" (.inl rfl)) ⟨_, Heap.get?_push_size _ rfl, rfl, rfl⟩ q)
    · exact wpAny_pyIter_wide (Bool.eq_false_iff.mpr ha) (pi_one (tk := s1.toks) I1 _ (turn_str _ z t "str_iterator" (.inr rfl)) ⟨_, Heap.get?_push_size _ rfl, rfl, rfl⟩ q)
def gdOf (h : Store) : T → List (Nat × List T)
  | .loc n => match h[n]? with
    | some (.lst xs) => [(n, xs)]
    | _ => []
  | _ => []
def seqK (h : Store) : T → Option (Bool × List T)
  | .tup xs => some (true, xs)
  | t => (lstOf h t).map fun xs => (false, xs)
theorem seqK_ok {K : PySem.W.Frag} {cl : Nat → Addr} {ω : Wd} {h : Store} {H : Hp} {t : T} {v : V} {b : Bool} {xs : List T} (S : StOk K cl ω h H) (r : Rep K ω t v) (e : seqK h t = some (b, xs)) : ∃ p vs, v = .ref p ∧ SqX K H b p vs ∧ Reps K ω xs vs := by
  unfold seqK at e
  split at e
  · cases e
    exact tupOf_ok (xs := xs) S r rfl
  · rw [Option.map_eq_some_iff] at e
    obtain ⟨ys, e1, e2⟩ := e
    cases e2
    obtain ⟨p, vs, rfl, b1, c1⟩ := lstOf_ok S r e1
    exact ⟨p, vs, rfl, SqL.of b1, c1⟩
theorem seqK_later {K : PySem.W.Frag} {cl : Nat → Addr} {ω0 ω : Wd} {h0 h : Store} {H : Hp} {t : T} {p : Addr} {b : Bool} {xs : List T} (r : Rep K ω0 t (.ref p)) (e : seqK h0 t = some (b, xs)) (g : Gr ω0 ω) (S : StOk K cl ω h H) (go : gsOk h (gdOf h0 t)) :
    ∃ vs, SqX K H b p vs ∧ Reps K ω xs vs := by
  have e' : seqK h t = some (b, xs) := by
    cases t with
    | loc n =>
      simp only [seqK, lstOf] at e ⊢
      simp only [gdOf] at go
      cases hn : h0[n]? with
      | none => rw [hn] at e; cases e
      | some c =>
        rw [hn] at e go
        cases c with
        | lst ys =>
          simp only [Option.map_some, Option.some.injEq, Prod.mk.injEq] at e
          obtain ⟨e1, e2⟩ := e
          have := go (n, ys) (by simp)
          simp only at this
          rw [this, ← e1, ← e2]
          rfl
        | _ => cases e
    | _ => exact e
  obtain ⟨q, vs, e1, b1, c1⟩ := seqK_ok S (r.mono g) e'
  cases e1
  exact ⟨vs, b1, c1⟩
def mSeq (m : M T) : M Src := fun env h => (m env h).bind fun t h1 => match t with
  | .str z => .ok ⟨z.cps.toList.map fun c => .str ⟨#[c]⟩, []⟩ h1
  | t => match seqK h1 t with
    | some (_, xs) => .ok ⟨xs, gdOf h1 t⟩ h1
    | none => .bad
theorem ki_seq {e : Expr} {m : M T} (he : PE X e (tE X.K cl W m)) : PI X tg e (tI X.K cl W (mSeq m)) := by
  refine (pi_any he).weak fun σ H R ⟨env, h, ω, he, hs, q⟩ => ⟨env, h, ω, he, hs, (PostG.bind q).mono fun t h1 ω1 H1 N1 S1 q1 v r => ?_⟩
  split at q1
  · rename_i z
    rw [r.str_inv]
    refine .inr (.inr ⟨z, rfl, q1 ω1 H1 (Nx.refl _ _) S1 _ ?_⟩)
    have w := walk_str (z := z)
    have hl : (z.cps.toList.map fun c => T.str ⟨#[c]⟩).length = z.cps.size := by simp
    refine ⟨fun i ω h H _ _ _ hi => w.goes i H (by rw [← hl]; exact hi) trivial, fun ω h H _ _ _ => by
      show (Its z).stop (z.cps.toList.map fun c => T.str ⟨#[c]⟩).length H
      rw [hl]; exact w.stops H trivial, fun i ω h H x H' _ S _ hi y => ?_⟩
    obtain ⟨rfl, c, e1, rfl⟩ := w.yields i H x H' (by rw [← hl]; exact hi) trivial y
    refine ⟨ω, .str ⟨#[c]⟩, Nx.refl _ _, S, ?_, rep_str⟩
    show (z.cps.toList.map fun c => T.str ⟨#[c]⟩)[i]? = _
    rw [List.getElem?_map, Array.getElem?_toList, e1]
    rfl
  · split at q1
    · rename_i b xs ex
      obtain ⟨p, vs, rfl, b1, c1⟩ := seqK_ok S1 r ex
      have hl := c1.length
      have later : ∀ {ω : Wd} {h : Store} {H : Hp}, Gr ω1 ω → StOk X.K cl ω h H → gsOk h (gdOf h1 t) → ∃ ws, SqX X.K H b p ws ∧ Reps X.K ω xs ws := fun g S go => seqK_later r ex g S go
      cases b with
      | false =>
        refine .inl ⟨p, vs, rfl, b1, q1 ω1 H1 (Nx.refl _ _) S1 _ ⟨fun i ω h H g S go hi => ?_, fun ω h H g S go => ?_, fun i ω h H x H' g S go hi y => ?_⟩⟩
        · obtain ⟨ws, s1, c⟩ := later g S go
          exact (walk_list (xs := ws)).goes i H (by rw [← c.length]; exact hi) s1
        · obtain ⟨ws, s1, c⟩ := later g S go
          have := (walk_list (xs := ws)).stops H s1
          rw [← c.length] at this
          exact this
        · obtain ⟨ws, s1, c⟩ := later g S go
          obtain ⟨rfl, e1⟩ := (walk_list (xs := ws)).yields i H x H' (by rw [← c.length]; exact hi) s1 y
          obtain ⟨t', e2, r2⟩ := c.getV e1
          exact ⟨ω, t', Nx.refl _ _, S, e2, r2⟩
      | true =>
        refine .inr (.inl ⟨p, vs, rfl, b1, q1 ω1 H1 (Nx.refl _ _) S1 _ ⟨fun i ω h H g S go hi => ?_, fun ω h H g S go => ?_, fun i ω h H x H' g S go hi y => ?_⟩⟩)
        · obtain ⟨ws, s1, c⟩ := later g S go
          exact (walk_tup (xs := ws)).goes i H (by rw [← c.length]; exact hi) s1
        · obtain ⟨ws, s1, c⟩ := later g S go
          have := (walk_tup (xs := ws)).stops H s1
          rw [← c.length] at this
          exact this
        · obtain ⟨ws, s1, c⟩ := later g S go
          obtain ⟨rfl, e1⟩ := (walk_tup (xs := ws)).yields i H x H' (by rw [← c.length]; exact hi) s1 y
          obtain ⟨t', e2, r2⟩ := c.getV e1
          exact ⟨ω, t', Nx.refl _ _, S, e2, r2⟩
    · exact q1.elim
def rangeT (lo : Int) (n : Nat) : List T := (List.range n).map fun i => .int (lo + (i : Nat))
theorem rangeT_length (lo : Int) (n : Nat) : (rangeT lo n).length = n := by simp [rangeT]
theorem it_range {K : PySem.W.Frag} {lo : Int} {n : Nat} {ω0 : Wd} : ItOk K cl (Itr lo n) ⟨rangeT lo n, []⟩ ω0 := by
  have w := walk_range (lo := lo) (n := n)
  refine ⟨fun i ω h H _ _ _ hi => w.goes i H (by rw [← rangeT_length lo n]; exact hi) trivial, fun ω h H _ _ _ => ?_, fun i ω h H x H' _ S _ hi y => ?_⟩
  · show (Itr lo n).stop (rangeT lo n).length H
    rw [rangeT_length]; exact w.stops H trivial
  · have hi' : i < n := by rw [← rangeT_length lo n]; exact hi
    obtain ⟨rfl, rfl⟩ := w.yields i H x H' hi' trivial y
    refine ⟨ω, .int (lo + (i : Nat)), Nx.refl _ _, S, ?_, rep_int⟩
    show (rangeT lo n)[i]? = _
    unfold rangeT
    rw [List.getElem?_map, List.getElem?_range hi']
    rfl
def mRange1 (r : M (List T)) : M Src := fun env h => (r env h).bind fun as h1 => match as with
  | [.int j] => if j < 1000000 ∧ -1000000 < j then .ok ⟨rangeT 0 j.toNat, []⟩ h1 else .bad
  | _ => .bad
def mRange2 (r : M (List T)) : M Src := fun env h => (r env h).bind fun as h1 => match as with
  | [.int i, .int j] => if i < 1000000 ∧ -1000000 < i ∧ j < 1000000 ∧ -1000000 < j then .ok ⟨rangeT i (j - i).toNat, []⟩ h1 else .bad
  | _ => .bad
variable {r : M (List T)}
theorem ki_range1 {a : Expr} {p pos : Pos} (hg : Gl X "range") (hm : X.mg "range" = none) (ha : PA X [a] (tA X.K cl W r)) (hs : starEach [a] X.env = [(false, eval a X.env)] := by rfl) : PI X tg (.Call (.Name "range" p) [a] [] pos) (tI X.K cl W (mRange1 r)) := by
  refine (pi_range1 hg hm ha hs).weak fun σ H R ⟨env, h, ω, he, hs, q⟩ => ⟨env, h, ω, he, hs, (PostG.bind q).mono fun as h1 ω1 H1 N1 S1 q1 vs rs => ?_⟩
  split at q1
  · rename_i j
    obtain ⟨v, vr, rfl, a1, b1⟩ := rs.inv
    split at q1
    · rw [b1.nil_inv, a1.int_inv]
      exact ⟨j, rfl, by omega, by omega, q1 ω1 H1 (Nx.refl _ _) S1 _ it_range⟩
    · exact q1.elim
  · exact q1.elim
def pairT (x y : T) : T := .tup [x, y]
def enumT (n : Nat) : List T → List T
  | [] => []
  | x :: r => pairT (.int (n : Nat)) x :: enumT (n + 1) r
theorem enumT_length (xs : List T) : ∀ n : Nat, (enumT n xs).length = xs.length := by
  induction xs with
  | nil => exact fun _ => rfl
  | cons x r ih => exact fun n => congrArg (· + 1) (ih (n + 1))
theorem enumT_get (xs : List T) : ∀ (n i : Nat), (enumT n xs)[i]? = xs[i]?.map (pairT (.int ((n + i : Nat)))) := by
  induction xs with
  | nil => exact fun _ i => by simp [enumT]
  | cons x r ih =>
    intro n i
    cases i with
    | zero => rfl
    | succ i =>
      show (enumT (n + 1) r)[i]? = r[i]?.map _
      rw [ih, Nat.add_assoc, Nat.add_comm 1 i]
def mEnum (r : M (List T)) : M Src := fun env h => (r env h).bind fun as h1 => match as with
  | [t] => match seqK h1 t with
    | some (_, xs) => .ok ⟨enumT 0 xs, gdOf h1 t⟩ h1
    | none => .bad
  | _ => .bad
def mZip (r : M (List T)) : M Src := fun env h => (r env h).bind fun as h1 => match as with
  | [t, u] => match seqK h1 t, seqK h1 u with
    | some (_, xs), some (_, ys) => .ok ⟨List.zipWith pairT xs ys, gdOf h1 t ++ gdOf h1 u⟩ h1
    | _, _ => .bad
  | _ => .bad
theorem gsOk_app {h : Store} {a b : List (Nat × List T)} (g : gsOk h (a ++ b)) : gsOk h a ∧ gsOk h b := ⟨fun x m => g x (by simp [m]), fun x m => g x (by simp [m])⟩
theorem rows_ok {K : PySem.W.Frag} {Rw : Hp → Tab → Prop} {its : List T} {gs : List (Nat × List T)} {ω0 : Wd}
    (later : ∀ {ω h H}, Gr ω0 ω → StOk K cl ω h H → gsOk h gs → ∃ b, Rw H b ∧ b.n = its.length ∧ ∀ i xs, b.row i xs → ∃ ts, its[i]? = some (.tup ts) ∧ Reps K ω ts xs) : ItOk K cl (rowIt Rw) ⟨its, gs⟩ ω0 where
  goes := fun i ω h H g S go hi => let ⟨b, q, e, _⟩ := later g S go; ⟨b, q, by rw [e]; exact hi⟩
  stops := fun ω h H g S go => let ⟨b, q, e, _⟩ := later g S go; ⟨b, q, e.symm⟩
  yields := by
    rintro i ω h H _ _ g S go hi ⟨A, xs, rfl, hn, rfl, all⟩
    have ⟨b, q, _, k⟩ := later g S go
    have ⟨ts, e, r⟩ := k i xs (all b q)
    refine ⟨_, .tup ts, nx_newF S hn, S.newF hn, e, ?_⟩
    simp only [Rep]
    exact ⟨A, xs, rfl, SqT.of upd_same, r.mono (gr_fix (S.freshF hn))⟩
theorem ki_enum {e : Expr} {p pos tpos : Pos} {elts : List Expr} {kk : Nat} (hg : Gl X "enumerate") (hm : X.mg "enumerate" = none) (ha : PA X [e] (tA X.K cl W r)) (hs : starEach [e] X.env = [(false, eval e X.env)] := by rfl) :
    PI X (.Tuple elts kk tpos) (.Call (.Name "enumerate" p) [e] [] pos) (tI X.K cl W (mEnum r)) := by
  refine (pi_enumX hg hm ha hs).weak fun σ H R ⟨env, h, ω, he, hs, q⟩ => ⟨env, h, ω, he, hs, (PostG.bind q).mono fun as h1 ω1 H1 N1 S1 q1 vs rs => ?_⟩
  split at q1
  · rename_i t
    split at q1
    · rename_i b xs ex
      obtain ⟨v, vr, rfl, r1, b1⟩ := rs.inv
      rw [b1.nil_inv]
      obtain ⟨p, vs, rfl, b1, c1⟩ := seqK_ok S1 r1 ex
      refine ⟨b, p, vs, rfl, b1, q1 ω1 H1 (Nx.refl _ _) S1 _ (rows_ok fun g S go => ?_)⟩
      have ⟨ws, s1, c⟩ := seqK_later r1 ex g S go
      refine ⟨_, ⟨ws, s1, rfl⟩, by rw [enumT_length]; exact c.length.symm, fun i _ ⟨x, hx, e⟩ => ?_⟩
      subst e
      have ⟨t', e3, r3⟩ := c.getV hx
      exact ⟨[.int (i : Nat), t'], by rw [enumT_get, e3, Nat.zero_add]; rfl, Reps.cons rep_int (Reps.one r3)⟩
    · exact q1.elim
  · exact q1.elim
theorem ki_zip {e e2 : Expr} {p pos tpos : Pos} {elts : List Expr} {kk : Nat} (hg : Gl X "zip") (hm : X.mg "zip" = none) (ha : PA X [e, e2] (tA X.K cl W r))
    (hst : starEach [e, e2] X.env = (false, eval e X.env) :: starEach [e2] X.env := by rfl) (hpl : (backTo pos (starEach [e2] X.env)).any (·.1) = false := by rfl) :
    PI X (.Tuple elts kk tpos) (.Call (.Name "zip" p) [e, e2] [] pos) (tI X.K cl W (mZip r)) := by
  refine (pi_zipX hg hm ha hst hpl).weak fun σ H R ⟨env, h, ω, he, hs, q⟩ => ⟨env, h, ω, he, hs, (PostG.bind q).mono fun as h1 ω1 H1 N1 S1 q1 vs rs => ?_⟩
  split at q1
  · rename_i t u
    split at q1
    · rename_i b1 xs b2 ys ex ey
      obtain ⟨v, vr, rfl, r1, q3⟩ := rs.inv
      obtain ⟨v2, vr2, rfl, r2, q4⟩ := q3.inv
      rw [q4.nil_inv]
      obtain ⟨p1, vs1, rfl, d1, c1⟩ := seqK_ok S1 r1 ex
      obtain ⟨p2, vs2, rfl, d2, c2⟩ := seqK_ok S1 r2 ey
      refine ⟨b1, b2, p1, p2, vs1, vs2, rfl, d1, d2, q1 ω1 H1 (Nx.refl _ _) S1 _ (rows_ok fun g S go => ?_)⟩
      have ⟨ws, s1, k1⟩ := seqK_later r1 ex g S (gsOk_app go).1
      have ⟨zs, s2, k2⟩ := seqK_later r2 ey g S (gsOk_app go).2
      refine ⟨_, ⟨ws, zs, s1, s2, rfl⟩, by rw [List.length_zipWith, k1.length, k2.length], fun i _ ⟨x, y, hx, hy, e⟩ => ?_⟩
      subst e
      have ⟨t1, e1, r3⟩ := k1.getV hx
      have ⟨t2, e2, r4⟩ := k2.getV hy
      exact ⟨[t1, t2], by rw [List.getElem?_zipWith, e1, e2]; rfl, Reps.cons r3 (Reps.one r4)⟩
    · exact q1.elim
  · exact q1.elim
end
end Sm
namespace Sm
open PySem PySem.Spec PyProof.Rows L2
inductive Tgt where
  | one (i : Nat) | tup (is : List Nat)
  /-- x, (y, ..) -/
  | nest (i : Nat) (is : List Nat)
def Tgt.slots : Tgt → List Nat
  | .one i => [i]
  | .tup is => is
  | .nest i is => i :: is
def setT : List Nat → List T → Env' → Env'
  | i :: is, t :: ts, env => setT is ts (env.set i (some t))
  | _, _, env => env
def bindT : Tgt → T → Env' → Option Env'
  | .one i, t, env => some (env.set i (some t))
  | .tup is, .tup ts, env => if ts.length = is.length then some (setT is ts env) else none
  | .tup is, .lst ts, env => if ts.length = is.length then some (setT is ts env) else none
  | .nest i is, .tup [a, .tup ts], env => if ts.length = is.length then some (setT is ts (env.set i (some a))) else none
  | _, _, _ => none
def gMany : List Nat → TGs
  | [] => gNil
  | i :: is => gCons (gName i) (gMany is)
def gSeq (K : PySem.W.Frag) (n : Nat) (t : TGs) : TG := fun v σ H Q => gTup K n t v σ H Q ∨ gUnl K n t v σ H Q
theorem pg_seq {X : Cx} {pos : Pos} {es : List Expr} {k : Nat} {t : TGs} {n : Nat} (hc : X.calm = true) (h : PGs X es t)
    (hn : (assignEach es X.env).length = n) (hst : (assignEach es X.env).findIdx? (·.1) = none) : PG X (.Tuple es k pos) (gSeq X.K n t) :=
  ⟨fun pins s σ H v u Q I r w => w.elim ((pg_tup hc h hn hst).run pins s σ H v u Q I r) ((pg_unl hc h hn hst).run pins s σ H v u Q I r)⟩
def gT (K : PySem.W.Frag) : Tgt → TG
  | .one i => gName i
  | .tup is => gSeq K is.length (gMany is)
  | .nest i is => gTup K 2 (gCons (gName i) (gCons (gTup K is.length (gMany is)) gNil))
theorem wipe_set {σ : L2.St} {i : Nat} {x : Option V} : ∀ {vs : List Nat}, i ∈ vs → wipe (σ.set i x) vs = wipe σ vs
  | [], h => by cases h
  | v :: vs, h => by
    unfold wipe
    by_cases e : v = i
    · subst e
      by_cases hm : v ∈ vs
      · rw [wipe_set hm]
      · have : ∀ us : List Nat, wipe (σ.set v x) us = (wipe σ us).set v (if v ∈ us then none else x) := by
          intro us
          induction us with
          | nil => simp [wipe]
          | cons u us ih =>
            show (wipe (σ.set v x) us).set u none = ((wipe σ us).set u none).set v _
            rw [ih]
            by_cases e : u = v
            · subst e; simp
            · rw [List.set_comm _ _ (Ne.symm e)]
              have e' : ¬ v = u := fun q => e q.symm
              simp [e']
        rw [this vs, if_neg hm, List.set_set]
    · have hm : i ∈ vs := (List.mem_cons.mp h).elim (fun q => absurd q.symm e) id
      rw [wipe_set hm]
section
variable {K : PySem.W.Frag} {cl : Nat → Addr}
theorem gMany_ok {ω : Wd} {h : Store} {H : Hp} : ∀ {is : List Nat} {ts : List T} {vs : List V} {env : Env'} {σ : L2.St} {Q : L2.St → Hp → Prop}, Reps K ω ts vs → ts.length = is.length → EnvOk K ω env σ →
    (∀ σ', EnvOk K ω (setT is ts env) σ' → (∀ us, (∀ i ∈ is, i ∈ us) → wipe σ' us = wipe σ us) → Q σ' H) → gMany is vs σ H Q
  | [], ts, vs, env, σ, Q, r, hl, he, q => by
    have : ts = [] := List.eq_nil_of_length_eq_zero hl
    subst this
    exact ⟨r.nil_inv, q σ he fun _ _ => rfl⟩
  | i :: is, [], vs, env, σ, Q, r, hl, he, q => by simp at hl
  | i :: is, t :: ts, vs, env, σ, Q, r, hl, he, q => by
    obtain ⟨v, vr, rfl, a, b⟩ := r.inv
    refine ⟨v, vr, rfl, ?_⟩
    show gMany is vr (σ.set i (some v)) H Q
    refine gMany_ok (h := h) b (by simpa using hl) (he.set i a) fun σ' h1 h2 => q σ' h1 fun us hu => ?_
    rw [h2 us fun j hj => hu j (List.mem_cons_of_mem _ hj), wipe_set (hu i (List.mem_cons_self ..))]
theorem gT_ok {ω : Wd} {h : Store} {H : Hp} {tg : Tgt} {t : T} {v : V} {env env' : Env'} {σ : L2.St} {Q : L2.St → Hp → Prop} (S : StOk K cl ω h H) (r : Rep K ω t v) (he : EnvOk K ω env σ) (e : bindT tg t env = some env')
    (q : ∀ σ', EnvOk K ω env' σ' → (∀ us, (∀ i ∈ tg.slots, i ∈ us) → wipe σ' us = wipe σ us) → Q σ' H) : gT K tg v σ H Q := by
  cases tg with
  | one i =>
    simp only [bindT, Option.some.injEq] at e
    subst e
    exact q _ (he.set i r) fun us hu => wipe_set (hu i (by simp [Tgt.slots]))
  | tup is =>
    cases t with
    | tup ts =>
      simp only [bindT] at e
      obtain ⟨c, rfl⟩ := ne_ite e
      obtain ⟨p, vs, rfl, b1, c1⟩ := tupOf_ok (xs := ts) S r rfl
      exact .inl ⟨p, vs, rfl, b1, by rw [← c1.length]; exact c, gMany_ok (h := h) c1 c he q⟩
    | lst ts =>
      simp only [bindT] at e
      obtain ⟨c, rfl⟩ := ne_ite e
      obtain ⟨p, vs, rfl, b1, c1⟩ := lstOf_ok (xs := ts) S r rfl
      exact .inr ⟨p, vs, rfl, SqL.of b1, by rw [← c1.length]; exact c, gMany_ok (h := h) c1 c he q⟩
    | _ => simp [bindT] at e
  | nest i is =>
    cases t with
    | tup xs =>
      rcases xs with _ | ⟨a, _ | ⟨b, _ | ⟨c, l⟩⟩⟩
      · simp [bindT] at e
      · simp [bindT] at e
      · cases b with
        | tup ts =>
          simp only [bindT] at e
          obtain ⟨c, rfl⟩ := ne_ite e
          obtain ⟨p, vs, rfl, b1, c1⟩ := tupOf_ok (xs := [a, .tup ts]) S r rfl
          obtain ⟨v1, vr, rfl, ra, r2⟩ := c1.inv
          obtain ⟨v2, vr2, rfl, rt, r3⟩ := r2.inv
          have := r3.nil_inv
          subst this
          obtain ⟨p2, ws, rfl, b2, c2⟩ := tupOf_ok (xs := ts) S rt rfl
          refine ⟨p, [v1, .ref p2], rfl, b1, rfl, v1, [.ref p2], rfl, ?_⟩
          refine ⟨.ref p2, [], rfl, p2, ws, rfl, b2, by rw [← c2.length]; exact c, ?_⟩
          refine gMany_ok (h := h) c2 c (he.set i ra) fun σ' h1 h2 => ⟨rfl, q σ' h1 fun us hu => ?_⟩
          rw [h2 us fun j hj => hu j (List.mem_cons_of_mem _ hj), wipe_set (hu i (List.mem_cons_self ..))]
        | _ => simp [bindT] at e
      · simp [bindT] at e
    | _ => simp [bindT] at e
end
def Out.bindN {α β : Type} : Out α → (α → Store → Out β) → Out β
  | .ok a h, k => k a h
  | _, _ => .bad
@[simp] theorem bindN_ok {α β : Type} (a : α) (h : Store) (k : α → Store → Out β) : (Out.ok a h).bindN k = k a h := rfl
@[simp] theorem bindN_bad {α β : Type} (k : α → Store → Out β) : (Out.bad : Out α).bindN k = .bad := rfl
def dropE : List Nat → Env' → Env'
  | [], env => env
  | v :: vs, env => (dropE vs env).set v none
noncomputable def compLoop (gs : List (Nat × List T)) (tg : Tgt) (tt : M Bool) (me : M T) (env : Env') : List T → List T → Store → Out (List T)
  | [], acc, h => if gsOk h gs then .ok acc h else .bad
  | x :: r, acc, h => if gsOk h gs then
      match bindT tg x env with
      | some env1 => (tt env1 h).bindN fun b h1 => if b = true then (me env1 h1).bindN fun y h2 => if acc.length < 100000 then compLoop gs tg tt me env r (acc ++ [y]) h2 else .bad else compLoop gs tg tt me env r acc h1
      | none => .bad
    else .bad
noncomputable def mComp (src : M Src) (own : List Nat) (tg : Tgt) (tt : M Bool) (me : M T) : M (List T) := fun env h => (src env h).bind fun s h1 => compLoop s.gs tg tt me (dropE own env) s.items [] h1
def mYes : M Bool := fun _ h => .ok true h
def W0 : WX := fun _ _ _ _ => False
section
variable {K : PySem.W.Frag} {cl : Nat → Addr} {W : WX}
theorem PostG.later {α : Type} {ω ω2 : Wd} {H H2 : Hp} {σ : L2.St} {o : Out α} {R : α → Store → Wd → Hp → Prop} (N : Nx ω H ω2 H2) (q : PostG K cl W ω H σ o R) : PostG K cl W ω2 H2 σ o R := by
  cases o with
  | bad => exact q
  | ex e h => exact fun ω3 H3 cls d N3 S3 x => q ω3 H3 cls d (N.trans N3) S3 x
  | ok a h => exact fun ω3 H3 N3 S3 => q ω3 H3 (N.trans N3) S3
theorem PostG.bindZ {α β : Type} {Z : Out β → Prop} {ω : Wd} {H : Hp} {σ : L2.St} {o : Out α} {k : α → Store → Out β} (hb : ¬ Z .bad) (h : Z (o.bindN k)) : PostG K cl W0 ω H σ o fun a h1 _ _ => Z (k a h1) := by
  cases o with
  | bad => exact (hb h).elim
  | ex e h' => exact (hb h).elim
  | ok a h' => exact fun _ _ _ _ => h
theorem envOk_wipe {ω : Wd} {env : Env'} {σ : L2.St} (e : EnvOk K ω env σ) : ∀ vs : List Nat, EnvOk K ω (dropE vs env) (wipe σ vs)
  | [] => e
  | v :: vs => by
    have ih := envOk_wipe e vs
    unfold dropE wipe
    refine ⟨by simp [ih.1], fun i t h => ?_⟩
    by_cases q : v = i
    · subst q
      have hi : v < (dropE vs env).length := by
        have := (List.getElem?_eq_some_iff.mp h).1
        simpa using this
      rw [List.getElem?_set_self hi] at h
      cases h
    · rw [List.getElem?_set_ne q] at h
      obtain ⟨w, a, b⟩ := ih.2 i t h
      exact ⟨w, by rw [List.getElem?_set_ne q]; exact a, b⟩
theorem StOk.scratch {ω : Wd} {h : Store} {H : Hp} {D : Addr} {o : HO} (S : StOk K cl ω h H) (n1 : ω.Phi D = none) (n2 : D ∉ ω.rho) : StOk K cl ω h (upd H D o) where
  len := S.len
  nd := S.nd
  cells := fun i c q a b => (S.cells i c q a b).move (Gr.refl _) fun u z => by
    rw [upd_ne (fun e : q = D => n2 (by rw [← e]; exact List.mem_of_getElem? b))]; exact z
  phi := fun a u z => by
    rw [upd_ne (fun e : a = D => by rw [e, n1] at z; cases z)]; exact S.phi a u z
  dis := S.dis
theorem Nx.scratch {ω0 ω : Wd} {H0 H : Hp} {D : Addr} {o : HO} (N : Nx ω0 H0 ω H) (f : H0 D = none) : Nx ω0 H0 ω (upd H D o) where
  toGr := N.toGr
  newR := N.newR
  newF := N.newF
  fr := fun a u z n => by rw [upd_ne (ne_of_none z f)]; exact N.fr a u z n
  dom := fun a z => by
    by_cases e : a = D
    · rw [e]; exact f
    · rw [upd_ne e] at z; exact N.dom a z
theorem Nx.keepD {ω0 ω : Wd} {H0 H : Hp} {D : Addr} {o : HO} (N : Nx ω0 H0 ω H) (e : H0 D = some o) (n1 : ω0.Phi D = none) (n2 : D ∉ ω0.rho) (ph : ∀ u, ω.Phi D = some u → H D = some u) (no : ∀ fs, o ≠ .xd fs) : H D = some o ∧ ω.Phi D = none ∧ D ∉ ω.rho := by
  refine ⟨N.fr D o e n2, ?_, fun m => ?_⟩
  · cases q : ω.Phi D with
    | none => rfl
    | some u =>
      rcases N.newF D u q with z | z | z | z
      rotate_right
      · exact absurd z n2
      · rw [n1] at z; cases z
      · rw [e] at z; cases z
      · have k := ph u q
        rw [N.fr D o e n2] at k
        cases k
        obtain ⟨fs, z⟩ := z
        exact absurd z (no fs)
  · rcases N.newR D m with z | z
    · exact n2 z
    · rw [e] at z; cases z
end
section
variable {X : Cx} {cl : Nat → Addr} {W : WX} {elt tg iter : Expr} {ifs : List Expr} {scope : Scope} {own : List (Str × Nat)} {pos : Pos} {ms : M Src} {g : Tgt} {tt : M Bool} {me : M T}
theorem lc_step {K : PySem.W.Frag} {vs0 : List Nat} (hsub : ∀ i ∈ g.slots, i ∈ vs0) {σ : L2.St} {H : Hp} {Q : VK} (hh : tN K cl W (mComp ms vs0 g tt me) σ H Q) : tLc (tI K cl W ms) (gT K g) (tT K cl W0 tt) (tE K cl W0 me) vs0 σ H Q := by
  obtain ⟨env, h, ω, henv, hst, q⟩ := hh
  refine ⟨env, h, ω, henv, hst, ?_⟩
  unfold mComp at q
  revert q
  cases hsrc : ms env h with
  | bad => exact fun z => z
  | ex x h1 => exact fun z => z
  | ok s h1 =>
    intro q ω1 H1 N1 S1 J ij D hD
    have q : PostG K cl W ω H σ (compLoop s.gs g tt me (dropE vs0 env) s.items [] h1) _ := q
    have fH : H D = none := N1.dom D hD
    let Z : Out (List T) → Prop := fun o => PostG K cl W ω H σ o fun ts _ ω' H' => ∀ l vs, Reps K ω' ts vs → H' l = some (.lst vs) → ω'.Phi l = none → l ∉ ω'.rho → H l = none → Q (.ref l) H'
    have hZ : ¬ Z .bad := fun z => z
    -- the state at each turn
    let St' : Nat → Hp → Prop := fun i H' => ∃ ω' h' acc vs, Nx ω H ω' H' ∧ Nx ω1 H1 ω' H' ∧ StOk K cl ω' h' H' ∧ H' D = some (.lst vs) ∧ Reps K ω' acc vs ∧ ω'.Phi D = none ∧ D ∉ ω'.rho ∧
      Z (compLoop s.gs g tt me (dropE vs0 env) (s.items.drop i) acc h')
    refine ⟨fun i m H' => m = s.items.length - i ∧ i ≤ s.items.length ∧ St' i H', ⟨_, rfl, Nat.zero_le _, ω1, h1, [], [], N1.scratch fH, (Nx.refl ω1 H1).scratch hD, S1.scratch (S1.freshF hD) (S1.freshR hD), upd_same, Reps.nil, S1.freshF hD, S1.freshR hD, ?_⟩, ?_⟩
    · rw [List.drop_zero]
      exact q
    · rintro i m H' ⟨rfl, hle, ω', h', acc, vs, NH, N1', S', eD, rA, f1, f2, q2⟩
      by_cases hlt : i < s.items.length
      · have hdrop : s.items.drop i = s.items[i] :: s.items.drop (i + 1) := List.drop_eq_getElem_cons hlt
        rw [hdrop] at q2
        unfold compLoop at q2
        split at q2
        · rename_i go
          refine .inr ⟨ij.goes i ω' h' H' N1'.toGr S' go hlt, St' (i + 1), fun H'' p => ⟨_, by omega, rfl, hlt, p⟩, fun x H2 hy => ?_⟩
          obtain ⟨ω2, t, N2, S2, et, rt⟩ := ij.yields i ω' h' H' x H2 N1'.toGr S' go hlt hy
          have et' : t = s.items[i] := by
            rw [List.getElem?_eq_getElem hlt] at et
            exact (Option.some.inj et).symm
          subst et'
          obtain ⟨eD2, f12, f22⟩ := N2.keepD eD f1 f2 (fun u z => S2.phi D u z) (fun fs z => by cases z)
          have henv2 : EnvOk K ω2 (dropE vs0 env) (wipe σ vs0) := envOk_wipe (henv.mono (NH.trans N2).toGr) _
          split at q2
          · rename_i env1 eb
            refine gT_ok S2 rt henv2 eb fun σ2 he2 hw => ⟨?_, ?_⟩
            · have := hw vs0 hsub
              rw [this]
              have : ∀ vs : List Nat, ∀ us : List Nat, (∀ i ∈ vs, i ∈ us) → wipe (wipe σ vs) us = wipe σ us := by
                intro vs
                induction vs with
                | nil => intro us _; rfl
                | cons v vs ih =>
                  intro us hu
                  show wipe ((wipe σ vs).set v none) us = wipe σ us
                  rw [wipe_set (hu v (List.mem_cons_self ..)), ih us fun j hj => hu j (List.mem_cons_of_mem _ hj)]
              exact this _ _ fun _ hi => hi
            · refine ⟨env1, h', ω2, he2, S2, (PostG.bindZ hZ q2).mono fun b h3 ω3 H3 N3 S3 q4 => ?_⟩
              obtain ⟨eD3, f13, f23⟩ := N3.keepD eD2 f12 f22 (fun u z => S3.phi D u z) (fun fs z => by cases z)
              cases b with
              | false =>
                rw [if_neg Bool.false_ne_true] at q4 ⊢
                exact ⟨ω3, h3, acc, vs, (NH.trans N2).trans N3, (N1'.trans N2).trans N3, S3, eD3, (rA.mono N2.toGr).mono N3.toGr, f13, f23, q4⟩
              | true =>
                rw [if_pos rfl] at q4 ⊢
                refine ⟨env1, h3, ω3, he2.mono N3.toGr, S3, (PostG.bindZ hZ q4).mono fun y h4 ω4 H4 N4 S4 q5 v rv => ?_⟩
                obtain ⟨eD4, f14, f24⟩ := N4.keepD eD3 f13 f23 (fun u z => S4.phi D u z) (fun fs z => by cases z)
                split at q5
                · rename_i hlen
                  have rA4 : Reps K ω4 acc vs := ((rA.mono N2.toGr).mono N3.toGr).mono N4.toGr
                  exact ⟨vs, eD4, by rw [← rA.length, sizeLine_eq]; omega, ω4, h4, acc ++ [y], vs ++ [v], (((NH.trans N2).trans N3).trans N4).scratch fH, (((N1'.trans N2).trans N3).trans N4).scratch hD, S4.scratch f14 f24, upd_same, rA4.append (Reps.one rv), f14, f24, q5⟩
                · exact (hZ q5).elim
          · exact (hZ q2).elim
        · exact (hZ q2).elim
      · have e : i = s.items.length := by omega
        subst e
        rw [List.drop_length] at q2
        unfold compLoop at q2
        split at q2
        · rename_i go
          refine .inl ⟨ij.stops ω' h' H' N1'.toGr S' go, ?_⟩
          exact q2 ω' H' NH S' D vs rA eD f1 f2 fH
        · exact (hZ q2).elim
theorem kn_comp (hc : X.calm = true) (hN : X.N.Nodup) (hi : PI X tg iter (tI X.K cl W ms)) (ok : BlkOk X.N X.env.scope scope own) (hsub : ∀ i ∈ g.slots, i ∈ own.map (·.2))
    (hg : ∀ (s : Shared) (H : Hp) (C : Addr) (cl' : List (Str × Addr)) (fp : List Addr), PG (X.blk s H scope (compEnvC scope cl' C X.env) fp) tg (gT X.K g))
    (ht : ∀ (s : Shared) (H : Hp) (C : Addr) (cl' : List (Str × Addr)) (fp : List Addr), PTs (X.blk s H scope (compEnvC scope cl' C X.env) fp) ifs (tT X.K cl W0 tt))
    (he : ∀ (s : Shared) (H : Hp) (C : Addr) (cl' : List (Str × Addr)) (fp : List Addr), PE (X.blk s H scope (compEnvC scope cl' C X.env) fp) elt (tE X.K cl W0 me))
    (hs : ∀ x, foldedSetIterable iter X.env x = pure x := by intro _; rfl) : PE X (.ListComp elt [⟨tg, iter, ifs, 0⟩] scope pos) (tN X.K cl W (mComp ms (own.map (·.2)) g tt me)) :=
  (pe_lc hc hN hi ok hg ht he hs).weak fun σ H Q h => lc_step hsub h
end
end Sm
namespace Sm
open PySem PySem.Spec PyProof.Rows L2
inductive SO where
  | nx (env : Env') (h : Store) | rt (t : T) (h : Store) | bk (env : Env') (h : Store) | ct (env : Env') (h : Store) | ex (e : Ex) (env : Env') (h : Store) | bad
abbrev MS := Env' → Store → SO
def SO.seq : SO → MS → SO
  | .nx env h, k => k env h
  | o, _ => o
@[simp] theorem seq_nx (env : Env') (h : Store) (k : MS) : (SO.nx env h).seq k = k env h := rfl
@[simp] theorem seq_rt (t : T) (h : Store) (k : MS) : (SO.rt t h).seq k = .rt t h := rfl
@[simp] theorem seq_bk (env : Env') (h : Store) (k : MS) : (SO.bk env h).seq k = .bk env h := rfl
@[simp] theorem seq_ct (env : Env') (h : Store) (k : MS) : (SO.ct env h).seq k = .ct env h := rfl
@[simp] theorem seq_ex (e : Ex) (env : Env') (h : Store) (k : MS) : (SO.ex e env h).seq k = .ex e env h := rfl
@[simp] theorem seq_bad (k : MS) : SO.bad.seq k = .bad := rfl
def bindE {α : Type} : Out α → Env' → (α → Store → SO) → SO
  | .ok a h, _, k => k a h
  | .ex e h, env, _ => .ex e env h
  | .bad, _, _ => .bad
@[simp] theorem bindE_ok {α : Type} (a : α) (h : Store) (env : Env') (k : α → Store → SO) : bindE (.ok a h) env k = k a h := rfl
@[simp] theorem bindE_ex {α : Type} (e : Ex) (h : Store) (env : Env') (k : α → Store → SO) : bindE (.ex e h : Out α) env k = .ex e env h := rfl
@[simp] theorem bindE_bad {α : Type} (env : Env') (k : α → Store → SO) : bindE (.bad : Out α) env k = .bad := rfl
def PostS (K : PySem.W.Frag) (cl : Nat → Addr) (W : WX) (ω : Wd) (H : Hp) (o : SO) (D : Ends) : Prop :=
  match o with
  | .nx env' h' => ∀ ω' H' σ', Nx ω H ω' H' → StOk K cl ω' h' H' → EnvOk K ω' env' σ' → D.nx σ' H'
  | .bk env' h' => ∀ ω' H' σ', Nx ω H ω' H' → StOk K cl ω' h' H' → EnvOk K ω' env' σ' → D.bk σ' H'
  | .ct env' h' => ∀ ω' H' σ', Nx ω H ω' H' → StOk K cl ω' h' H' → EnvOk K ω' env' σ' → D.ct σ' H'
  | .rt t h' => ∀ ω' H' v, Nx ω H ω' H' → StOk K cl ω' h' H' → Rep K ω' t v → D.rt v H'
  | .ex e env' h' => ∀ ω' H' σ' cls d, Nx ω H ω' H' → StOk K cl ω' h' H' → EnvOk K ω' env' σ' → XOk K cl ω' H' e cls d → W cls d σ' H'
  | .bad => False
def tS (K : PySem.W.Frag) (cl : Nat → Addr) (W : WX) (m : MS) : TS := fun D σ H => ∃ env h ω, EnvOk K ω env σ ∧ StOk K cl ω h H ∧ PostS K cl W ω H (m env h) D
section
variable {K : PySem.W.Frag} {cl : Nat → Addr} {W : WX} {ω ω2 : Wd} {H H2 : Hp} {D : Ends}
theorem PostS.later {o : SO} (N : Nx ω H ω2 H2) (q : PostS K cl W ω H o D) : PostS K cl W ω2 H2 o D := by
  cases o with
  | nx env h => exact fun ω3 H3 σ3 N3 S3 e => q ω3 H3 σ3 (N.trans N3) S3 e
  | bk env h => exact fun ω3 H3 σ3 N3 S3 e => q ω3 H3 σ3 (N.trans N3) S3 e
  | ct env h => exact fun ω3 H3 σ3 N3 S3 e => q ω3 H3 σ3 (N.trans N3) S3 e
  | rt t h => exact fun ω3 H3 σ3 N3 S3 e => q ω3 H3 σ3 (N.trans N3) S3 e
  | ex e env h => exact fun ω3 H3 σ3 cls d N3 S3 e x => q ω3 H3 σ3 cls d (N.trans N3) S3 e x
  | bad => exact q
theorem PostS.bindE {α : Type} {o : Out α} {env : Env'} {σ : L2.St} {k : α → Store → SO} (he : EnvOk K ω env σ) (q : PostS K cl W ω H (Sm.bindE o env k) D) : PostG K cl W ω H σ o fun a h1 ω1 H1 => PostS K cl W ω1 H1 (k a h1) D := by
  cases o with
  | ok a h => exact fun ω1 H1 N1 S1 => PostS.later N1 q
  | ex e h => exact fun ω1 H1 cls d N1 S1 x => q ω1 H1 σ cls d N1 S1 (he.mono N1.toGr) x
  | bad => exact q
theorem PostS.seq {o : SO} {k : MS} (q : PostS K cl W ω H (o.seq k) D) : PostS K cl W ω H o { D with nx := fun σ' H' => tS K cl W k D σ' H' } := by
  cases o with
  | nx env h => exact fun ω1 H1 σ1 N1 S1 e => ⟨env, h, ω1, e, S1, PostS.later N1 q⟩
  | bk env h => exact q
  | ct env h => exact q
  | rt t h => exact q
  | ex e env h => exact q
  | bad => exact q
end
def sNil : MS := fun env h => .nx env h
def sSeq (a b : MS) : MS := fun env h => (a env h).seq b
def sRet (m : M T) : MS := fun env h => bindE (m env h) env fun t h1 => .rt t h1
def sRetN : MS := fun _ h => .rt .non h
def sExp (m : M T) : MS := fun env h => bindE (m env h) env fun _ h1 => .nx env h1
def sIf (c : M Bool) (a b : MS) : MS := fun env h => bindE (c env h) env fun k h1 => if k = true then a env h1 else b env h1
def sSet (i : Nat) (m : M T) : MS := fun env h => bindE (m env h) env fun t h1 => .nx (env.set i (some t)) h1
def sAsg (g : Tgt) (m : M T) : MS := fun env h => bindE (m env h) env fun t h1 => match bindT g t env with
  | some env1 => .nx env1 h1
  | none => .bad
def sPar (i j : Nat) (m n : M T) : MS := fun env h => bindE (m env h) env fun t h1 => bindE (n env h1) env fun u h2 => .nx ((env.set i (some t)).set j (some u)) h2
def sBreak : MS := fun env h => .bk env h
def sCont : MS := fun env h => .ct env h
section
variable {X : Cx} {cl : Nat → Addr} {W : WX} {e : Expr} {m n : M T} {pos : Pos} {a b : MS} {st : Stmt} {rest : List Stmt}
theorem ks_nil : PSs X [] (tS X.K cl W sNil) := pss_nil.weak fun D σ H ⟨env, h, ω, he, hs, q⟩ => q ω H σ (Nx.refl _ _) hs he
theorem ks_cons (h1 : PS X st (tS X.K cl W a)) (h2 : PSs X rest (tS X.K cl W b)) : PSs X (st :: rest) (tS X.K cl W (sSeq a b)) :=
  (pss_cons h1 h2).weak fun D σ H ⟨env, h, ω, he, hs, q⟩ => ⟨env, h, ω, he, hs, PostS.seq q⟩
theorem ks_one (h1 : PS X st (tS X.K cl W a)) : PSs X [st] (tS X.K cl W a) := pss_one h1
theorem ks_ret (h : PE X e (tE X.K cl W m)) : PS X (.Return (some e) pos) (tS X.K cl W (sRet m)) :=
  (ps_ret h).weak fun D σ H ⟨env, h, ω, he, hs, q⟩ => ⟨env, h, ω, he, hs, (PostS.bindE he q).mono fun t h1 ω1 H1 N1 S1 q1 v r => q1 ω1 H1 v (Nx.refl _ _) S1 r⟩
theorem ks_expr (h : PE X e (tE X.K cl W m)) (hs : swapsWith e none pos.line X.env = pure false := by rfl) : PS X (.Expr e pos) (tS X.K cl W (sExp m)) :=
  (ps_expr h hs).weak fun D σ H ⟨env, h, ω, he, hs, q⟩ => ⟨env, h, ω, he, hs, (PostS.bindE he q).mono fun t h1 ω1 H1 N1 S1 q1 v r => q1 ω1 H1 σ (Nx.refl _ _) S1 (he.mono N1.toGr)⟩
theorem ks_if {c : Expr} {mc : M Bool} {as bs : List Stmt} (hc : PT X c (tT X.K cl W mc)) (ha : PSs X as (tS X.K cl W a)) (hb : PSs X bs (tS X.K cl W b)) : PS X (.If c as bs pos) (tS X.K cl W (sIf mc a b)) := by
  refine (ps_if hc ha hb).weak fun D σ H ⟨env, h, ω, he, hs, q⟩ => ⟨env, h, ω, he, hs, (PostS.bindE he q).mono fun k h1 ω1 H1 N1 S1 q1 => ?_⟩
  cases k with
  | true => rw [if_pos rfl] at q1 ⊢; exact ⟨env, h1, ω1, he.mono N1.toGr, S1, q1⟩
  | false => rw [if_neg Bool.false_ne_true] at q1 ⊢; exact ⟨env, h1, ω1, he.mono N1.toGr, S1, q1⟩
theorem set_step {K : PySem.W.Frag} {i : Nat} {D : Ends} {σ : L2.St} {H : Hp} (h : tS K cl W (sSet i m) D σ H) : tAsg (tE K cl W m) (gName i) D σ H := by
  obtain ⟨env, h, ω, he, hs, q⟩ := h
  exact ⟨env, h, ω, he, hs, (PostS.bindE he q).mono fun t h1 ω1 H1 N1 S1 q1 v r => q1 ω1 H1 _ (Nx.refl _ _) S1 ((he.mono N1.toGr).set i r)⟩
theorem ks_set {i : Nat} {x : Str} {pos' : Pos} (hN : X.N.Nodup) (hi : X.N[i]? = some x) (hx : Loc X.env.scope x) (he : PE X e (tE X.K cl W m)) (hs : swapsWith e (some (.Name x pos')) pos.line X.env = pure false := by rfl) (hf : X.fn x = true ∨ X.env.scope.names.lookup x = some .local := by first | exact .inl rfl | exact .inr rfl | assumption) :
    PS X (.Assign [.Name x pos'] e pos) (tS X.K cl W (sSet i m)) := (ps_set hN hi hx he hs hf).weak fun D σ H h => set_step h
section
variable {elt tg iter : Expr} {ifs : List Expr} {scope : Scope} {own : List (Str × Nat)} {ms : M Src} {g : Tgt} {tt : M Bool} {me : M T} {i : Nat} {y : Str} {py spos : Pos}
end
theorem ks_asg {tg : Expr} {g : Tgt} (hg : PG X tg (gT X.K g)) (he : PE X e (tE X.K cl W m)) (hs : swapsWithSole [tg] e pos.line X.env = pure false := by rfl) (hw : swappedStores [tg] e X.env = pure none := by rfl)
    (h1 : (assignEach [tg] X.env).map (·.2) = [assign tg X.env] := by rfl) : PS X (.Assign [tg] e pos) (tS X.K cl W (sAsg g m)) := by
  refine (ps_asg he hg hs hw h1).weak fun D σ H ⟨env, h, ω, he, hs, q⟩ => ⟨env, h, ω, he, hs, (PostS.bindE he q).mono fun t h1 ω1 H1 N1 S1 q1 v r => ?_⟩
  split at q1
  · rename_i env1 eb
    exact gT_ok S1 r (he.mono N1.toGr) eb fun σ' e' _ => q1 ω1 H1 σ' (Nx.refl _ _) S1 e'
  · exact q1.elim
end
section
variable {X : Cx} {pos : Pos}
theorem kg_one {i : Nat} {x : Str} (hN : X.N.Nodup) (hi : X.N[i]? = some x) (hx : Loc X.env.scope x) (hf : X.fn x = true ∨ X.env.scope.names.lookup x = some .local := by first | exact .inl rfl | exact .inr rfl | assumption) : PG X (.Name x pos) (gT X.K (.one i)) := pg_name hN hi hx hf
theorem kgs_nil : PGs X [] (gMany []) := pgs_nil
theorem kgs_cons {i : Nat} {x : Str} {p : Pos} {es : List Expr} {is : List Nat} (hN : X.N.Nodup) (hi : X.N[i]? = some x) (hx : Loc X.env.scope x) (h2 : PGs X es (gMany is)) (hf : X.fn x = true ∨ X.env.scope.names.lookup x = some .local := by first | exact .inl rfl | exact .inr rfl | assumption)
    (hs : (assignEach (.Name x p :: es) X.env).map (·.2) = assign (.Name x p) X.env :: (assignEach es X.env).map (·.2) := by rfl) : PGs X (.Name x p :: es) (gMany (i :: is)) := pgs_cons (pg_name hN hi hx hf) h2 hs
theorem kg_tup {es : List Expr} {k : Nat} {is : List Nat} (hc : X.calm = true) (h : PGs X es (gMany is)) (hn : (assignEach es X.env).length = is.length := by rfl) (hst : (assignEach es X.env).findIdx? (·.1) = none := by rfl) : PG X (.Tuple es k pos) (gT X.K (.tup is)) := pg_seq hc h hn hst
end
theorem envOk_drop {K : PySem.W.Frag} {ω : Wd} {env : Env'} {σ : L2.St} (e : EnvOk K ω env σ) : ∀ vs : List Nat, EnvOk K ω (dropE vs env) σ
  | [] => e
  | v :: vs => (envOk_drop e vs).drop v
noncomputable def forLoop (gs : List (Nat × List T)) (tg : Tgt) (kill : List Nat) (body : MS) : List T → MS
  | [], env, h => if gsOk h gs then .nx env h else .bad
  | x :: r, env, h => if gsOk h gs then
      match bindT tg x env with
      | some env1 => match body env1 h with
        | .nx env2 h2 => forLoop gs tg kill body r (dropE kill env2) h2
        | .ct env2 h2 => forLoop gs tg kill body r (dropE kill env2) h2
        | .bk env2 h2 => .nx env2 h2
        | o => o
      | none => .bad
    else .bad
noncomputable def sFor (src : M Src) (tg : Tgt) (kill : List Nat) (body : MS) : MS := fun env h => bindE (src env h) env fun s h1 => forLoop s.gs tg kill body s.items (dropE kill env) h1
section
variable {X : Cx} {cl : Nat → Addr} {W : WX} {tg iter : Expr} {g : Tgt} {kill : List Nat} {body : MS} {bd : List Stmt} {ms : M Src} {pos : Pos}
theorem ks_for (hp : PassesOwn (model X.prog X.w) X.A X.env X.xe) (hc : X.calm = true) (hi : PI X tg iter (tI X.K cl W ms)) (hg : PG X tg (gT X.K g)) (hb : PSs X bd (tS X.K cl W body))
    (hs : ∀ x, foldedSetIterable iter X.env x = pure x := by intro _; rfl) : PS X (.For tg iter bd [] pos) (tS X.K cl W (sFor ms g kill body)) := by
  refine (ps_for hp hc hi hg hb hs).weak fun D σ H ⟨env, h, ω, he, hst, q⟩ => ⟨env, h, ω, he, hst, (PostS.bindE he q).mono fun s h1 ω1 H1 N1 S1 q1 J ij => ?_⟩
  let St' : Nat → L2.St → Hp → Prop := fun i σ' H' => ∃ env' h' ω', Nx ω1 H1 ω' H' ∧ EnvOk X.K ω' env' σ' ∧ StOk X.K cl ω' h' H' ∧ PostS X.K cl W ω' H' (forLoop s.gs g kill body (s.items.drop i) env' h') D
  refine ⟨fun i m σ' H' => m = s.items.length - i ∧ i ≤ s.items.length ∧ St' i σ' H', ⟨_, rfl, Nat.zero_le _, dropE kill env, h1, ω1, Nx.refl _ _, envOk_drop (he.mono N1.toGr) _, S1, by rw [List.drop_zero]; exact q1⟩, ?_⟩
  rintro i m σ' H' ⟨rfl, hle, env', h', ω', N', e', S', q'⟩
  by_cases hlt : i < s.items.length
  · have hdrop : s.items.drop i = s.items[i] :: s.items.drop (i + 1) := List.drop_eq_getElem_cons hlt
    rw [hdrop] at q'
    unfold forLoop at q'
    split at q'
    · rename_i go
      refine .inr ⟨ij.goes i ω' h' H' N'.toGr S' go hlt, St' (i + 1), fun σ'' H'' p => ⟨_, by omega, rfl, hlt, p⟩, fun x H2 hy => ?_⟩
      obtain ⟨ω2, t, N2, S2, et, rt⟩ := ij.yields i ω' h' H' x H2 N'.toGr S' go hlt hy
      have et' : t = s.items[i] := by
        rw [List.getElem?_eq_getElem hlt] at et
        exact (Option.some.inj et).symm
      subst et'
      split at q'
      · rename_i env1 eb
        refine gT_ok S2 rt (e'.mono N2.toGr) eb fun σ2 he2 _ => ⟨env1, h', ω2, he2, S2, ?_⟩
        have q2 := PostS.later N2 q'
        revert q2
        cases body env1 h' with
        | nx env2 h2 => exact fun q2 ω3 H3 σ3 N3 S3 e3 => ⟨_, h2, ω3, (N'.trans N2).trans N3, envOk_drop e3 _, S3, PostS.later N3 q2⟩
        | ct env2 h2 => exact fun q2 ω3 H3 σ3 N3 S3 e3 => ⟨_, h2, ω3, (N'.trans N2).trans N3, envOk_drop e3 _, S3, PostS.later N3 q2⟩
        | bk env2 h2 => exact fun q2 => q2
        | rt t h2 => exact fun q2 => q2
        | ex e env2 h2 => exact fun q2 => q2
        | bad => exact fun q2 => q2
      · exact q'.elim
    · exact q'.elim
  · have e : i = s.items.length := by omega
    subst e
    rw [List.drop_length] at q'
    unfold forLoop at q'
    split at q'
    · rename_i go
      exact .inl ⟨ij.stops ω' h' H' N'.toGr S' go, q' ω' H' σ' (Nx.refl _ _) S' e'⟩
    · exact q'.elim
end
inductive WS where
  | out (o : SO) | go (env : Env') (h : Store)
def wStep (c : M Bool) (kill : List Nat) (body : MS) (env : Env') (h : Store) : WS :=
  match c env h with
  | .ok false h1 => .out (.nx env h1)
  | .ok true h1 => match body env h1 with
    | .nx env2 h2 => .go (dropE kill env2) h2
    | .ct env2 h2 => .go (dropE kill env2) h2
    | .bk env2 h2 => .out (.nx env2 h2)
    | o => .out o
  | .ex e h1 => .out (.ex e env h1)
  | .bad => .out .bad
def whileN (c : M Bool) (kill : List Nat) (body : MS) : Nat → Env' → Store → Option SO
  | 0, _, _ => none
  | n + 1, env, h => match wStep c kill body env h with
    | .out o => some o
    | .go env2 h2 => whileN c kill body n env2 h2
open Classical in
noncomputable def whileL (c : M Bool) (kill : List Nat) (body : MS) : MS := fun env h => if hx : ∃ n o, whileN c kill body n env h = some o then hx.choose_spec.choose else .bad
section
variable {c : M Bool} {kill : List Nat} {body : MS}
theorem whileN_mono : ∀ {n k : Nat} {env : Env'} {h : Store} {o : SO}, whileN c kill body n env h = some o → whileN c kill body (n + k) env h = some o
  | 0, _, _, _, _, e => by cases e
  | n + 1, k, env, h, o, e => by
    rw [show n + 1 + k = (n + k) + 1 by omega]
    unfold whileN at e ⊢
    split at e
    · exact e
    · exact whileN_mono e
theorem whileN_inj {n k : Nat} {env : Env'} {h : Store} {o u : SO} (e1 : whileN c kill body n env h = some o) (e2 : whileN c kill body k env h = some u) : o = u := by
  have a := whileN_mono (k := k) e1
  have b := whileN_mono (k := n) e2
  rw [Nat.add_comm] at b
  rw [a] at b
  exact Option.some.inj b
theorem whileL_of {n : Nat} {env : Env'} {h : Store} {o : SO} (e : whileN c kill body n env h = some o) : whileL c kill body env h = o := by
  unfold whileL
  have hx : ∃ n o, whileN c kill body n env h = some o := ⟨n, o, e⟩
  rw [dif_pos hx]
  exact whileN_inj hx.choose_spec.choose_spec e
theorem whileL_eq (env : Env') (h : Store) : whileL c kill body env h = match wStep c kill body env h with
    | .out o => o
    | .go env2 h2 => whileL c kill body env2 h2 := by
  cases e : wStep c kill body env h with
  | out o =>
    refine whileL_of (n := 1) ?_
    unfold whileN
    rw [e]
  | go env2 h2 =>
    show whileL c kill body env h = whileL c kill body env2 h2
    by_cases hx : ∃ n o, whileN c kill body n env2 h2 = some o
    · obtain ⟨n, o, q⟩ := hx
      rw [whileL_of q]
      refine whileL_of (n := n + 1) ?_
      unfold whileN
      rw [e]
      exact q
    · have hy : ¬ ∃ n o, whileN c kill body n env h = some o := fun ⟨n, o, q⟩ => by
        cases n with
        | zero => cases q
        | succ n =>
          unfold whileN at q
          rw [e] at q
          exact hx ⟨n, o, q⟩
      unfold whileL
      rw [dif_neg hx, dif_neg hy]
end
noncomputable def sWhile (c : M Bool) (kill : List Nat) (body : MS) : MS := fun env h => whileL c kill body (dropE kill env) h
section
variable {X : Cx} {cl : Nat → Addr} {W : WX} {c : Expr} {mc : M Bool} {kill : List Nat} {body : MS} {bd : List Stmt} {pos : Pos}
theorem ks_while (hp : PassesOwn (model X.prog X.w) X.A X.env X.xe) (hc : PT X c (tT X.K cl W mc)) (hb : PSs X bd (tS X.K cl W body)) : PS X (.While c bd [] pos) (tS X.K cl W (sWhile mc kill body)) := by
  refine (ps_while hp hc hb).weak fun D σ H ⟨env, h, ω, he, hst, q⟩ => ?_
  have q : PostS X.K cl W ω H (whileL mc kill body (dropE kill env) h) D := q
  have hx : ∃ n o, whileN mc kill body n (dropE kill env) h = some o := Classical.byContradiction fun z => by
    unfold whileL at q
    rw [dif_neg z] at q
    exact q
  obtain ⟨n, o, eo⟩ := hx
  rw [whileL_of eo] at q
  refine ⟨fun m σ' H' => ∃ env' h' ω', EnvOk X.K ω' env' σ' ∧ StOk X.K cl ω' h' H' ∧ ∃ o, whileN mc kill body m env' h' = some o ∧ PostS X.K cl W ω' H' o D, ⟨n, _, h, ω, envOk_drop he _, hst, o, eo, q⟩, ?_⟩
  rintro m σ' H' ⟨env', h', ω', e', S', o', eo', q'⟩
  cases m with
  | zero => cases eo'
  | succ m =>
    refine ⟨env', h', ω', e', S', ?_⟩
    unfold whileN wStep at eo'
    revert eo'
    cases mc env' h' with
    | bad =>
      intro eo'
      cases eo'
      exact q'
    | ex e h1 =>
      intro eo'
      cases eo'
      exact fun ω1 H1 cls d N1 S1 x => q' ω1 H1 σ' cls d N1 S1 (e'.mono N1.toGr) x
    | ok k h1 =>
      intro eo' ω1 H1 N1 S1
      cases k with
      | false =>
        cases eo'
        rw [if_neg Bool.false_ne_true]
        exact q' ω1 H1 σ' N1 S1 (e'.mono N1.toGr)
      | true =>
        rw [if_pos rfl]
        refine ⟨fun σ2 H2 => ∃ env' h' ω', EnvOk X.K ω' env' σ2 ∧ StOk X.K cl ω' h' H2 ∧ ∃ o, whileN mc kill body m env' h' = some o ∧ PostS X.K cl W ω' H2 o D, fun σ2 H2 z => ⟨m, Nat.lt_succ_self _, z⟩, env', h1, ω1, e'.mono N1.toGr, S1, ?_⟩
        have q2 := PostS.later N1 q'
        dsimp only at eo'
        revert eo'
        cases body env' h1 with
        | nx env2 h2 => exact fun eo' ω3 H3 σ3 N3 S3 e3 => ⟨_, h2, ω3, envOk_drop e3 _, S3, o', eo', PostS.later N3 q2⟩
        | ct env2 h2 => exact fun eo' ω3 H3 σ3 N3 S3 e3 => ⟨_, h2, ω3, envOk_drop e3 _, S3, o', eo', PostS.later N3 q2⟩
        | bk env2 h2 => intro eo'; cases eo'; exact q2
        | rt t h2 => intro eo'; cases eo'; exact q2
        | ex e env2 h2 => intro eo'; cases eo'; exact q2
        | bad => intro eo'; cases eo'; exact q2
end
end Sm
namespace Sm
open PySem PySem.Spec PyProof.Rows L2
theorem pus_append : ∀ {xs ys : List T}, pus (xs ++ ys) = (pus xs && pus ys)
  | [], ys => by simp [pus]
  | x :: xs, ys => by
    show (x.pu && pus (xs ++ ys)) = ((x.pu && pus xs) && pus ys)
    rw [pus_append, Bool.and_assoc]
theorem pus_all : ∀ {xs : List T}, pus xs = xs.all T.pu
  | [] => rfl
  | x :: xs => by unfold pus; rw [pus_all]; rfl
theorem pus_set {xs : List T} {i : Nat} {t : T} (h : pus xs = true) (ht : t.pu = true) : pus (xs.set i t) = true := by
  rw [pus_all, List.all_eq_true] at h ⊢
  intro x hx
  rcases List.mem_or_eq_of_mem_set hx with z | z
  · exact h x z
  · rw [z]; exact ht
abbrev FM := T → List T → Store → Option (T × Store)
def rVM (K : PySem.W.Frag) (cl : Nat → Addr) (f : FM) : V → List V → Hp → VK → Prop := fun x xs H Q => ∃ a as h ω t h', StOk K cl ω h H ∧ Rep K ω a x ∧ Reps K ω as xs ∧ f a as h = some (t, h') ∧ ∀ ω' H' v, Nx ω H ω' H' → StOk K cl ω' h' H' → Rep K ω' t v → Q v H'
def outM (o : Option (T × Store)) : Out T := match o with
  | some (t, h) => .ok t h
  | none => .bad
def mMethL (f : FM) (m : M T) (r : M (List T)) : M T := fun env h => (m env h).bind fun a h1 => match lstOf h1 a with
  | some _ => (r env h1).bind fun as h2 => outM (f a as h2)
  | none => .bad
section
variable {X : Cx} {cl : Nat → Addr} {W : WX} {o e : Expr} {es : List Expr} {m : M T} {r : M (List T)} {f : FM} {name : Str} {apos cpos : Pos} {id : String}
theorem methL_step {K : PySem.W.Frag} {σ : L2.St} {H : Hp} {Q : VK} (h : tE K cl W (mMethL f m r) σ H Q) : tE K cl W m σ H fun x H1 => tyV K "list" x H1 ∧ tA K cl W r σ H1 fun xs H2 => rVM K cl f x xs H2 Q := by
  obtain ⟨env, h, ω, he, hs, q⟩ := h
  refine ⟨env, h, ω, he, hs, (PostG.bind q).mono fun a h1 ω1 H1 N1 S1 q1 v rv => ?_⟩
  split at q1
  · rename_i xs ea
    obtain ⟨p, vs, rfl, b1, c1⟩ := lstOf_ok S1 rv ea
    refine ⟨.inl ⟨rfl, vs, SqL.of b1⟩, env, h1, ω1, he.mono N1.toGr, S1, (PostG.bind q1).mono fun as h2 ω2 H2 N2 S2 q2 ws rws => ?_⟩
    cases ef : f a as h2 with
    | none => rw [ef] at q2; exact q2.elim
    | some th =>
      rw [ef] at q2
      exact ⟨a, as, h2, ω2, th.1, th.2, S2, rv.mono N2.toGr, rws, ef, fun ω' H' v N S r => q2 ω' H' N S v r⟩
  · exact q1.elim
theorem k_methL (slot : Slot "list" name id) (hty : typeOf (.builtin id) = pure (.type "method_descriptor")) (hm : MtR X id (rVM X.K cl f)) (ho : PE X o (tE X.K cl W m)) (ha : PA X (e :: es) (tA X.K cl W r))
    (hba : attributeBase o name X.env (eval o X.env) = eval o X.env := by rfl)
    (hfew : ((backTo cpos (starEach (e :: es) X.env)).all (fun x => !x.1) && (backToKw cpos (keywordEach [] X.env)).all (fun x => x.1.isSome) && decide ((e :: es).length + ([] : List Keyword).length + (if ([] : List Keyword).isEmpty then 0 else 1) < 30)) = true := by rfl)
    (hline : (apos.endLine == cpos.line) = true := by rfl) (hs : starEach (e :: es) X.env = (false, eval e X.env) :: starEach es X.env := by rfl) (hplain : (backTo cpos (starEach es X.env)).any (·.1) = false := by rfl) :
    PE X (.Call (.Attribute o name apos) (e :: es) [] cpos) (tE X.K cl W (mMethL f m r)) :=
  (pe_bm PySem.F.plainAttrs_list slot hty hm ho ha hba hfew hline hs hplain).weak fun _ _ _ h => methL_step h
def cellL (h : Store) (n : Nat) : Option (List T) := match h[n]? with
  | some (.lst xs) => some xs
  | _ => none
theorem cellL_ok {K : PySem.W.Frag} {ω : Wd} {h : Store} {H : Hp} (S : StOk K cl ω h H) {n : Nat} {v : V} {xs : List T} (r : Rep K ω (.loc n) v) (e : cellL h n = some xs) : ∃ p vs, v = .ref p ∧ ω.rho[n]? = some p ∧ H p = some (.lst vs) ∧ Reps K ω xs vs ∧ pus xs = true := by
  unfold cellL at e
  split at e
  · rename_i ys hn
    cases e
    exact lst_at S r hn
  · cases e
def fMove (n : Nat) (xs : List T) (y : T) (h : Store) : Option (T × Store) := match y with
  | .loc m => match cellL h m with
    | some ys => if m ≠ n ∧ xs.length < 100000 then some (.non, (h.set m .dead).set n (.lst (xs ++ [.lst ys]))) else none
    | none => none
  | _ => none
def fAppend : FM := fun a as h => match a, as with
  | .loc n, [y] => match cellL h n with
    | some xs => if xs.length < 100000 ∧ y.pu = true then some (.non, h.set n (.lst (xs ++ [y]))) else fMove n xs y h
    | none => none
  | _, _ => none
theorem line_lt {n : Nat} (h : n < 100000) : n < sizeLine := by rw [sizeLine_eq]; omega
theorem cellL_at {h : Store} {n : Nat} {xs : List T} (e : cellL h n = some xs) : h[n]? = some (.lst xs) := by
  unfold cellL at e
  split at e
  · rename_i ys hn
    cases e
    exact hn
  · cases e
theorem put_lst {K : PySem.W.Frag} {ω : Wd} {h : Store} {H : Hp} (S : StOk K cl ω h H) {n : Nat} {p : Addr} {ys zs : List T} {vs : List V} (e0 : h[n]? = some (.lst zs)) (e : ω.rho[n]? = some p) (hp : pus ys = true) (r : Reps K ω ys vs) : StOk K cl ω (h.set n (.lst ys)) (upd H p (.lst vs)) ∧ Nx ω H ω (upd H p (.lst vs)) :=
  ⟨S.put e0 (fun z => by cases z) e ⟨hp, vs, upd_same, r⟩, nx_put S e⟩
theorem m_append : MtR X "list.append" (rVM X.K cl fAppend) := by
  intro pins s σ H x xs v us Q I rx rxs ⟨a, as, h, ω, t, h', S, ra, ras, e, q⟩
  unfold fAppend at e
  split at e
  · rename_i n y
    split at e
    · rename_i ys ey
      obtain ⟨p, vs, rfl, e1, e2, e3, e4⟩ := cellL_ok S ra ey
      obtain ⟨w, wr, rfl, r1, r2⟩ := ras.inv
      rw [r2.nil_inv] at rxs
      by_cases c : ys.length < 100000 ∧ y.pu = true
      · rw [if_pos c] at e
        cases e
        obtain ⟨S', N'⟩ := put_lst S (cellL_at ey) e1 (by rw [pus_append, e4, Bool.true_and]; simpa [pus] using c.2) (e3.append (Reps.one r1))
        exact mt_append pins s σ H _ _ v us Q I rx rxs ⟨p, vs, w, rfl, rfl, e2, by rw [← e3.length]; exact line_lt c.1, q _ _ _ N' S' rep_non⟩
      · rw [if_neg c] at e
        unfold fMove at e
        split at e
        · rename_i m
          split at e
          · rename_i zs ez
            by_cases d : m ≠ n ∧ ys.length < 100000
            · rw [if_pos d] at e
              cases e
              obtain ⟨p2, vs2, rfl, b1, b2, b3, b4⟩ := cellL_ok S r1 ez
              have S1 := S.freeze (cellL_at ez) b1 b2
              have al := S.alive (cellL_at ez) (fun z => by cases z) b1
              have N1 := nx_freeze S (o := .lst vs2) al b1
              have g := N1.toGr
              have r5 : Rep X.K (ω.fix p2 (.lst vs2)) (.lst zs) (.ref p2) := by
                simp only [Rep]
                exact ⟨p2, vs2, rfl, upd_same, b3.mono g⟩
              have at0 : (h.set m .dead)[n]? = some (.lst ys) := by
                rw [List.getElem?_set_ne d.1]
                exact cellL_at ey
              obtain ⟨S', N'⟩ := put_lst S1 at0 (show (ω.fix p2 (.lst vs2)).rho[n]? = some p from e1) (by rw [pus_append, e4, Bool.true_and]; simpa [pus, T.pu] using b4) ((e3.mono g).append (Reps.one r5))
              exact mt_append pins s σ H _ _ v us Q I rx rxs ⟨p, vs, .ref p2, rfl, rfl, e2, by rw [← e3.length]; exact line_lt d.2, q _ _ _ (N1.trans N') S' rep_non⟩
            · rw [if_neg d] at e
              cases e
          · cases e
        · cases e
    · cases e
  · cases e
def sItem (mv mo mi : M T) : MS := fun env h => bindE (mv env h) env fun v h1 => bindE (mo env h1) env fun a h2 => bindE (mi env h2) env fun i h3 => match a, i with
  | .loc n, .int k => match cellL h3 n with
    | some xs => match ixN xs.length k with
      | some j => if v.pu = true then .nx env (h3.set n (.lst (xs.set j v))) else .bad
      | none => .bad
    | none => .bad
  | _, _ => .bad
theorem ks_item {ob ix ev : Expr} {p pos : Pos} {mv mo mi : M T} (hv : PE X ev (tE X.K cl W mv)) (ho : PE X ob (tE X.K cl W mo)) (hi : PE X ix (tE X.K cl W mi))
    (ha : ∀ v, assign (.Subscript ob ix p) X.env v = (do
      let ov ← holding [v] (eval ob X.env)
      let iv ← holding [v, ov] (eval ix X.env)
      standAt p
      holding [v, ov, iv] (setItem ov iv v)
      release [v, ov, iv] []) := by intro _; rfl)
    (hs : swapsWithSole [.Subscript ob ix p] ev pos.line X.env = pure false := by rfl) (hw : swappedStores [.Subscript ob ix p] ev X.env = pure none := by rfl)
    (h1 : (assignEach [.Subscript ob ix p] X.env).map (·.2) = [assign (.Subscript ob ix p) X.env] := by rfl) : PS X (.Assign [.Subscript ob ix p] ev pos) (tS X.K cl W (sItem mv mo mi)) := by
  refine (ps_asg hv (pg_sub ho hi set_list ha) hs hw h1).weak fun D σ H ⟨env, h, ω, he, hs, q⟩ => ⟨env, h, ω, he, hs, (PostS.bindE he q).mono fun t h1 ω1 H1 N1 S1 q1 v r => ?_⟩
  refine ⟨env, h1, ω1, he.mono N1.toGr, S1, (PostS.bindE (he.mono N1.toGr) q1).mono fun a h2 ω2 H2 N2 S2 q2 o ro => ?_⟩
  refine ⟨env, h2, ω2, (he.mono N1.toGr).mono N2.toGr, S2, (PostS.bindE ((he.mono N1.toGr).mono N2.toGr) q2).mono fun i h3 ω3 H3 N3 S3 q3 z rz => ?_⟩
  split at q3
  · rename_i n k
    split at q3
    · rename_i xs ex
      split at q3
      · rename_i j ej
        split at q3
        · rename_i hp
          obtain ⟨p, vs, rfl, e1, e2, e3, e4⟩ := cellL_ok S3 (ro.mono N3.toGr) ex
          obtain ⟨S', N'⟩ := put_lst S3 (cellL_at ex) e1 (pus_set (i := j) e4 hp) (e3.set ((r.mono N2.toGr).mono N3.toGr) j)
          rw [e3.length] at ej
          exact ⟨p, vs, k, j, rfl, rz.int_inv, e2, ej, q3 _ _ σ N' S' (((he.mono N1.toGr).mono N2.toGr).mono N3.toGr)⟩
        · exact q3.elim
      · exact q3.elim
    · exact q3.elim
  · exact q3.elim
end
end Sm
namespace Sm
open PySem PySem.Spec PyProof.Rows L2
mutual
def frz (n : Nat) (h : Store) : T → Option T
  | .loc m => if m < n then some (.loc m) else match h[m]? with
    | some (.lst xs) => some (.lst xs)
    | _ => none
  | .tup xs => (frzs n h xs).map .tup
  | .lst xs => (frzs n h xs).map .lst
  | .non => some .non
  | .bl b => some (.bl b)
  | .int i => some (.int i)
  | .str s => some (.str s)
  | .scr s => some (.scr s)
  | .emp => some .emp
  | .adr _ _ _ _ => none
  | .fnc _ => none
  | .unk => some .unk
  | .dct ks ts => (frzs n h ts).map (.dct ks)
def frzs (n : Nat) (h : Store) : List T → Option (List T)
  | [] => some []
  | x :: r => match frz n h x, frzs n h r with
    | some y, some ys => some (y :: ys)
    | _, _ => none
end
mutual
theorem frz_pu {n : Nat} {h : Store} : ∀ {t : T}, t.pu = true → frz n h t = some t
  | .non, _ => by simp only [frz]
  | .bl _, _ => by simp only [frz]
  | .int _, _ => by simp only [frz]
  | .str _, _ => by simp only [frz]
  | .scr _, _ => by simp only [frz]
  | .emp, _ => by simp only [frz]
  | .adr _ _ _ _, hp => by simp [T.pu] at hp
  | .fnc _, hp => by simp [T.pu] at hp
  | .unk, _ => by simp only [frz]
  | .tup xs, hp => by
    simp only [T.pu] at hp
    simp only [frz, frzs_pu hp, Option.map_some]
  | .lst xs, hp => by
    simp only [T.pu] at hp
    simp only [frz, frzs_pu hp, Option.map_some]
  | .dct ks xs, hp => by
    simp only [T.pu] at hp
    simp only [frz, frzs_pu hp, Option.map_some]
  | .loc m, hp => by simp [T.pu] at hp
theorem frzs_pu {n : Nat} {h : Store} : ∀ {ts : List T}, pus ts = true → frzs n h ts = some ts
  | [], _ => by simp only [frzs]
  | x :: r, hp => by
    simp only [pus, Bool.and_eq_true] at hp
    simp only [frzs, frz_pu hp.1, frzs_pu hp.2]
end
theorem frzs_len {n : Nat} {h : Store} : ∀ {ts us : List T}, frzs n h ts = some us → us.length = ts.length
  | [], us, e => by
    simp only [frzs, Option.some.injEq] at e
    rw [← e]
  | x :: r, us, e => by
    simp only [frzs] at e
    split at e
    · rename_i y ys e1 e2
      cases e
      rw [List.length_cons, List.length_cons, frzs_len e2]
    · cases e
def sameIns (h h' : Store) : Prop := ∀ (i c : Nat) (fs : List (Str × T)), i < h.length → h'[i]? = some (.ins c fs) → h[i]? = some (.ins c fs)
def Ex.pu : Ex → Bool
  | .txt _ => true
  | .fld _ _ t => t.pu
open Classical in
noncomputable instance sameDec (h h' : Store) : Decidable (sameIns h h') := propDecidable _
noncomputable def retF (h : Store) (t : T) (h' : Store) : Out T := if sameIns h h' then (if t.pu = true then .ok t (h'.take h.length) else match frz h.length h' t with
  | some t' => .ok t' (h'.take h.length)
  | none => .bad) else .bad
noncomputable def finF (keep : Bool) (h : Store) : SO → Out T
  | .rt t h' => if keep = true then .ok t h' else retF h t h'
  | .nx _ h' => if keep = true then .ok .non h' else retF h .non h'
  | .ex e _ h' => if keep = true then .ex e h' else if sameIns h h' ∧ e.pu = true then .ex e (h'.take h.length) else .bad
  | _ => .bad
def startE (n : Nat) (ts : List T) : Env' := ts.map some ++ List.replicate (n - ts.length) none
abbrev Fn := List T → Store → Out T
noncomputable def fn (nargs nslots : Nat) (keep : Bool) (body : MS) : Fn := fun ts h => if ts.length = nargs then finF keep h (body (startE nslots ts) h) else .bad
def spF (K : PySem.W.Frag) (cl : Nat → Addr) (F : Fn) (n : Nat) : Sp := fun vs H Q E => vs.length = n ∧ ∃ ts h ω, StOk K cl ω h H ∧ Reps K ω ts vs ∧ PostG K cl (fun cls d _ H' => E cls d H') ω H [] (F ts h) fun t _ ω' H' => ∀ v, Rep K ω' t v → Q v H'
section
variable {K : PySem.W.Frag} {cl : Nat → Addr} {ω ω' : Wd} {h h' : Store} {H H' : Hp}
mutual
theorem Rep.closed {ω'' : Wd} (pre : ω.rho <+: ω'.rho) (e : ω''.rho = ω.rho) (m : ∀ a o, ω'.Phi a = some o → ω''.Phi a = some o) : ∀ {t : T} {v0 v : V}, Rep K ω t v0 → Rep K ω' t v → Rep K ω'' t v
  | .non, _, _, _, r => by simpa only [Rep] using r
  | .bl _, _, _, _, r => by simpa only [Rep] using r
  | .int _, _, _, _, r => by simpa only [Rep] using r
  | .str _, _, _, _, r => by simpa only [Rep] using r
  | .tup xs, _, _, r0, r => by
    simp only [Rep] at r0 r ⊢
    obtain ⟨p, vs, e1, a, b⟩ := r
    obtain ⟨p0, vs0, _, _, b0⟩ := r0
    exact ⟨p, vs, e1, sqT_mono m a, Reps.closed pre e m b0 b⟩
  | .lst xs, _, _, r0, r => by
    simp only [Rep] at r0 r ⊢
    obtain ⟨p, vs, e1, a, b⟩ := r
    obtain ⟨p0, vs0, _, _, b0⟩ := r0
    exact ⟨p, vs, e1, m _ _ a, Reps.closed pre e m b0 b⟩
  | .loc n, _, _, r0, r => by
    simp only [Rep] at r0 r ⊢
    obtain ⟨p, e1, a⟩ := r
    obtain ⟨p0, _, a0⟩ := r0
    obtain ⟨l, q⟩ := pre
    have a' := a0
    rw [← q, List.getElem?_append_left (List.getElem?_eq_some_iff.mp a0).1, a0] at a
    cases a
    exact ⟨p, e1, by rw [e]; exact a0⟩
  | .scr ns, _, _, r0, r => by
    simp only [Rep] at r ⊢
    obtain ⟨p, e1, a⟩ := r
    exact ⟨p, e1, sqL_mono m a⟩
  | .fnc _, _, _, _, r => by simpa only [Rep] using r
  | .unk, _, _, _, r => by simpa only [Rep] using r
  | .adr a d f ts, _, _, r0, r => by
    simp only [Rep] at r0 r ⊢
    obtain ⟨_, ws0, _, b0⟩ := r0
    obtain ⟨e1, ws, c, b⟩ := r
    exact ⟨e1, ws, fun n => m _ _ (c n), Reps.closed pre e m b0 b⟩
  | .emp, _, _, r0, r => by
    simp only [Rep] at r ⊢
    obtain ⟨p, e1, a⟩ := r
    exact ⟨p, e1, m _ _ a⟩
  | .dct ks xs, _, _, r0, r => by
    simp only [Rep] at r0 r ⊢
    obtain ⟨p, vs, e1, a, b⟩ := r
    obtain ⟨p0, vs0, _, _, b0⟩ := r0
    exact ⟨p, vs, e1, fixR_mono m a, Reps.closed pre e m b0 b⟩
theorem Reps.closed {ω'' : Wd} (pre : ω.rho <+: ω'.rho) (e : ω''.rho = ω.rho) (m : ∀ a o, ω'.Phi a = some o → ω''.Phi a = some o) : ∀ {ts : List T} {vs0 vs : List V}, Reps K ω ts vs0 → Reps K ω' ts vs → Reps K ω'' ts vs
  | [], _, _, _, r => by simpa only [Reps] using r
  | x :: xs, _, _, r0, r => by
    obtain ⟨v0, vr0, rfl, a0, b0⟩ := r0.inv
    obtain ⟨v, vr, rfl, a, b⟩ := r.inv
    exact Reps.cons (Rep.closed pre e m a0 a) (Reps.closed pre e m b0 b)
end
theorem RepKV.closed {κ : Type} {ω'' : Wd} (pre : ω.rho <+: ω'.rho) (e : ω''.rho = ω.rho) (m : ∀ a o, ω'.Phi a = some o → ω''.Phi a = some o) : ∀ {a : List (κ × T)} {b0 b : List (κ × V)}, RepKV K ω a b0 → RepKV K ω' a b → RepKV K ω'' a b
  | [], _, _, _, r => r
  | (k, t) :: l, _, _, ⟨_, _, _, a0, b0⟩, ⟨v, lr, e1, a1, b1⟩ => ⟨v, lr, e1, a0.closed pre e m a1, RepKV.closed pre e m b0 b1⟩
theorem RepKT.closed {ω'' : Wd} (pre : ω.rho <+: ω'.rho) (e : ω''.rho = ω.rho) (m : ∀ a o, ω'.Phi a = some o → ω''.Phi a = some o) : ∀ {a : List (List Int × T)} {b0 b : List DRow}, RepKT K ω a b0 → RepKT K ω' a b → RepKT K ω'' a b
  | [], _, _, _, r => r
  | (k, t) :: l, _, _, ⟨_, _, _, _, _, a0, b0⟩, ⟨b, v, lr, e1, s1, a1, b1⟩ => ⟨b, v, lr, e1, sqT_mono m s1, a0.closed pre e m a1, RepKT.closed pre e m b0 b1⟩
noncomputable def cutW (ω' : Wd) (n : Nat) (H' : Hp) : Wd := ⟨ω'.rho.take n, fun a => if a ∈ ω'.rho.drop n then H' a else ω'.Phi a⟩
theorem cut_phi (S' : StOk K cl ω' h' H') (n : Nat) : ∀ a o, ω'.Phi a = some o → (cutW ω' n H').Phi a = some o := fun a o e => by
  show (if a ∈ ω'.rho.drop n then H' a else ω'.Phi a) = some o
  split
  · exact S'.phi a o e
  · exact e
theorem cut_ok (S : StOk K cl ω h H) (N : Nx ω H ω' H') (S' : StOk K cl ω' h' H') (si : sameIns h h') : Nx ω H (cutW ω' h.length H') H' ∧ StOk K cl (cutW ω' h.length H') (h'.take h.length) H' := by
  have hrho : ω'.rho.take h.length = ω.rho := by
    obtain ⟨l, q⟩ := N.pre
    rw [← q, ← S.len, List.take_left]
  have hle : h.length ≤ h'.length := by
    rw [← S.len, ← S'.len]
    exact N.pre.length_le
  have hph := cut_phi S' h.length
  refine ⟨⟨⟨?_, fun a o e => hph a o (N.phi a o e)⟩, fun p hp => N.newR p (List.mem_of_mem_take hp), fun a o e => ?_, N.fr, N.dom⟩, ⟨?_, ?_, ?_, ?_, ?_⟩⟩
  · show ω.rho <+: ω'.rho.take h.length
    rw [hrho]
    exact List.prefix_refl _
  · have e' : (if a ∈ ω'.rho.drop h.length then H' a else ω'.Phi a) = some o := e
    split at e'
    · rename_i hm
      refine .inr (.inl ?_)
      rcases N.newR a (List.mem_of_mem_drop hm) with z | z
      · exfalso
        have z' : a ∈ ω'.rho.take h.length := by rw [hrho]; exact z
        have nd := S'.nd
        rw [← List.take_append_drop h.length ω'.rho, List.nodup_append] at nd
        exact nd.2.2 a z' a hm rfl
      · exact z
    · exact N.newF a o e'
  · show (ω'.rho.take h.length).length = (h'.take h.length).length
    rw [List.length_take, List.length_take, S'.len]
  · exact S'.nd.sublist (List.take_sublist _ _)
  · intro i c p a b
    have hi : i < h.length := by
      have := (List.getElem?_eq_some_iff.mp a).1
      rw [List.length_take] at this
      omega
    rw [List.getElem?_take_of_lt hi] at a
    have b' : (ω'.rho.take h.length)[i]? = some p := b
    rw [List.getElem?_take_of_lt hi] at b'
    have k := S'.cells i c p a b'
    cases c with
    | lst xs => obtain ⟨k1, vs, k2, k3⟩ := k; exact ⟨k1, vs, k2, k3.pure hph k1⟩
    | dK xs => obtain ⟨k1, vs, k2, k3⟩ := k; exact ⟨k1, vs, k2, k3.pure hph k1⟩
    | dT xs => obtain ⟨k1, vs, k2, k3⟩ := k; exact ⟨k1, vs, k2, k3.pure hph k1.1⟩
    | dead => exact k
    | tab P F =>
      obtain ⟨k1, ps, k2, k3, k4⟩ := k
      exact ⟨k1, ps, k2, k3, fun pos cv hc => let ⟨c, e1, e2⟩ := k4 pos cv hc; ⟨c, e1, hph _ _ e2⟩⟩
    | ins c fs =>
      obtain ⟨p0, e0, k0⟩ := S.at_ (si i c fs hi a)
      rcases k with ⟨cc, dx, l, k2, k3⟩ | ⟨cc, kvs, l, ek, el, k2, k3⟩
      · rcases k0 with ⟨_, dx0, l0, k20, k30⟩ | ⟨c2, _⟩
        · exact .inl ⟨cc, dx, l, k2, RepKV.closed N.pre hrho hph k30 k3⟩
        · omega
      · rcases k0 with ⟨c2, _⟩ | ⟨_, kvs0, l0, ek0, _, _, k30⟩
        · omega
        · have : kvs0 = kvs := encK_inj (ek0.symm.trans ek)
          subst this
          exact .inr ⟨cc, kvs0, l, ek, el, k2, RepKT.closed N.pre hrho hph k30 k3⟩
  · intro a o e
    have e' : (if a ∈ ω'.rho.drop h.length then H' a else ω'.Phi a) = some o := e
    split at e'
    · exact e'
    · exact S'.phi a o e'
  · intro i p hp
    have hp' : (ω'.rho.take h.length)[i]? = some p := hp
    have hi : i < h.length := by
      have := (List.getElem?_eq_some_iff.mp hp').1
      rw [List.length_take] at this
      omega
    have hp2 := hp'
    rw [List.getElem?_take_of_lt hi] at hp2
    rw [List.getElem?_take_of_lt hi]
    refine (S'.dis i p hp2).imp id fun z => ?_
    show (if p ∈ ω'.rho.drop h.length then H' p else ω'.Phi p) = none
    rw [if_neg (fun m => by
      have nd := S'.nd
      rw [← List.take_append_drop h.length ω'.rho, List.nodup_append] at nd
      exact nd.2.2 p (List.mem_of_getElem? hp') p m rfl)]
    exact z
mutual
theorem frz_ok (S' : StOk K cl ω' h' H') (n : Nat) : ∀ {t t' : T} {v : V}, frz n h' t = some t' → Rep K ω' t v → Rep K (cutW ω' n H') t' v
  | .non, t', v, e, r => by simp only [frz, Option.some.injEq] at e; subst e; simpa only [Rep] using r
  | .bl _, t', v, e, r => by simp only [frz, Option.some.injEq] at e; subst e; simpa only [Rep] using r
  | .int _, t', v, e, r => by simp only [frz, Option.some.injEq] at e; subst e; simpa only [Rep] using r
  | .str _, t', v, e, r => by simp only [frz, Option.some.injEq] at e; subst e; simpa only [Rep] using r
  | .scr _, t', v, e, r => by
    simp only [frz, Option.some.injEq] at e
    subst e
    simp only [Rep] at r ⊢
    obtain ⟨p, e1, a⟩ := r
    exact ⟨p, e1, sqL_mono (cut_phi S' n) a⟩
  | .adr _ _ _ _, t', v, e, r => by simp [frz] at e
  | .fnc _, t', v, e, r => by simp [frz] at e
  | .unk, t', v, e, r => by simp only [frz, Option.some.injEq] at e; subst e; simpa only [Rep] using r
  | .emp, t', v, e, r => by
    simp only [frz, Option.some.injEq] at e
    subst e
    simp only [Rep] at r ⊢
    obtain ⟨p, e1, a⟩ := r
    exact ⟨p, e1, cut_phi S' n _ _ a⟩
  | .tup xs, t', v, e, r => by
    simp only [frz, Option.map_eq_some_iff] at e
    obtain ⟨ys, e1, rfl⟩ := e
    simp only [Rep] at r ⊢
    obtain ⟨p, vs, e2, a, b⟩ := r
    exact ⟨p, vs, e2, sqT_mono (cut_phi S' n) a, frzs_ok S' n e1 b⟩
  | .lst xs, t', v, e, r => by
    simp only [frz, Option.map_eq_some_iff] at e
    obtain ⟨ys, e1, rfl⟩ := e
    simp only [Rep] at r ⊢
    obtain ⟨p, vs, e2, a, b⟩ := r
    exact ⟨p, vs, e2, cut_phi S' n _ _ a, frzs_ok S' n e1 b⟩
  | .dct ks xs, t', v, e, r => by
    simp only [frz, Option.map_eq_some_iff] at e
    obtain ⟨ys, e1, rfl⟩ := e
    simp only [Rep] at r ⊢
    obtain ⟨p, vs, e2, a, b⟩ := r
    exact ⟨p, vs, e2, by rw [frzs_len e1]; exact fixR_mono (cut_phi S' n) a, frzs_ok S' n e1 b⟩
  | .loc m, t', v, e, r => by
    simp only [frz] at e
    split at e
    · rename_i hm
      cases e
      simp only [Rep] at r ⊢
      obtain ⟨p, e2, a⟩ := r
      refine ⟨p, e2, ?_⟩
      show (ω'.rho.take n)[m]? = some p
      rw [List.getElem?_take_of_lt hm]
      exact a
    · rename_i hm
      split at e
      · rename_i xs hn
        cases e
        obtain ⟨p, vs, rfl, q, b, c, d⟩ := lst_at S' r hn
        simp only [Rep]
        refine ⟨p, vs, rfl, ?_, c.pure (cut_phi S' n) d⟩
        show (if p ∈ ω'.rho.drop n then H' p else ω'.Phi p) = _
        rw [if_pos]
        · exact b
        · have hmn : n ≤ m := by omega
          refine List.mem_of_getElem? (i := m - n) ?_
          rw [List.getElem?_drop, Nat.add_sub_cancel' hmn]
          exact q
      · cases e
theorem frzs_ok (S' : StOk K cl ω' h' H') (n : Nat) : ∀ {ts ts' : List T} {vs : List V}, frzs n h' ts = some ts' → Reps K ω' ts vs → Reps K (cutW ω' n H') ts' vs
  | [], ts', vs, e, r => by simp only [frzs, Option.some.injEq] at e; subst e; simpa only [Reps] using r
  | x :: xs, ts', vs, e, r => by
    simp only [frzs] at e
    split at e
    · rename_i y ys e1 e2
      cases e
      obtain ⟨v, vr, rfl, a, b⟩ := r.inv
      exact Reps.cons (frz_ok S' n e1 a) (frzs_ok S' n e2 b)
    · cases e
end
theorem retF_ok {W : WX} {σ : L2.St} {t : T} {Q : VK} (S : StOk K cl ω h H) (q : PostG K cl W ω H σ (retF h t h') fun t _ ω' H' => ∀ v, Rep K ω' t v → Q v H') (N : Nx ω H ω' H') (S' : StOk K cl ω' h' H') {v : V} (r : Rep K ω' t v) : Q v H' := by
  unfold retF at q
  split at q
  · rename_i si
    obtain ⟨N2, S2⟩ := cut_ok S N S' si
    split at q
    · rename_i hp
      exact q _ H' N2 S2 v (frz_ok S' _ (frz_pu hp) r)
    · split at q
      · rename_i t' et
        exact q _ H' N2 S2 v (frz_ok S' _ et r)
      · exact q.elim
  · exact q.elim
theorem XOk.cut {e : Ex} {cls : Value} {d : Option Addr} (x : XOk K cl ω' H' e cls d) (hp : e.pu = true) {ω'' : Wd} (m : ∀ a o, ω'.Phi a = some o → ω''.Phi a = some o) : XOk K cl ω'' H' e cls d := by
  cases e with
  | txt c => exact x
  | fld c f t =>
    obtain ⟨a, b, dx, v, e1, e2, e3⟩ := x
    exact ⟨a, b, dx, v, e1, e2, e3.pure m b⟩
theorem fin_ok {E : XK} {keep : Bool} {o : SO} {Q : VK} (S : StOk K cl ω h H) (q : PostG K cl (fun cls d _ H' => E cls d H') ω H [] (finF keep h o) fun t _ ω' H' => ∀ v, Rep K ω' t v → Q v H') :
    PostS K cl (fun cls d _ H' => E cls d H') ω H o { nx := fun _ H' => Q .non H', rt := Q } := by
  cases o with
  | bad => exact q
  | bk env h' => exact q.elim
  | ct env h' => exact q.elim
  | rt t h' =>
    intro ω' H' v N S' r
    cases keep with
    | true => exact q ω' H' N S' v r
    | false => exact retF_ok S q N S' r
  | nx env h' =>
    intro ω' H' σ' N S' e
    cases keep with
    | true => exact q ω' H' N S' _ rep_non
    | false => exact retF_ok S (t := .non) q N S' rep_non
  | ex e env h' =>
    intro ω' H' σ' cls d N S' _ x
    cases keep with
    | true => exact q ω' H' cls d N S' x
    | false =>
      have q : PostG K cl (fun cls d _ H' => E cls d H') ω H [] (if sameIns h h' ∧ e.pu = true then Out.ex e (h'.take h.length) else .bad) _ := q
      split at q
      · rename_i c
        obtain ⟨N2, S2⟩ := cut_ok S N S' c.1
        exact q _ H' cls d N2 S2 (x.cut c.2 (cut_phi S' _))
      · exact q.elim
theorem startE_ok {n : Nat} {N : List Str} (hn : N.length = n) {ts : List T} {vs : List V} (r : Reps K ω ts vs) : EnvOk K ω (startE n ts) (L2.start N vs) := by
  unfold startE L2.start
  rw [hn, ← r.length]
  refine ⟨by simp [r.length], fun i t e => ?_⟩
  by_cases hi : i < ts.length
  · rw [List.getElem?_append_left (by simpa using hi), List.getElem?_map] at e
    rw [List.getElem?_append_left (by rw [List.length_map, ← r.length]; exact hi), List.getElem?_map]
    cases et : ts[i]? with
    | none => rw [et] at e; cases e
    | some u =>
      rw [et] at e
      cases e
      obtain ⟨v, e1, r1⟩ := r.get et
      exact ⟨v, by rw [e1]; rfl, r1⟩
  · rw [List.getElem?_append_right (by simpa using Nat.le_of_not_lt hi)] at e
    have := List.mem_of_getElem? e
    rw [List.mem_replicate] at this
    cases this.2
end
structure Ok (X : Cx) (W : WX) (k : Nat) : Prop where
  calm : X.calm = true
  nd : X.N.Nodup
  tk : L2N.Takes X W
  hp : PassesOwn (model X.prog X.w) X.A X.env X.xe
  room : Room k X.A
theorem tk0N {X : Cx} : L2N.Takes X (fun _ _ _ _ => False) := fun _ _ ⟨_, _, _, _, _, _, _, _, _, _, _, _, _, _, _, _, z⟩ => z.elim
theorem Ok.hu {X : Cx} {W : WX} {k : Nat} (c : Ok X W k) : X.A.units + 64 < cLine := c.room.units
theorem Ok.hu0 {X : Cx} {W : WX} {k : Nat} (c : Ok X W k) : X.A.units < cLine := c.room.units0
theorem Ok.blk {X : Cx} {W : WX} {k : Nat} (c : Ok X W k) (s : Shared) (H : Hp) (scope : Scope) (cenv : Env) (fp : List Addr) : Ok (X.blk s H scope cenv fp) W0 k :=
  ⟨c.calm, c.nd, tk0N, PassesOwn.never, c.room⟩
section
variable {P : Program} {w : World} {K : PySem.W.Frag} {mg : Str → Option Value} {base : Heap} {cl : Nat → Addr}
end
def mCall (F : Fn) (r : M (List T)) : M T := fun env h => (r env h).bind fun as h1 => F as h1
section
variable {X : Cx} {W : WX} {cl : Nat → Addr} {k j n : Nat} {f : Addr} {fd : FuncData} {ps : List Str} {F : Fn} {x : Str} {p pos : Pos} {e : Expr} {es : List Expr} {r : M (List T)}
theorem PostG.reW {K : PySem.W.Frag} {α : Type} {ω : Wd} {H : Hp} {σ : L2.St} {o : Out α} {R : α → Store → Wd → Hp → Prop} (q : PostG K cl W ω H σ o R) : PostG K cl (fun cls d _ H' => W cls d σ H') ω H [] o R := by
  cases o with
  | ok a h => exact q
  | ex e h => exact q
  | bad => exact q
theorem call_step {K : PySem.W.Frag} (hn : ∀ ts h, ts.length ≠ n → F ts h = .bad) {σ : L2.St} {H : Hp} {Q : VK} (h : tE K cl W (mCall F r) σ H Q) : tA K cl W r σ H fun vs H1 => spF K cl F n vs H1 Q (WE W σ) := by
  obtain ⟨env, h, ω, he, hs, q⟩ := h
  refine ⟨env, h, ω, he, hs, (PostG.bind q).mono fun ts h1 ω1 H1 N1 S1 q1 vs rs => ?_⟩
  refine ⟨Classical.byContradiction fun z => ?_, ts, h1, ω1, S1, rs, q1.reW⟩
  rw [hn ts h1 (by rw [rs.length]; exact z)] at q1
  exact q1
theorem fn_len {nargs nslots : Nat} {keep : Bool} {body : MS} : ∀ ts h, ts.length ≠ nargs → fn nargs nslots keep body ts h = .bad := fun ts h z => by
  unfold fn
  rw [if_neg z]
theorem k_call (c : Ok X W k) (G : FnOk X.prog X.w X.K X.mg X.base (L2N.CX X.prog X.w) j f fd ps (spF X.K cl F n)) (hj : j ≤ k) (hn : ∀ ts h, ts.length ≠ n → F ts h = .bad) (hg : Gl X x) (hm : X.mg x = some (.ref f)) (hk : PySem.W.keepIn X.K (.ref f) = true) (hb : Binds X.K fd ps [])
    (ha : PA X (e :: es) (tA X.K cl W r)) (hdb : (x == ("__debug__" : Str)) = false := by decide) (he : starEach (e :: es) X.env = (false, eval e X.env) :: starEach es X.env := by rfl) (hpl : (backTo pos (starEach es X.env)).any (·.1) = false := by rfl) :
    PE X (.Call (.Name x p) (e :: es) [] pos) (tE X.K cl W (mCall F r)) :=
  (pe_callS G (c.room.mono hj) hg hm hk hb (fun σ => L2N.passAt c.tk σ) ha hdb he hpl).weak fun _ _ _ h => call_step hn h
end
end Sm
namespace Sm
open PySem PySem.Spec PyProof.Rows L2
structure Cal (P : Program) (w : World) (K : PySem.W.Frag) (mg : Str → Option Value) (base : Heap) (cl : Nat → Addr) (x : Str) (j : Nat) (ps : List Str) (F : Fn) (n : Nat) : Prop where
  ex : ∃ f fd, FnOk P w K mg base (L2N.CX P w) j f fd ps (spF K cl F n) ∧ mg x = some (.ref f) ∧ PySem.W.keepIn K (.ref f) = true ∧ Binds K fd ps []
  len : ∀ ts h, ts.length ≠ n → F ts h = .bad
section
variable {X : Cx} {W : WX} {cl : Nat → Addr} {k j n : Nat} {ps : List Str} {F : Fn} {x : Str} {p pos : Pos} {e : Expr} {es : List Expr} {r : M (List T)}
theorem q_call (c : Ok X W k) (G : Cal X.prog X.w X.K X.mg X.base cl x j ps F n) (hj : j ≤ k) (hg : Gl X x)
    (ha : PA X (e :: es) (tA X.K cl W r)) (hdb : (x == ("__debug__" : Str)) = false := by decide) (he : starEach (e :: es) X.env = (false, eval e X.env) :: starEach es X.env := by rfl) (hpl : (backTo pos (starEach es X.env)).any (·.1) = false := by rfl) :
    PE X (.Call (.Name x p) (e :: es) [] pos) (tE X.K cl W (mCall F r)) := by
  obtain ⟨f, fd, G1, m, kp, b⟩ := G.ex
  exact k_call c G1 hj G.len hg m kp b ha hdb he hpl
end
section
variable {P : Program} {w : World} {K : PySem.W.Frag} {mg : Str → Option Value} {base : Heap} {cl : Nat → Addr}
theorem q_fnF {x qual : Str} {params : Arguments} {body : List Stmt} {scope : Scope} {f : Addr} {fd : FuncData} {N ps : List Str} {k nargs nslots : Nat} {keep : Bool} {sem : MS} (F : FunD K x qual params body scope [] [] f fd) (S : FnScope N ps scope) (hn : N.length = nslots) (hps : ps.length = nargs)
    (hB : ∀ (cdv : Value) (A : Around) (outer : List Env) (s : Shared) (H : Hp) (E : XK), Ok (cxOf (L2N.CX P w) P w K mg base N qual scope f cdv A outer s H E) (fun cls d _ H => E cls d H) k →
      PSs (cxOf (L2N.CX P w) P w K mg base N qual scope f cdv A outer s H E) body (tS K cl (fun cls d _ H => E cls d H) sem)) :
    FnOk P w K mg base (L2N.CX P w) (k + 1) f fd ps (spF K cl (fn nargs nslots keep sem) nargs) := by
  refine F.ok S (fun vs H Q E h => h.1.trans hps.symm) (fun cdv A outer s H vs Q E hr h => ?_)
  obtain ⟨hl, ts, h, ω, hS, hR, hP⟩ := h
  refine ⟨_, hB cdv A outer s H E ⟨rfl, S.nd, L2N.takes_of rfl rfl rfl rfl, passes_of rfl, hr⟩, startE nslots ts, h, ω, startE_ok hn hR, hS, ?_⟩
  unfold fn at hP
  split at hP
  · exact fin_ok hS hP
  · exact hP.elim
theorem q_fn {x qual : Str} {params : Arguments} {body : List Stmt} {scope : Scope} {f : Addr} {fd : FuncData} {N ps : List Str} {k nargs nslots : Nat} {keep : Bool} {sem : MS} (F : FunD K x qual params body scope [] [] f fd) (S : FnScope N ps scope) (hn : N.length = nslots) (hps : ps.length = nargs)
    (hm : mg x = some (.ref f)) (hb : Binds K fd ps [])
    (hB : ∀ (cdv : Value) (A : Around) (outer : List Env) (s : Shared) (H : Hp) (E : XK), Ok (cxOf (L2N.CX P w) P w K mg base N qual scope f cdv A outer s H E) (fun cls d _ H => E cls d H) k →
      PSs (cxOf (L2N.CX P w) P w K mg base N qual scope f cdv A outer s H E) body (tS K cl (fun cls d _ H => E cls d H) sem)) :
    Cal P w K mg base cl x (k + 1) ps (fn nargs nslots keep sem) nargs :=
  ⟨⟨f, fd, q_fnF F S hn hps hB, hm, F.kp, hb⟩, fn_len⟩
end
end Sm
namespace Sm
open PySem PySem.Spec PyProof.Rows L2
section
variable {X : Cx} {W : WX} {cl : Nat → Addr} {k : Nat} {m n : M T} {r : M (List T)} {e a b : Expr} {es : List Expr} {p p2 pos : Pos} {f : F2}
theorem q_var (i : Nat) {x : Str} (hN : X.N[i]? = some x := by rfl) (hv : Vis X.env.scope x := by first | exact Or.inl rfl | exact Or.inr (Or.inl rfl) | exact Or.inr (Or.inr rfl)) (hd : (x == ("__debug__" : Str)) = false := by decide)
    (hcd : (x == ("__classdict__" : Str)) = false := by decide) : PE X (.Name x pos) (tE X.K cl W (mVar i)) := k_var (pe_var hN hv hd hcd)
theorem q_set (nd : X.N.Nodup) (i : Nat) {x : Str} {pos' : Pos} (he : PE X e (tE X.K cl W m)) (hi : X.N[i]? = some x := by rfl) (hx : Loc X.env.scope x := by first | exact .inl rfl | exact .inr rfl) (hs : swapsWith e (some (.Name x pos')) pos.line X.env = pure false := by rfl)
    (hf : X.fn x = true ∨ X.env.scope.names.lookup x = some .local := by first | exact .inl rfl | exact .inr rfl) : PS X (.Assign [.Name x pos'] e pos) (tS X.K cl W (sSet i m)) := ks_set nd hi hx he hs hf
theorem q_one (nd : X.N.Nodup) (i : Nat) {x : Str} (hi : X.N[i]? = some x := by rfl) (hx : Loc X.env.scope x := by first | exact .inl rfl | exact .inr rfl) (hf : X.fn x = true ∨ X.env.scope.names.lookup x = some .local := by first | exact .inl rfl | exact .inr rfl) : PG X (.Name x pos) (gT X.K (.one i)) := kg_one nd hi hx hf
theorem q_gcons (nd : X.N.Nodup) (i : Nat) {x : Str} {p : Pos} {es : List Expr} {is : List Nat} (h2 : PGs X es (gMany is)) (hi : X.N[i]? = some x := by rfl) (hx : Loc X.env.scope x := by first | exact .inl rfl | exact .inr rfl) (hf : X.fn x = true ∨ X.env.scope.names.lookup x = some .local := by first | exact .inl rfl | exact .inr rfl)
    (hs : (assignEach (.Name x p :: es) X.env).map (·.2) = assign (.Name x p) X.env :: (assignEach es X.env).map (·.2) := by rfl) : PGs X (.Name x p :: es) (gMany (i :: is)) := kgs_cons nd hi hx h2 hf hs
theorem q_eq (hu : X.A.units + 64 < cLine) (ha : PE X a (tE X.K cl W m)) (hb : PE X b (tE X.K cl W n)) : PE X (.Compare a [.Eq] [b] pos) (tE X.K cl W (mBin fEq m n)) := k_cmp (o_eq hu) (nomark _) ha hb
theorem q_ge (ha : PE X a (tE X.K cl W m)) (hb : PE X b (tE X.K cl W n)) : PE X (.Compare a [.GtE] [b] pos) (tE X.K cl W (mBin fGe m n)) := k_cmp o_ge (nomark _) ha hb
theorem q_is (ha : PE X a (tE X.K cl W m)) (hb : PE X b (tE X.K cl W n)) : PE X (.Compare a [.Is] [b] pos) (tE X.K cl W (mBin fIs m n)) := k_cmp o_is (nomark _) ha hb
theorem qt_eq (hu : X.A.units + 64 < cLine) (ha : PE X a (tE X.K cl W m)) (hb : PE X b (tE X.K cl W n)) : PT X (.Compare a [.Eq] [b] pos) (tT X.K cl W (mTst (mBin fEq m n))) := kt_cmp (o_eq hu) (nomark _) ha hb
theorem qt_ne (hu : X.A.units + 64 < cLine) (ha : PE X a (tE X.K cl W m)) (hb : PE X b (tE X.K cl W n)) : PT X (.Compare a [.NotEq] [b] pos) (tT X.K cl W (mTst (mBin fNe m n))) := kt_cmp (o_ne hu) (nomark _) ha hb
theorem qt_lt (hu : X.A.units < cLine) (ha : PE X a (tE X.K cl W m)) (hb : PE X b (tE X.K cl W n)) : PT X (.Compare a [.Lt] [b] pos) (tT X.K cl W (mTst (mBin fLt m n))) := kt_cmp (o_lt hu) (nomark _) ha hb
theorem qt_le (ha : PE X a (tE X.K cl W m)) (hb : PE X b (tE X.K cl W n)) : PT X (.Compare a [.LtE] [b] pos) (tT X.K cl W (mTst (mBin fLe m n))) := kt_cmp o_le (nomark _) ha hb
theorem qt_gt (ha : PE X a (tE X.K cl W m)) (hb : PE X b (tE X.K cl W n)) : PT X (.Compare a [.Gt] [b] pos) (tT X.K cl W (mTst (mBin fGt m n))) := kt_cmp o_gt (nomark _) ha hb
theorem qt_ge (ha : PE X a (tE X.K cl W m)) (hb : PE X b (tE X.K cl W n)) : PT X (.Compare a [.GtE] [b] pos) (tT X.K cl W (mTst (mBin fGe m n))) := kt_cmp o_ge (nomark _) ha hb
theorem qt_is (ha : PE X a (tE X.K cl W m)) (hb : PE X b (tE X.K cl W n)) : PT X (.Compare a [.Is] [b] pos) (tT X.K cl W (mTst (mBin fIs m n))) := kt_cmp o_is (nomark _) ha hb
theorem q_idx (ha : PE X a (tE X.K cl W m)) (hb : PE X b (tE X.K cl W n)) (hs : PlainIx b := by exact fun _ _ => rfl) : PE X (.Subscript a b pos) (tE X.K cl W (mBin fIdx m n)) := k_idx hs ha hb
theorem q_len (z : X.mg "len" = none) (ha : PA X (e :: es) (tA X.K cl W r)) (hg : Gl X "len" := by rfl) (he : starEach (e :: es) X.env = (false, eval e X.env) :: starEach es X.env := by rfl) (hpl : (backTo pos (starEach es X.env)).any (·.1) = false := by rfl) : PE X (.Call (.Name "len" p) (e :: es) [] pos) (tE X.K cl W (mCallF fLen r)) := k_callB c_len hg z boot_len ha (by decide) (by decide) he hpl
theorem q_all (c : Ok X W k) (z : X.mg "all" = none) (ha : PA X (e :: es) (tA X.K cl W r)) (hg : Gl X "all" := by rfl) (he : starEach (e :: es) X.env = (false, eval e X.env) :: starEach es X.env := by rfl) (hpl : (backTo pos (starEach es X.env)).any (·.1) = false := by rfl) : PE X (.Call (.Name "all" p) (e :: es) [] pos) (tE X.K cl W (mCallF fAll r)) := k_callB (c_all c.calm) hg z boot_all ha (by decide) (by decide) he hpl
theorem q_int (z : X.mg "int" = none) (ha : PA X (e :: es) (tA X.K cl W r)) (hg : Gl X "int" := by rfl) (he : starEach (e :: es) X.env = (false, eval e X.env) :: starEach es X.env := by rfl) (hpl : (backTo pos (starEach es X.env)).any (·.1) = false := by rfl) : PE X (.Call (.Name "int" p) (e :: es) [] pos) (tE X.K cl W (mCallF fInt r)) := k_callTy c_int hg z boot_int ha (by decide) (by decide) he hpl
theorem q_tuple (z : X.mg "tuple" = none) (ha : PA X (e :: es) (tA X.K cl W r)) (hg : Gl X "tuple" := by rfl) (he : starEach (e :: es) X.env = (false, eval e X.env) :: starEach es X.env := by rfl) (hpl : (backTo pos (starEach es X.env)).any (·.1) = false := by rfl) : PE X (.Call (.Name "tuple" p) (e :: es) [] pos) (tE X.K cl W (mCallF fTuple r)) := k_callTy c_tuple hg z boot_tuple ha (by decide) (by decide) he hpl
theorem qn_list (z : X.mg "list" = none) (ha : PA X (e :: es) (tA X.K cl W r)) (hg : Gl X "list" := by rfl) (he : starEach (e :: es) X.env = (false, eval e X.env) :: starEach es X.env := by rfl) (hpl : (backTo pos (starEach es X.env)).any (·.1) = false := by rfl) : PE X (.Call (.Name "list" p) (e :: es) [] pos) (tN X.K cl W (mNewA fList r)) := kn_callTy n_list hg z boot_list ha (by decide) (by decide) he hpl
theorem q_glob {x : Str} {t : T} {v : V} {u : Value} (hm : X.mg x = some u) (rv : RelV v u) (r : ∀ ω, Rep X.K ω t v) (hg : Gl X x := by rfl) (hd : (x == ("__debug__" : Str)) = false := by decide) : PE X (.Name x pos) (tE X.K cl W (mC t)) := k_const (pe_glob hg hm rv hd) r
end
def Con (K : PySem.W.Frag) (mg : Str → Option Value) (x : Str) (t : T) : Prop := ∃ v u, mg x = some u ∧ RelV v u ∧ ∀ ω, Rep K ω t v
theorem q_con {X : Cx} {W : WX} {cl : Nat → Addr} {x : Str} {t : T} {pos : Pos} (h : Con X.K X.mg x t) (hg : Gl X x := by rfl) (hd : (x == ("__debug__" : Str)) = false := by decide) : PE X (.Name x pos) (tE X.K cl W (mC t)) := by
  obtain ⟨v, u, a, b, c⟩ := h
  exact q_glob a b c hg hd
theorem con_ints {K : PySem.W.Frag} {mg : Str → Option Value} {x : Str} {ns : List Int} (hm : mg x = some (.ref (He.ga K x))) (h : He.tupB K x (ns.map He.Dv.int) = true) : Con K mg x (.tup (ns.map T.int)) := by
  refine ⟨.ref (He.ga K x), _, hm, rfl, fun ω => ?_⟩
  simp only [Rep]
  refine ⟨_, _, rfl, He.tupB_ok h ω.Phi, ?_⟩
  clear h
  induction ns with
  | nil => exact Reps.nil
  | cons n r ih => exact Reps.cons rep_int ih
def fNeg : F1
  | .int i, _ => some (.int (-i))
  | _, _ => none
section
variable {X : Cx} {cl : Nat → Addr} {W : WX} {e : Expr} {m : M T} {mb : M Bool} {pos : Pos}
theorem q_neg (he : PE X e (tE X.K cl W m)) : PE X (.UnaryOp .USub e pos) (tE X.K cl W (mUn fNeg m)) := by
  refine (pe_un un_neg he).weak fun σ H Q ⟨env, h, ω, he, hs, q⟩ => ⟨env, h, ω, he, hs, (PostG.bind q).mono fun t h1 ω1 H1 N1 S1 q1 v r => ?_⟩
  obtain ⟨u, e1, q2⟩ := q1.ofO
  cases t with
  | int i =>
    cases e1
    exact ⟨i, r.int_inv, q2 ω1 H1 (Nx.refl _ _) S1 _ rep_int⟩
  | _ => cases e1
theorem kts_nil : PTs X [] (tT X.K cl W mYes) := ⟨fun pins s σ H Q I ⟨env, h, ω, _, S, q⟩ => pts_nil.run pins s σ H Q I (q ω H (Nx.refl _ _) S)⟩
end
end Sm
namespace Sm
open PySem PySem.Spec PyProof.Rows L2
def Out.wp {α : Type} (o : Out α) (Q : α → Store → Prop) (X : Ex → Store → Prop) : Prop := match o with
  | .ok a h => Q a h
  | .ex e h => X e h
  | .bad => False
structure Pst where
  nx : Env' → Store → Prop
  rt : T → Store → Prop
  bk : Env' → Store → Prop
  ct : Env' → Store → Prop
  ex : Ex → Env' → Store → Prop
def SO.wp (o : SO) (P : Pst) : Prop := match o with
  | .nx e h => P.nx e h
  | .rt t h => P.rt t h
  | .bk e h => P.bk e h
  | .ct e h => P.ct e h
  | .ex x e h => P.ex x e h
  | .bad => False
section
variable {α β : Type} {Q : α → Store → Prop} {X : Ex → Store → Prop} {P : Pst} {env : Env'} {h : Store}
@[simp] theorem wp_ok {a : α} : (Out.ok a h).wp Q X = Q a h := rfl
@[simp] theorem wp_ex {e : Ex} : (Out.ex e h : Out α).wp Q X = X e h := rfl
@[simp] theorem wp_bad : (Out.bad : Out α).wp Q X = False := rfl
theorem wp_bind {o : Out β} {k : β → Store → Out α} : (o.bind k).wp Q X = o.wp (fun a h => (k a h).wp Q X) X := by cases o <;> rfl
@[simp] theorem so_nx : (SO.nx env h).wp P = P.nx env h := rfl
@[simp] theorem so_rt {t : T} : (SO.rt t h).wp P = P.rt t h := rfl
@[simp] theorem so_bk : (SO.bk env h).wp P = P.bk env h := rfl
@[simp] theorem so_ct : (SO.ct env h).wp P = P.ct env h := rfl
@[simp] theorem so_ex {e : Ex} : (SO.ex e env h).wp P = P.ex e env h := rfl
@[simp] theorem so_bad : SO.bad.wp P = False := rfl
theorem so_seq {o : SO} {k : MS} : (o.seq k).wp P = o.wp { P with nx := fun e h => (k e h).wp P } := by cases o <;> rfl
theorem so_bindE {o : Out β} {k : β → Store → SO} : (bindE o env k).wp P = o.wp (fun a h => (k a h).wp P) (fun e h => P.ex e env h) := by cases o <;> rfl
theorem Out.wp_mono {o : Out α} {Q' : α → Store → Prop} {X' : Ex → Store → Prop} (q : o.wp Q X) (f : ∀ a h, Q a h → Q' a h) (g : ∀ e h, X e h → X' e h) : o.wp Q' X' := by
  cases o with
  | ok a h => exact f a h q
  | ex e h => exact g e h q
  | bad => exact q
theorem Out.wp_eq {o : Out α} {a : α} (q : o.wp (fun b h' => b = a ∧ h' = h) (fun _ _ => False)) : o = .ok a h := by
  cases o with
  | ok b h' => obtain ⟨rfl, rfl⟩ := q; rfl
  | ex e h' => exact q.elim
  | bad => exact q.elim
theorem Out.wp_eq' {o : Out α} {a : α} {h1 : Store} (q : o.wp (fun b h' => b = a ∧ h' = h1) (fun _ _ => False)) : o = .ok a h1 := by
  cases o with
  | ok b h' => obtain ⟨rfl, rfl⟩ := q; rfl
  | ex e h' => exact q.elim
  | bad => exact q.elim
theorem SO.wp_mono {o : SO} {P' : Pst} (q : o.wp P) (n : ∀ e h, P.nx e h → P'.nx e h) (r : ∀ t h, P.rt t h → P'.rt t h) (b : ∀ e h, P.bk e h → P'.bk e h) (c : ∀ e h, P.ct e h → P'.ct e h) (x : ∀ z e h, P.ex z e h → P'.ex z e h) : o.wp P' := by
  cases o with
  | nx e h => exact n e h q
  | rt t h => exact r t h q
  | bk e h => exact b e h q
  | ct e h => exact c e h q
  | ex z e h => exact x z e h q
  | bad => exact q
@[simp] theorem wp_ite {c : Prop} [Decidable c] {a : T} {Q : T → Store → Prop} : (Out.ofO (if c then some a else none) h).wp Q X = (c ∧ Q a h) := by
  by_cases k : c
  · rw [if_pos k, eq_true k]; simp
  · rw [if_neg k, eq_false k]; simp [Out.wp, Out.ofO]
@[simp] theorem wp_iteB {c : Prop} [Decidable c] {o : Out α} : (if c then o else Out.bad).wp Q X = (c ∧ o.wp Q X) := by
  by_cases k : c
  · rw [if_pos k, eq_true k, true_and]
  · rw [if_neg k, eq_false k, false_and]; rfl
@[simp] theorem so_iteB {c : Prop} [Decidable c] {o : SO} : (if c then o else SO.bad).wp P = (c ∧ o.wp P) := by
  by_cases k : c
  · rw [if_pos k, eq_true k, true_and]
  · rw [if_neg k, eq_false k, false_and]; rfl
theorem forLoop_wp {gs : List (Nat × List T)} {tg : Tgt} {kill : List Nat} {body : MS} (items : List T) (I : Nat → Env' → Store → Prop)
    (step : ∀ i x env h, items[i]? = some x → I i env h → gsOk h gs ∧ ∃ env1, bindT tg x env = some env1 ∧
      (body env1 h).wp { nx := fun e h => I (i + 1) (dropE kill e) h, ct := fun e h => I (i + 1) (dropE kill e) h, bk := P.nx, rt := P.rt, ex := P.ex })
    (last : ∀ env h, I items.length env h → gsOk h gs ∧ P.nx env h) (h0 : I 0 env h) : (forLoop gs tg kill body items env h).wp P := by
  have key : ∀ (r : List T) (i : Nat) (env : Env') (h : Store), items.drop i = r → i ≤ items.length → I i env h → (forLoop gs tg kill body r env h).wp P := by
    intro r
    induction r with
    | nil =>
      intro i env h e hi hI
      have hl : i = items.length := by
        have := congrArg List.length e
        rw [List.length_drop] at this
        simp at this
        omega
      subst hl
      obtain ⟨g, p⟩ := last env h hI
      unfold forLoop
      rw [if_pos g]
      exact p
    | cons x r ih =>
      intro i env h e hi hI
      have hx : items[i]? = some x := by
        have := congrArg (·[0]?) e
        simpa using this
      have hlt : i < items.length := (List.getElem?_eq_some_iff.mp hx).1
      obtain ⟨g, env1, b1, w⟩ := step i x env h hx hI
      have er : items.drop (i + 1) = r := by
        rw [← List.drop_drop, e]
        rfl
      unfold forLoop
      rw [if_pos g, b1]
      show SO.wp (match body env1 h with
        | .nx env2 h2 => forLoop gs tg kill body r (dropE kill env2) h2
        | .ct env2 h2 => forLoop gs tg kill body r (dropE kill env2) h2
        | .bk env2 h2 => .nx env2 h2
        | o => o) P
      revert w
      cases body env1 h with
      | nx e2 h2 => exact fun w => ih (i + 1) _ _ er hlt w
      | ct e2 h2 => exact fun w => ih (i + 1) _ _ er hlt w
      | bk e2 h2 => exact fun w => w
      | rt t h2 => exact fun w => w
      | ex z e2 h2 => exact fun w => w
      | bad => exact fun w => w
  exact key items 0 env h rfl (Nat.zero_le _) h0
theorem compLoop_wp {Q : List T → Store → Prop} {gs : List (Nat × List T)} {tg : Tgt} {tt : M Bool} {me : M T} (items : List T) (I : Nat → List T → Store → Prop)
    (step : ∀ i x acc h, items[i]? = some x → acc.length ≤ i → I i acc h → gsOk h gs ∧ ∃ env1, bindT tg x env = some env1 ∧ (tt env1 h).wp (fun b h1 => if b = true then (me env1 h1).wp (fun y h2 => I (i + 1) (acc ++ [y]) h2) (fun _ _ => False) else I (i + 1) acc h1) (fun _ _ => False))
    (last : ∀ acc h, I items.length acc h → gsOk h gs ∧ Q acc h) (hn : items.length ≤ 100000) (h0 : I 0 [] h) : (compLoop gs tg tt me env items [] h).wp Q X := by
  have key : ∀ (r : List T) (i : Nat) (acc : List T) (h : Store), items.drop i = r → i ≤ items.length → acc.length ≤ i → I i acc h → (compLoop gs tg tt me env r acc h).wp Q X := by
    intro r
    induction r with
    | nil =>
      intro i acc h e hi _ hI
      have hl : i = items.length := by
        have := congrArg List.length e
        rw [List.length_drop] at this
        simp at this
        omega
      subst hl
      obtain ⟨g, p⟩ := last acc h hI
      unfold compLoop
      rw [if_pos g]
      exact p
    | cons x r ih =>
      intro i acc h e hi ha hI
      have hx : items[i]? = some x := by
        have := congrArg (·[0]?) e
        simpa using this
      have hlt : i < items.length := (List.getElem?_eq_some_iff.mp hx).1
      obtain ⟨g, env1, b1, w⟩ := step i x acc h hx ha hI
      have er : items.drop (i + 1) = r := by
        rw [← List.drop_drop, e]
        rfl
      unfold compLoop
      rw [if_pos g, b1]
      show ((tt env1 h).bindN _).wp Q X
      revert w
      cases tt env1 h with
      | bad => exact fun w => w.elim
      | ex z h1 => exact fun w => w.elim
      | ok b h1 =>
        intro w
        have w : if b = true then (me env1 h1).wp (fun y h2 => I (i + 1) (acc ++ [y]) h2) (fun _ _ => False) else I (i + 1) acc h1 := w
        show Out.wp (if b = true then _ else _) Q X
        cases b with
        | false =>
          rw [if_neg Bool.false_ne_true] at w ⊢
          exact ih (i + 1) acc h1 er hlt (by omega) w
        | true =>
          rw [if_pos rfl] at w ⊢
          revert w
          cases me env1 h1 with
          | bad => exact fun w => w.elim
          | ex z h2 => exact fun w => w.elim
          | ok y h2 =>
            intro w
            show Out.wp (if acc.length < 100000 then _ else _) Q X
            rw [if_pos (by omega)]
            exact ih (i + 1) (acc ++ [y]) h2 er hlt (by rw [List.length_append]; simp; omega) w
  exact key items 0 [] h rfl (Nat.zero_le _) (Nat.le_refl _) h0
theorem compLoop_pure {gs : List (Nat × List T)} {tg : Tgt} {tt : M Bool} {me : M T} (items : List T) (p : T → Bool) (f : T → T) (g : gsOk h gs) (hn : items.length ≤ 100000)
    (el : ∀ x ∈ items, ∃ env1, bindT tg x env = some env1 ∧ tt env1 h = .ok (p x) h ∧ (p x = true → me env1 h = .ok (f x) h)) : compLoop gs tg tt me env items [] h = .ok ((items.filter p).map f) h := by
  have key : ∀ (r acc : List T), (∀ x ∈ r, ∃ env1, bindT tg x env = some env1 ∧ tt env1 h = .ok (p x) h ∧ (p x = true → me env1 h = .ok (f x) h)) → acc.length + r.length ≤ 100000 → compLoop gs tg tt me env r acc h = .ok (acc ++ (r.filter p).map f) h := by
    intro r
    induction r with
    | nil =>
      intro acc _ _
      unfold compLoop
      rw [if_pos g]
      simp
    | cons x r ih =>
      intro acc hel hl
      rw [List.length_cons] at hl
      obtain ⟨env1, b1, t1, m1⟩ := hel x (List.mem_cons_self ..)
      unfold compLoop
      rw [if_pos g, b1]
      show (tt env1 h).bindN _ = _
      rw [t1, bindN_ok]
      cases hp : p x with
      | false =>
        rw [if_neg Bool.false_ne_true, ih acc (fun y hy => hel y (List.mem_cons_of_mem _ hy)) (by omega), List.filter_cons_of_neg (by rw [hp]; exact Bool.false_ne_true)]
      | true =>
        rw [if_pos rfl, m1 hp, bindN_ok, if_pos (by omega), ih (acc ++ [f x]) (fun y hy => hel y (List.mem_cons_of_mem _ hy)) (by rw [List.length_append]; simp; omega), List.filter_cons_of_pos hp]
        simp
  have := key items [] el (by simpa using hn)
  simpa using this
theorem compLoop_map {gs : List (Nat × List T)} {tg : Tgt} {me : M T} (items : List T) (f : T → T) (g : gsOk h gs) (hn : items.length ≤ 100000)
    (el : ∀ x ∈ items, ∃ env1, bindT tg x env = some env1 ∧ me env1 h = .ok (f x) h) : compLoop gs tg mYes me env items [] h = .ok (items.map f) h := by
  have := compLoop_pure (tg := tg) (tt := mYes) (me := me) (env := env) (h := h) items (fun _ => true) f g hn fun x hx => let ⟨e, a, b⟩ := el x hx; ⟨e, a, rfl, fun _ => b⟩
  rw [this, List.filter_eq_self.mpr fun _ _ => rfl]
theorem whileL_wp {c : M Bool} {kill : List Nat} {body : MS} (I : Nat → Env' → Store → Prop)
    (step : ∀ n env h, I n env h → (c env h).wp (fun b h1 => if b = true then (body env h1).wp { nx := fun e h => ∃ m, m < n ∧ I m (dropE kill e) h, ct := fun e h => ∃ m, m < n ∧ I m (dropE kill e) h, bk := P.nx, rt := P.rt, ex := P.ex } else P.nx env h1) (fun e h1 => P.ex e env h1))
    (n : Nat) (h0 : I n env h) : (whileL c kill body env h).wp P := by
  induction n using Nat.strongRecOn generalizing env h with
  | ind n ih =>
    have w := step n env h h0
    rw [whileL_eq]
    unfold wStep
    revert w
    cases c env h with
    | bad => exact fun w => w
    | ex e h1 => exact fun w => w
    | ok b h1 =>
      intro w
      have w : if b = true then (body env h1).wp { nx := fun e h => ∃ m, m < n ∧ I m (dropE kill e) h, ct := fun e h => ∃ m, m < n ∧ I m (dropE kill e) h, bk := P.nx, rt := P.rt, ex := P.ex } else P.nx env h1 := w
      cases b with
      | false => rwa [if_neg Bool.false_ne_true] at w
      | true =>
        rw [if_pos rfl] at w
        show SO.wp (match (match body env h1 with
          | .nx env2 h2 => WS.go (dropE kill env2) h2
          | .ct env2 h2 => WS.go (dropE kill env2) h2
          | .bk env2 h2 => WS.out (.nx env2 h2)
          | o => WS.out o) with
          | .out o => o
          | .go env2 h2 => whileL c kill body env2 h2) P
        revert w
        cases body env h1 with
        | bad => exact fun w => w
        | nx e2 h2 => exact fun ⟨m, lt, i⟩ => ih m lt i
        | ct e2 h2 => exact fun ⟨m, lt, i⟩ => ih m lt i
        | bk e2 h2 => exact fun w => w
        | rt t h2 => exact fun w => w
        | ex e e2 h2 => exact fun w => w
def fnP (h : Store) (Q : T → Store → Prop) (X : Ex → Store → Prop) : Pst where
  nx _ h' := sameIns h h' ∧ Q .non (h'.take h.length)
  rt t h' := sameIns h h' ∧ ((t.pu = true ∧ Q t (h'.take h.length)) ∨ (t.pu = false ∧ ∃ t', frz h.length h' t = some t' ∧ Q t' (h'.take h.length)))
  bk _ _ := False
  ct _ _ := False
  ex e _ h' := sameIns h h' ∧ e.pu = true ∧ X e (h'.take h.length)
def fnK (Q : T → Store → Prop) (X : Ex → Store → Prop) : Pst where
  nx _ h' := Q .non h'
  rt t h' := Q t h'
  bk _ _ := False
  ct _ _ := False
  ex e _ h' := X e h'
theorem retF_wp {Q : T → Store → Prop} {h h' : Store} {t : T} (s : sameIns h h') (q : (t.pu = true ∧ Q t (h'.take h.length)) ∨ (t.pu = false ∧ ∃ t', frz h.length h' t = some t' ∧ Q t' (h'.take h.length))) : (retF h t h').wp Q X := by
  unfold retF
  rw [if_pos s]
  obtain ⟨a, b⟩ | ⟨a, t', b, c⟩ := q
  · rw [if_pos a]
    exact b
  · rw [if_neg (by rw [a]; exact Bool.false_ne_true), b]
    exact c
theorem fn_wp {Q : T → Store → Prop} {n k : Nat} {body : MS} {ts : List T} (hl : ts.length = n) (w : (body (startE k ts) h).wp (fnP h Q X)) : (fn n k false body ts h).wp Q X := by
  unfold fn
  rw [if_pos hl]
  revert w
  cases body (startE k ts) h with
  | bad => exact fun w => w
  | bk e h' => exact fun w => w
  | ct e h' => exact fun w => w
  | nx e h' => exact fun ⟨s, q⟩ => retF_wp s (.inl ⟨rfl, q⟩)
  | rt t h' => exact fun ⟨s, q⟩ => retF_wp s q
  | ex e e' h' =>
    intro ⟨s, p, q⟩
    show Out.wp (if _ then _ else _) Q X
    rw [if_pos ⟨s, p⟩]
    exact q
theorem fnK_wp {Q : T → Store → Prop} {n k : Nat} {body : MS} {ts : List T} (hl : ts.length = n) (w : (body (startE k ts) h).wp (fnK Q X)) : (fn n k true body ts h).wp Q X := by
  unfold fn
  rw [if_pos hl]
  revert w
  cases body (startE k ts) h with
  | bad => exact fun w => w
  | bk e h' => exact fun w => w
  | ct e h' => exact fun w => w
  | nx e h' => exact fun w => w
  | rt t h' => exact fun w => w
  | ex e e' h' => exact fun w => w
end
section
variable {h h' : Store} {n : Nat}
theorem si_refl : sameIns h h := fun _ _ _ _ e => e
theorem si_app (l : Store) (a : sameIns h h') (hl : h'.length = h.length) : sameIns h (h' ++ l) := fun i c fs hi e => a i c fs hi (by rwa [List.getElem?_append_left (by omega)] at e)
theorem si_set {xs : List T} (a : sameIns h h') : sameIns h (h'.set n (.lst xs)) := fun i c fs hi e => by
  by_cases hn : n = i
  · subst hn
    rw [List.getElem?_set_self' ] at e
    cases hh : h'[n]? with
    | none => rw [hh] at e; cases e
    | some z => rw [hh] at e; cases e
  · rw [List.getElem?_set_ne hn] at e
    exact a i c fs hi e
def potAt (h : Store) (n : Nat) (v : Int) : Prop := h[n]? = some (.lst [.int v]) ∧ 0 ≤ v
theorem potAt.lt {v : Int} (p : potAt h n v) : n < h.length := (List.getElem?_eq_some_iff.mp p.1).1
theorem potAt.set {v w : Int} (p : potAt h n v) (hw : 0 ≤ w) : potAt (h.set n (.lst [.int w])) n w := ⟨List.getElem?_set_self p.lt, hw⟩
theorem potAt.app {v : Int} (p : potAt h n v) (l : Store) : potAt (h ++ l) n v := ⟨by rw [List.getElem?_append_left p.lt]; exact p.1, p.2⟩
end
section
variable {α : Type} {ts : List α}
theorem ixN_p {n : Nat} {i : Int} (h : 0 ≤ i) (hn : i < n) : ixN n i = some i.toNat := by
  unfold ixN
  simp [h, hn]
theorem atI_p {i : Int} (h : 0 ≤ i) (hn : i < ts.length) : atI ts i = ts[i.toNat]? := by
  unfold atI
  rw [ixN_p h hn]
  rfl
@[simp] theorem atI_0 {x : α} : atI (x :: ts) 0 = some x := by rw [atI_p (by decide) (by simp only [List.length_cons]; omega)]; rfl
@[simp] theorem atI_1 {x y : α} : atI (x :: y :: ts) 1 = some y := by rw [atI_p (by decide) (by simp only [List.length_cons]; omega)]; rfl
@[simp] theorem atI_2 {x y z : α} : atI (x :: y :: z :: ts) 2 = some z := by rw [atI_p (by decide) (by simp only [List.length_cons]; omega)]; rfl
@[simp] theorem atI_3 {x y z w : α} : atI (x :: y :: z :: w :: ts) 3 = some w := by rw [atI_p (by decide) (by simp only [List.length_cons]; omega)]; rfl
end
theorem mulB_r {i j : Int} (h : j.natAbs < 2 ^ 64) : mulB i j = true := by
  have : Builtin.Int.intBits j ≤ 64 := by
    unfold Builtin.Int.intBits
    split
    · omega
    · rename_i z
      have z' : j.natAbs ≠ 0 := by
        intro e
        apply z
        simp [Int.natAbs_eq_zero.mp e]
      have := (Nat.log2_lt z').mpr h
      omega
  unfold mulB
  have e : decide (Builtin.Int.intBits j > shortFactorBits) = false := by
    apply decide_eq_false
    show ¬ _ > 64
    omega
  rw [e, Bool.and_false, Bool.false_and]
  rfl
theorem mulB_l {i j : Int} (h : i.natAbs < 2 ^ 64) : mulB i j = true := by
  have := mulB_r (i := j) h
  unfold mulB at this ⊢
  rw [Bool.and_comm (decide (Builtin.Int.intBits i > _)), Int.add_comm]
  exact this
theorem divB_s {j : Int} (h0 : j ≠ 0) (h : j.natAbs < 2 ^ 64) : divB j = true := by
  unfold divB
  have z' : j.natAbs ≠ 0 := by omega
  have := (Nat.log2_lt z').mpr h
  rw [decide_eq_true h0, decide_eq_true (by omega)]
  rfl
theorem fdiv_p {i j : Int} (h : 0 ≤ j) : i.fdiv j = i / j := Int.fdiv_eq_ediv_of_nonneg i h
theorem fmod_p {i j : Int} (h : 0 ≤ j) : i.fmod j = i % j := Int.fmod_eq_emod_of_nonneg i h
end Sm
namespace Sm
open PySem PySem.Spec PyProof.Rows L2
section
variable {env : Env'} {h : Store} {m n p : M T} {r : M (List T)} {c d : M Bool} {a b : MS} {i j : Nat} {f : F2} {g : FA}
@[simp] theorem q1_var : mVar i env h = match env[i]? with
  | some (some t) => .ok t h
  | _ => .bad := rfl
@[simp] theorem q1_C {t : T} : mC t env h = .ok t h := rfl
@[simp] theorem q1_bin : mBin f m n env h = (m env h).bind fun a h1 => (n env h1).bind fun b h2 => Out.ofO (f a b h2) h2 := rfl
@[simp] theorem q1_un {f : F1} : mUn f m env h = (m env h).bind fun a h1 => Out.ofO (f a h1) h1 := rfl
def asB : T → Store → Out Bool
  | .bl b, h => .ok b h
  | _, _ => .bad
@[simp] theorem asB_bl {b : Bool} : asB (.bl b) h = .ok b h := rfl
@[simp] theorem q1_tst : mTst m env h = (m env h).bind asB := by
  unfold mTst
  cases m env h with
  | ok t h1 => cases t <;> rfl
  | _ => rfl
@[simp] theorem q1_tru : mTru m env h = (m env h).bind fun a h1 => Out.ofO (truF a h1) h1 := rfl
@[simp] theorem q1_andT : mAndT c d env h = (c env h).bind fun a h1 => if a = true then d env h1 else .ok false h1 := rfl
@[simp] theorem q1_orT : mOrT c d env h = (c env h).bind fun a h1 => if a = true then .ok true h1 else d env h1 := rfl
@[simp] theorem q1_notT : mNotT c env h = (c env h).bind fun a h1 => .ok (!a) h1 := rfl
@[simp] theorem q1_andV : mAndV m n env h = ((m env h).bind asB).bind fun a h1 => if a = true then n env h1 else .ok (.bl false) h1 := by
  unfold mAndV
  cases m env h with
  | ok t h1 => cases t <;> rfl
  | _ => rfl
@[simp] theorem q1_orV : mOrV m n env h = ((m env h).bind asB).bind fun a h1 => if a = true then .ok (.bl true) h1 else n env h1 := by
  unfold mOrV
  cases m env h with
  | ok t h1 => cases t <;> rfl
  | _ => rfl
@[simp] theorem q1_notV : mNotV m env h = ((m env h).bind asB).bind fun a h1 => .ok (.bl (!a)) h1 := by
  unfold mNotV
  cases m env h with
  | ok t h1 => cases t <;> rfl
  | _ => rfl
@[simp] theorem q1_if : mIf c m n env h = (c env h).bind fun a h1 => if a = true then m env h1 else n env h1 := rfl
@[simp] theorem q1_chain {g : F2} : mChain f g m n p env h = (m env h).bind fun a h1 => (n env h1).bind fun b h2 => ((Out.ofO (f a b h2) h2).bind asB).bind fun c h3 => if c = true then (p env h3).bind fun d h4 => Out.ofO (g b d h4) h4 else .ok (.bl false) h3 := by
  unfold mChain
  congr 1
  funext a h1
  congr 1
  funext b h2
  cases Out.ofO (f a b h2) h2 with
  | ok t h1 => cases t <;> rfl
  | _ => rfl
@[simp] theorem q1_nil : mNil env h = .ok [] h := rfl
@[simp] theorem q1_cons : mCons m r env h = (m env h).bind fun a h1 => (r env h1).bind fun as h2 => .ok (a :: as) h2 := rfl
@[simp] theorem q1_tup : mTup r env h = (r env h).bind fun ts h1 => if ts.length ≤ 10000 then .ok (.tup ts) h1 else .bad := rfl
@[simp] theorem q1_lst : mLst r env h = (r env h).bind fun ts h1 => if ts.length ≤ 10000 then .ok ts h1 else .bad := rfl
@[simp] theorem q1_frz : mFrz r env h = (r env h).bind fun ts h1 => .ok (.lst ts) h1 := rfl
@[simp] theorem q1_cell : mCell r env h = (r env h).bind fun ts h1 => if pus ts = true then .ok (.loc h1.length) (h1 ++ [.lst ts]) else .bad := rfl
@[simp] theorem q1_new2 {f : T → T → Store → Option (List T)} : mNew2 f m n env h = (m env h).bind fun a h1 => (n env h1).bind fun b h2 => Out.ofO (f a b h2) h2 := rfl
@[simp] theorem q1_newA {f : List T → Store → Option (List T)} : mNewA f r env h = (r env h).bind fun as h1 => Out.ofO (f as h1) h1 := rfl
@[simp] theorem q1_callF : mCallF g r env h = (r env h).bind fun as h1 => Out.ofO (g as h1) h1 := rfl
@[simp] theorem q1_call {F : Fn} : mCall F r env h = (r env h).bind fun as h1 => F as h1 := rfl
@[simp] theorem q1_meth {f : FM} : mMethL f m r env h = (m env h).bind fun a h1 => match lstOf h1 a with
  | some _ => (r env h1).bind fun as h2 => outM (f a as h2)
  | none => .bad := rfl
@[simp] theorem q1_sl {lo hi : M (Option Int)} : mSl m lo hi env h = (m env h).bind fun a h1 => (lo env h1).bind fun l h2 => (hi env h2).bind fun u h3 => Out.ofO (fSl a l u h3) h3 := rfl
@[simp] theorem q1_part0 : mPart none env h = .ok none h := rfl
def asI : T → Store → Out (Option Int)
  | .int b, h => .ok (some b) h
  | _, _ => .bad
@[simp] theorem asI_int {b : Int} : asI (.int b) h = .ok (some b) h := rfl
@[simp] theorem q1_part1 : mPart (some m) env h = (m env h).bind asI := by
  show (m env h).bind _ = _
  cases m env h with
  | ok t h1 => cases t <;> rfl
  | _ => rfl
@[simp] theorem q1_yes : mYes env h = .ok true h := rfl
def asR1 : List T → Store → Out Src
  | [.int j], h => if j < 1000000 ∧ -1000000 < j then .ok ⟨rangeT 0 j.toNat, []⟩ h else .bad
  | _, _ => .bad
def asR2 : List T → Store → Out Src
  | [.int i, .int j], h => if i < 1000000 ∧ -1000000 < i ∧ j < 1000000 ∧ -1000000 < j then .ok ⟨rangeT i (j - i).toNat, []⟩ h else .bad
  | _, _ => .bad
@[simp] theorem q1_range1 : mRange1 r env h = (r env h).bind asR1 := by
  unfold mRange1
  congr 1
  funext as h1
  rcases as with _ | ⟨a, _ | ⟨b, l⟩⟩
  · rfl
  · cases a <;> rfl
  · cases a <;> rfl
@[simp] theorem q1_range2 : mRange2 r env h = (r env h).bind asR2 := by
  unfold mRange2
  congr 1
  funext as h1
  rcases as with _ | ⟨a, _ | ⟨b, _ | ⟨c, l⟩⟩⟩
  · rfl
  · cases a <;> rfl
  · cases a <;> cases b <;> rfl
  · cases a <;> cases b <;> rfl
theorem asR1_ok {k : Int} (a : k < 1000000) (b : -1000000 < k) : asR1 [.int k] h = .ok ⟨rangeT 0 k.toNat, []⟩ h := if_pos ⟨a, b⟩
def asS : T → Store → Out Src
  | .str z, h => .ok ⟨z.cps.toList.map fun c => .str ⟨#[c]⟩, []⟩ h
  | t, h => match seqK h t with
    | some (_, xs) => .ok ⟨xs, gdOf h t⟩ h
    | none => .bad
@[simp] theorem q1_seqS : mSeq m env h = (m env h).bind asS := by
  unfold mSeq
  cases m env h with
  | ok t h1 => cases t <;> rfl
  | _ => rfl
@[simp] theorem asS_tup {xs : List T} : asS (.tup xs) h = .ok ⟨xs, []⟩ h := rfl
@[simp] theorem asS_lst {xs : List T} : asS (.lst xs) h = .ok ⟨xs, []⟩ h := rfl
@[simp] theorem q2_nil : sNil env h = .nx env h := rfl
@[simp] theorem q2_seq : sSeq a b env h = (a env h).seq b := rfl
@[simp] theorem q2_ret : sRet m env h = bindE (m env h) env fun t h1 => .rt t h1 := rfl
@[simp] theorem q2_retN : sRetN env h = .rt .non h := rfl
@[simp] theorem q2_exp : sExp m env h = bindE (m env h) env fun _ h1 => .nx env h1 := rfl
@[simp] theorem q2_if : sIf c a b env h = bindE (c env h) env fun k h1 => if k = true then a env h1 else b env h1 := rfl
@[simp] theorem q2_set : sSet i m env h = bindE (m env h) env fun t h1 => .nx (env.set i (some t)) h1 := rfl
@[simp] theorem q2_asg {g : Tgt} : sAsg g m env h = bindE (m env h) env fun t h1 => match bindT g t env with
  | some env1 => .nx env1 h1
  | none => .bad := rfl
@[simp] theorem q2_par : sPar i j m n env h = bindE (m env h) env fun t h1 => bindE (n env h1) env fun u h2 => .nx ((env.set i (some t)).set j (some u)) h2 := rfl
@[simp] theorem q2_brk : sBreak env h = .bk env h := rfl
@[simp] theorem q2_cnt : sCont env h = .ct env h := rfl
def setC (h : Store) (n : Nat) (k : Int) (v : T) (env : Env') : SO := match cellL h n with
  | some xs => match ixN xs.length k with
    | some j => if v.pu = true then .nx env (h.set n (.lst (xs.set j v))) else .bad
    | none => .bad
  | none => .bad
def asLK : T → T → (Nat → Int → SO) → SO
  | .loc n, .int k, q => q n k
  | _, _, _ => .bad
@[simp] theorem asLK_ok {n : Nat} {k : Int} {q : Nat → Int → SO} : asLK (.loc n) (.int k) q = q n k := rfl
@[simp] theorem q2_item {mo mi : M T} : sItem m mo mi env h = bindE (m env h) env fun v h1 => bindE (mo env h1) env fun a h2 => bindE (mi env h2) env fun i h3 => asLK a i fun n k => setC h3 n k v env := by
  unfold sItem
  congr 1
  funext v h1
  congr 1
  funext a h2
  congr 1
  funext i h3
  cases a <;> cases i <;> rfl
theorem setC_ok {n : Nat} {k : Int} {v : T} {xs : List T} (e : h[n]? = some (.lst xs)) (h0 : 0 ≤ k) (h1 : k < xs.length) (hv : v.pu = true) : setC h n k v env = .nx env (h.set n (.lst (xs.set k.toNat v))) := by
  unfold setC cellL
  rw [e]
  simp [ixN_p h0 h1, hv]
end
section
variable {x y : Int} {h : Store} {s t : T} {b : Bool}
@[simp] theorem q3_add : fAdd (.int x) (.int y) h = some (.int (x + y)) := rfl
@[simp] theorem q3_sub : fSub (.int x) (.int y) h = some (.int (x - y)) := rfl
@[simp] theorem q3_mul : fMul (.int x) (.int y) h = if mulB x y = true then some (.int (x * y)) else none := rfl
@[simp] theorem q3_fdiv : fFdiv (.int x) (.int y) h = if divB y = true then some (.int (x.fdiv y)) else none := rfl
@[simp] theorem q3_mod : fMod (.int x) (.int y) h = if y ≠ 0 then some (.int (x.fmod y)) else none := rfl
@[simp] theorem q3_neg : fNeg (.int x) h = some (.int (-x)) := rfl
@[simp] theorem q3_lt : fLt (.int x) (.int y) h = some (.bl (decide (x < y))) := rfl
@[simp] theorem q3_le : fLe (.int x) (.int y) h = some (.bl (decide (x ≤ y))) := rfl
@[simp] theorem q3_gt : fGt (.int x) (.int y) h = some (.bl (decide (y < x))) := rfl
@[simp] theorem q3_ge : fGe (.int x) (.int y) h = some (.bl (decide (y ≤ x))) := rfl
@[simp] theorem q3_eq : fEq (.int x) (.int y) h = some (.bl (decide (x = y))) := rfl
@[simp] theorem q3_ne : fNe (.int x) (.int y) h = some (.bl (!decide (x = y))) := rfl
@[simp] theorem q3_eqB {c : Bool} : fEq (.bl b) (.bl c) h = some (.bl (decide (b = c))) := rfl
@[simp] theorem q3_neB {c : Bool} : fNe (.bl b) (.bl c) h = some (.bl (!decide (b = c))) := rfl
@[simp] theorem q3_eqS {z w : Str} : fEq (.str z) (.str w) h = some (.bl (decide (z = w))) := rfl
@[simp] theorem q3_isN : fIs s .non h = some (.bl (isNon s)) := by cases s <;> rfl
@[simp] theorem q3_isnotN : fIsNot s .non h = some (.bl (!isNon s)) := by cases s <;> rfl
@[simp] theorem isNon_non : isNon .non = true := rfl
@[simp] theorem isNon_int : isNon (.int x) = false := rfl
@[simp] theorem isNon_bl : isNon (.bl b) = false := rfl
@[simp] theorem isNon_tup {xs : List T} : isNon (.tup xs) = false := rfl
@[simp] theorem isNon_lst {xs : List T} : isNon (.lst xs) = false := rfl
@[simp] theorem isNon_str {z : Str} : isNon (.str z) = false := rfl
@[simp] theorem isNon_loc {n : Nat} : isNon (.loc n) = false := rfl
@[simp] theorem isi_non_int : fIsi "int" .non h = some (.bl false) := rfl
@[simp] theorem isi_non_bool : fIsi "bool" .non h = some (.bl false) := rfl
@[simp] theorem isi_non_str : fIsi "str" .non h = some (.bl false) := rfl
@[simp] theorem isi_non_tuple : fIsi "tuple" .non h = some (.bl false) := rfl
@[simp] theorem isi_non_list : fIsi "list" .non h = some (.bl false) := rfl
@[simp] theorem isi_non_dict : fIsi "dict" .non h = some (.bl false) := rfl
@[simp] theorem isi_bl_int : fIsi "int" (.bl b) h = some (.bl true) := rfl
@[simp] theorem isi_bl_bool : fIsi "bool" (.bl b) h = some (.bl true) := rfl
@[simp] theorem isi_bl_str : fIsi "str" (.bl b) h = some (.bl false) := rfl
@[simp] theorem isi_bl_tuple : fIsi "tuple" (.bl b) h = some (.bl false) := rfl
@[simp] theorem isi_bl_list : fIsi "list" (.bl b) h = some (.bl false) := rfl
@[simp] theorem isi_bl_dict : fIsi "dict" (.bl b) h = some (.bl false) := rfl
@[simp] theorem isi_int_int : fIsi "int" (.int x) h = some (.bl true) := rfl
@[simp] theorem isi_int_bool : fIsi "bool" (.int x) h = some (.bl false) := rfl
@[simp] theorem isi_int_str : fIsi "str" (.int x) h = some (.bl false) := rfl
@[simp] theorem isi_int_tuple : fIsi "tuple" (.int x) h = some (.bl false) := rfl
@[simp] theorem isi_int_list : fIsi "list" (.int x) h = some (.bl false) := rfl
@[simp] theorem isi_int_dict : fIsi "dict" (.int x) h = some (.bl false) := rfl
@[simp] theorem isi_str_int {z : Str} : fIsi "int" (.str z) h = some (.bl false) := rfl
@[simp] theorem isi_str_bool {z : Str} : fIsi "bool" (.str z) h = some (.bl false) := rfl
@[simp] theorem isi_str_str {z : Str} : fIsi "str" (.str z) h = some (.bl true) := rfl
@[simp] theorem isi_str_tuple {z : Str} : fIsi "tuple" (.str z) h = some (.bl false) := rfl
@[simp] theorem isi_str_list {z : Str} : fIsi "list" (.str z) h = some (.bl false) := rfl
@[simp] theorem isi_str_dict {z : Str} : fIsi "dict" (.str z) h = some (.bl false) := rfl
@[simp] theorem isi_tup_int {xs : List T} : fIsi "int" (.tup xs) h = some (.bl false) := rfl
@[simp] theorem isi_tup_bool {xs : List T} : fIsi "bool" (.tup xs) h = some (.bl false) := rfl
@[simp] theorem isi_tup_str {xs : List T} : fIsi "str" (.tup xs) h = some (.bl false) := rfl
@[simp] theorem isi_tup_tuple {xs : List T} : fIsi "tuple" (.tup xs) h = some (.bl true) := rfl
@[simp] theorem isi_tup_list {xs : List T} : fIsi "list" (.tup xs) h = some (.bl false) := rfl
@[simp] theorem isi_tup_dict {xs : List T} : fIsi "dict" (.tup xs) h = some (.bl false) := rfl
@[simp] theorem isi_lst_int {xs : List T} : fIsi "int" (.lst xs) h = some (.bl false) := rfl
@[simp] theorem isi_lst_bool {xs : List T} : fIsi "bool" (.lst xs) h = some (.bl false) := rfl
@[simp] theorem isi_lst_str {xs : List T} : fIsi "str" (.lst xs) h = some (.bl false) := rfl
@[simp] theorem isi_lst_tuple {xs : List T} : fIsi "tuple" (.lst xs) h = some (.bl false) := rfl
@[simp] theorem isi_lst_list {xs : List T} : fIsi "list" (.lst xs) h = some (.bl true) := rfl
@[simp] theorem isi_lst_dict {xs : List T} : fIsi "dict" (.lst xs) h = some (.bl false) := rfl
@[simp] theorem q3_len {xs : List T} : fLen [.tup xs] h = some (.int xs.length) := rfl
@[simp] theorem q3_lenL {xs : List T} : fLen [.lst xs] h = some (.int xs.length) := rfl
@[simp] theorem q3_lenS {ns : List Int} : fLen [.scr ns] h = some (.int ns.length) := by
  show some (T.int ((ns.map T.int).length : Nat)) = _
  rw [List.length_map]
theorem q3_lenC {n : Nat} {xs : List T} (e : h[n]? = some (.lst xs)) : fLen [.loc n] h = some (.int xs.length) := by
  simp [fLen, e]
@[simp] theorem q3_idx {xs : List T} : fIdx (.tup xs) (.int x) h = atI xs x := rfl
@[simp] theorem q3_idxL {xs : List T} : fIdx (.lst xs) (.int x) h = atI xs x := rfl
@[simp] theorem q3_idxS {ns : List Int} : fIdx (.scr ns) (.int x) h = atI (ns.map T.int) x := rfl
theorem q3_idxC {n : Nat} {xs : List T} (e : h[n]? = some (.lst xs)) : fIdx (.loc n) (.int x) h = atI xs x := by
  simp [fIdx, e]
@[simp] theorem q3_int : fInt [.int x] h = some (.int x) := rfl
@[simp] theorem pu_int : (T.int x).pu = true := rfl
@[simp] theorem pu_bl : (T.bl b).pu = true := rfl
@[simp] theorem pu_non : T.non.pu = true := rfl
@[simp] theorem pu_str {z : Str} : (T.str z).pu = true := rfl
@[simp] theorem pu_loc {n : Nat} : (T.loc n).pu = false := rfl
@[simp] theorem pu_tup {xs : List T} : (T.tup xs).pu = pus xs := by simp only [T.pu]
@[simp] theorem pu_lst {xs : List T} : (T.lst xs).pu = pus xs := by simp only [T.pu]
@[simp] theorem pus_nil : pus [] = true := by simp only [pus]
@[simp] theorem pus_cons {xs : List T} : pus (s :: xs) = (s.pu && pus xs) := by simp only [pus]
@[simp] theorem pus_ints {ns : List Int} : pus (ns.map T.int) = true := by induction ns <;> simp_all
theorem pus_iff {xs : List T} : pus xs = true ↔ ∀ x ∈ xs, x.pu = true := by induction xs <;> simp_all
@[simp] theorem b_one {i : Nat} {env : Env'} : bindT (.one i) t env = some (env.set i (some t)) := rfl
@[simp] theorem b_tup {is : List Nat} {ts : List T} {env : Env'} : bindT (.tup is) (.tup ts) env = if ts.length = is.length then some (setT is ts env) else none := rfl
@[simp] theorem drop_nil {env : Env'} : dropE [] env = env := rfl
@[simp] theorem drop_cons {v : Nat} {vs : List Nat} {env : Env'} : dropE (v :: vs) env = (dropE vs env).set v none := rfl
end
section
variable {h l : Store} {n : Nat} {c d : Cell}
@[simp] theorem take_set_self : (h.set n c).take h.length = h.set n c := by
  apply List.take_of_length_le
  rw [List.length_set]
  exact Nat.le_refl _
@[simp] theorem take_set_app : (h.set n c ++ l).take h.length = h.set n c := by
  have e : h.length = (h.set n c).length := List.length_set.symm
  rw [e]
  exact List.take_left
theorem at_end {m : Nat} (e : h.length = m) : (h ++ [c])[m]? = some c := by subst e; simp
theorem set_end {m : Nat} (e : h.length = m) : (h ++ [c]).set m d = h ++ [d] := by subst e; simp
theorem set_old (e : n < h.length) : (h ++ l).set n d = h.set n d ++ l := List.set_append_left _ _ e
theorem si_setR {xs : List T} : sameIns h (h.set n (.lst xs)) := si_set si_refl
theorem si_appR : sameIns h (h ++ l) := si_app l si_refl rfl
theorem si_setA {xs : List T} : sameIns h (h.set n (.lst xs) ++ l) := si_app l si_setR List.length_set
end
def pst (h : Store) (n : Nat) (v : Int) : Store := h.set n (.lst [.int v])
section
variable {h l : Store} {n m : Nat} {v w : Int} {c d : Cell} {env : Env'} {xs ys : List T} {y : T}
@[simp] theorem pst_len : (pst h n v).length = h.length := List.length_set
@[simp] theorem pst_pst : pst (pst h n v) n w = pst h n w := List.set_set ..
theorem pst_app (e : n < h.length) : pst (h ++ l) n w = pst h n w ++ l := set_old e
theorem pst_app2 (e : n < h.length) : pst (pst h n v ++ l) n w = pst h n w ++ l := by rw [pst_app (by rw [pst_len]; exact e), pst_pst]
@[simp] theorem take_pst : (pst h n v).take h.length = pst h n v := take_set_self
@[simp] theorem take_pst_app : (pst h n v ++ l).take h.length = pst h n v := take_set_app
@[simp] theorem si_pst : sameIns h (pst h n v) := si_setR
@[simp] theorem si_pst_app : sameIns h (pst h n v ++ l) := si_setA
@[simp] theorem si_self : sameIns h h := si_refl
@[simp] theorem si_more : sameIns h (h ++ l) := si_appR
theorem potAt.pst (p : potAt h n v) (hw : 0 ≤ w) : potAt (pst h n w) n w := p.set hw
theorem potAt.old (p : n < h.length) (hw : 0 ≤ w) : potAt (Sm.pst h n w) n w := ⟨List.getElem?_set_self p, hw⟩
theorem setP (p : potAt h n v) : setC h n 0 (.int w) env = .nx env (pst h n w) := setC_ok p.1 (by decide) (by simp) rfl
@[simp] theorem q4_append (e : h[n]? = some (.lst xs)) (hl : xs.length < 100000) (hy : y.pu = true) : outM (fAppend (.loc n) [y] h) = .ok .non (h.set n (.lst (xs ++ [y]))) := by
  simp [fAppend, cellL, e, hl, hy, outM]
theorem e_append (e : h.length = m) (hl : xs.length < 100000) (hy : y.pu = true) : outM (fAppend (.loc m) [y] (h ++ [.lst xs])) = .ok .non (h ++ [.lst (xs ++ [y])]) := by
  rw [q4_append (at_end e) hl hy, set_end e]
theorem e_tup (e : h.length = m) : fTuple [.loc m] (h ++ [.lst xs]) = some (.tup xs) := by simp [fTuple, at_end e]
theorem e_len (e : h.length = m) : fLen [.loc m] (h ++ [.lst xs]) = some (.int xs.length) := q3_lenC (at_end e)
theorem e_idx {x : Int} (e : h.length = m) : fIdx (.loc m) (.int x) (h ++ [.lst xs]) = atI xs x := q3_idxC (at_end e)
theorem e_set {k : Int} (e : h.length = m) (h0 : 0 ≤ k) (h1 : k < xs.length) (hy : y.pu = true) : setC (h ++ [.lst xs]) m k y env = .nx env (h ++ [.lst (xs.set k.toNat y)]) := by
  rw [setC_ok (at_end e) h0 h1 hy, set_end e]
theorem tup_loc (e : h[n]? = some (.lst xs)) : fTuple [.loc n] h = some (.tup xs) := by simp [fTuple, e]
@[simp] theorem tup_lst : fTuple [.lst xs] h = some (.tup xs) := by simp [fTuple]
@[simp] theorem pus_app : pus (xs ++ ys) = (pus xs && pus ys) := pus_append ..
end
theorem bls_map {α : Type} (p : α → Bool) (l : List α) : blsOf? (l.map fun x => T.bl (p x)) = some (l.map p) := by
  induction l with
  | nil => rfl
  | cons x r ih => simp [blsOf?, ih]
theorem all_map {α : Type} {h : Store} (p : α → Bool) (l : List α) : fAll [.lst (l.map fun x => T.bl (p x))] h = some (.bl (l.all p)) := by
  simp [fAll, bls_map]
@[simp] theorem list_tup {h : Store} {xs : List T} : fList [.tup xs] h = some xs := rfl
@[simp] theorem list_lst {h : Store} {xs : List T} : fList [.lst xs] h = some xs := rfl
theorem cat_lst {h : Store} {xs ys : List T} (c : xs.length + ys.length ≤ 100000) : fCat (.lst xs) (.lst ys) h = some (xs ++ ys) := if_pos c
theorem add_tup {h : Store} {xs ys : List T} (c : xs.length + ys.length ≤ 100000) : fAdd (.tup xs) (.tup ys) h = some (.tup (xs ++ ys)) := if_pos c
theorem rep_one {t : T} (k : Nat) : (List.replicate k [t]).flatten = List.replicate k t := by
  induction k with
  | zero => rfl
  | succ k ih => rw [List.replicate_succ, List.flatten_cons, ih]; rfl
theorem mul_one {h : Store} {t : T} {k : Int} (c1 : k < 100000) (c2 : -100000 < k) : fMul (.lst [t]) (.int k) h = some (.lst (List.replicate k.toNat t)) := by
  simp [fMul, rep_one, c1, c2]
@[simp] theorem pus_rep {k : Nat} {t : T} : pus (List.replicate k t) = (decide (k = 0) || t.pu) := by
  induction k with
  | zero => rfl
  | succ k ih => rw [List.replicate_succ, pus_cons, ih]; cases t.pu <;> simp
@[simp] theorem si_nil {h : Store} : sameIns [] h := fun i c fs hi _ => absurd hi (Nat.not_lt_zero i)
theorem range_at {a : Int} {n i : Nat} {x : T} (e : (rangeT a n)[i]? = some x) : x = .int (a + i) ∧ i < n := by
  unfold rangeT at e
  rw [List.getElem?_map] at e
  by_cases hi : i < n
  · rw [List.getElem?_range hi] at e
    exact ⟨(Option.some.inj e).symm, hi⟩
  · rw [List.getElem?_eq_none (by rw [List.length_range]; omega)] at e
    cases e
end Sm
namespace Sm
open PySem PySem.Spec PyProof.Rows L2
def okD : Nat → T → Prop
  | _, .non => True
  | _, .bl _ => True
  | _, .int _ => True
  | _, .str x => PyData.strOk x = true
  | n + 1, .tup xs => ∀ x ∈ xs, okD n x
  | n + 1, .lst xs => ∀ x ∈ xs, okD n x
  | _, _ => False
def datO (t : T) : PyData := (dat t).getD .none
theorem dats_of : ∀ {xs : List T}, (∀ x ∈ xs, ∃ d, dat x = some d) → dats xs = some (xs.map datO)
  | [], _ => by simp only [dats, List.map_nil]
  | x :: r, h => by
    obtain ⟨d, e⟩ := h x (List.mem_cons_self ..)
    simp only [dats, e, dats_of fun y m => h y (List.mem_cons_of_mem _ m), List.map_cons, datO, Option.getD_some]
theorem okD_dat : ∀ {n : Nat} {t : T}, okD n t → ∃ d, dat t = some d ∧ d.canLay0 = true ∧ d.depth ≤ n := by
  intro n
  induction n with
  | zero =>
    intro t h
    cases t with
    | non => exact ⟨_, rfl, by simp only [PyData.canLay0], by simp only [PyData.depth]; exact Nat.le_refl _⟩
    | bl b => exact ⟨_, rfl, by simp only [PyData.canLay0], by simp only [PyData.depth]; exact Nat.le_refl _⟩
    | int i => exact ⟨_, rfl, by simp only [PyData.canLay0], by simp only [PyData.depth]; exact Nat.le_refl _⟩
    | str x => exact ⟨_, rfl, by simp only [PyData.canLay0]; exact h, by simp only [PyData.depth]; exact Nat.le_refl _⟩
    | tup xs => exact absurd h (by simp [okD])
    | lst xs => exact absurd h (by simp [okD])
    | loc m => exact absurd h (by simp [okD])
    | scr m => exact absurd h (by simp [okD])
    | emp => exact absurd h (by simp [okD])
    | adr m d f ts => exact absurd h (by simp [okD])
    | fnc x => exact absurd h (by simp [okD])
    | unk => exact absurd h (by simp [okD])
    | dct ks ts => exact absurd h (by simp [okD])
  | succ n ih =>
    have many : ∀ xs : List T, (∀ x ∈ xs, okD n x) → dats xs = some (xs.map datO) ∧ PyData.canLayAll0 (xs.map datO) = true ∧ PyData.depthAll (xs.map datO) ≤ n := by
      intro xs h
      refine ⟨dats_of fun x m => let ⟨d, e, _⟩ := ih (h x m); ⟨d, e⟩, ?_, ?_⟩
      · induction xs with
        | nil => simp only [List.map_nil, PyData.canLayAll0]
        | cons x r ih2 =>
          obtain ⟨d, e, c, _⟩ := ih (h x (List.mem_cons_self ..))
          simp only [List.map_cons, PyData.canLayAll0, ih2 fun y m => h y (List.mem_cons_of_mem _ m), Bool.and_true]
          simp only [datO, e, Option.getD_some, c]
      · induction xs with
        | nil => simp only [List.map_nil, PyData.depthAll]; exact Nat.zero_le _
        | cons x r ih2 =>
          obtain ⟨d, e, _, c⟩ := ih (h x (List.mem_cons_self ..))
          have := ih2 fun y m => h y (List.mem_cons_of_mem _ m)
          simp only [List.map_cons, PyData.depthAll, datO, e, Option.getD_some]
          exact Nat.max_le.mpr ⟨c, this⟩
    intro t h
    cases t with
    | non => exact ⟨_, rfl, by simp only [PyData.canLay0], by simp only [PyData.depth]; exact Nat.zero_le _⟩
    | bl b => exact ⟨_, rfl, by simp only [PyData.canLay0], by simp only [PyData.depth]; exact Nat.zero_le _⟩
    | int i => exact ⟨_, rfl, by simp only [PyData.canLay0], by simp only [PyData.depth]; exact Nat.zero_le _⟩
    | str x => exact ⟨_, rfl, by simp only [PyData.canLay0]; exact h, by simp only [PyData.depth]; exact Nat.zero_le _⟩
    | tup xs =>
      obtain ⟨a, b, c⟩ := many xs h
      exact ⟨.tuple (xs.map datO), by simp only [dat, a, Option.map_some], by simp only [PyData.canLay0]; exact b, by simp only [PyData.depth]; omega⟩
    | lst xs =>
      obtain ⟨a, b, c⟩ := many xs h
      exact ⟨.list (xs.map datO), by simp only [dat, a, Option.map_some], by simp only [PyData.canLay0]; exact b, by simp only [PyData.depth]; omega⟩
    | loc m => exact absurd h (by simp [okD])
    | scr m => exact absurd h (by simp [okD])
    | adr m d f ts => exact absurd h (by simp [okD])
    | fnc x => exact absurd h (by simp [okD])
    | unk => exact absurd h (by simp [okD])
    | dct ks ts => exact absurd h (by simp [okD])
    | emp => exact absurd h (by simp [okD])
def beqT (a b : T) : Bool := PyData.eqv (datO a) (datO b)
theorem eqG_ok {a b : T} {h : Store} {n m : Nat} (ha : okD n a) (hb : okD m b) (hn : n ≤ 64) (hm : m ≤ 64) : eqG a b h = some (beqT a b) := by
  obtain ⟨d, e1, c1, l1⟩ := okD_dat ha
  obtain ⟨e, e2, c2, l2⟩ := okD_dat hb
  have s1 : datS h a = some d := by cases a <;> first | exact e1 | (simp [dat] at e1)
  have s2 : datS h b = some e := by cases b <;> first | exact e2 | (simp [dat] at e2)
  unfold eqG
  rw [s1, s2]
  have k1 : SeqAt.shaped d = true := by unfold SeqAt.shaped; rw [c1, decide_eq_true (by omega)]; rfl
  have k2 : SeqAt.shaped e = true := by unfold SeqAt.shaped; rw [c2, decide_eq_true (by omega)]; rfl
  show (if _ then _ else _) = _
  rw [if_pos ⟨k1, k2⟩]
  simp only [beqT, datO, e1, e2, Option.getD_some]
theorem eqB_okD {a b : T} {h : Store} {n m : Nat} (ha : okD n a) (hb : okD m b) (hn : n ≤ 64) (hm : m ≤ 64) : eqB a b h = some (beqT a b) := by
  have g := eqG_ok (h := h) ha hb hn hm
  cases a <;> cases b <;> first
    | exact g
    | (rename_i x y
       simp only [eqB, beqT, datO, dat, Option.getD_some, PyData.eqv]
       by_cases e : x = y <;> simp [e])
theorem fNe_ok {a b : T} {h : Store} {n m : Nat} (ha : okD n a) (hb : okD m b) (hn : n ≤ 64) (hm : m ≤ 64) : fNe a b h = some (.bl (!beqT a b)) := by unfold fNe; rw [eqB_okD ha hb hn hm]; rfl
theorem datO_tup {xs : List T} (h : ∀ x ∈ xs, ∃ d, dat x = some d) : datO (.tup xs) = .tuple (xs.map datO) := by simp only [datO, dat, dats_of h, Option.map_some, Option.getD_some]
theorem eqvAll_ints : ∀ {ns ms : List Int}, PyData.eqvAll ((ns.map T.int).map datO) ((ms.map T.int).map datO) = decide (ns = ms)
  | [], [] => rfl
  | [], _ :: _ => by simp [PyData.eqvAll]
  | _ :: _, [] => by simp [PyData.eqvAll]
  | n :: ns, m :: ms => by
    have ih := eqvAll_ints (ns := ns) (ms := ms)
    simp only [List.map_cons, PyData.eqvAll, ih]
    show (PyData.eqv (.int n) (.int m) && _) = _
    simp only [PyData.eqv]
    by_cases e : n = m <;> by_cases e2 : ns = ms <;> simp [e, e2]
theorem ints_has {ns : List Int} : ∀ x ∈ ns.map T.int, ∃ d, dat x = some d := fun x m => by
  obtain ⟨i, _, rfl⟩ := List.mem_map.mp m
  exact ⟨.int i, rfl⟩
theorem beq_ints {ns ms : List Int} : beqT (.tup (ns.map T.int)) (.tup (ms.map T.int)) = decide (ns = ms) := by
  unfold beqT
  rw [datO_tup ints_has, datO_tup ints_has]
  simp only [PyData.eqv]
  exact eqvAll_ints
theorem okD_ints {ns : List Int} {n : Nat} : okD (n + 1) (.tup (ns.map T.int)) := fun x m => by
  obtain ⟨i, _, rfl⟩ := List.mem_map.mp m
  cases n <;> trivial
@[simp] theorem okD_loc {n m : Nat} : okD n (.loc m) = False := by cases n <;> simp [okD]
@[simp] theorem okD_scr {n : Nat} {ns : List Int} : okD n (.scr ns) = False := by cases n <;> simp [okD]
@[simp] theorem okD_dct {n : Nat} {ks : List Str} {ts : List T} : okD n (.dct ks ts) = False := by cases n <;> simp [okD]
@[simp] theorem okD_unk {n : Nat} : okD n .unk = False := by cases n <;> simp [okD]
@[simp] theorem okD_fnc {n : Nat} {x : Str} : okD n (.fnc x) = False := by cases n <;> simp [okD]
@[simp] theorem okD_adr {n : Nat} {a d : Addr} {f : Str} {ts : List T} : okD n (.adr a d f ts) = False := by cases n <;> simp [okD]
@[simp] theorem okD_emp {n : Nat} : okD n .emp = False := by cases n <;> simp [okD]
@[simp] theorem okD_int {n : Nat} {i : Int} : okD n (.int i) = True := by cases n <;> simp [okD]
@[simp] theorem okD_bl {n : Nat} {b : Bool} : okD n (.bl b) = True := by cases n <;> simp [okD]
@[simp] theorem okD_non {n : Nat} : okD n .non = True := by cases n <;> simp [okD]
@[simp] theorem okD_str {n : Nat} {z : Str} : okD n (.str z) = (PyData.strOk z = true) := by cases n <;> simp [okD]
@[simp] theorem okD_tup {n : Nat} {xs : List T} : okD (n + 1) (.tup xs) = ∀ x ∈ xs, okD n x := by simp [okD]
@[simp] theorem okD_lst {n : Nat} {xs : List T} : okD (n + 1) (.lst xs) = ∀ x ∈ xs, okD n x := by simp [okD]
@[simp] theorem q3_max {i j : Int} {h : Store} : fMax [.int i, .int j] h = some (.int (if j > i then j else i)) := rfl
@[simp] theorem q3_min {i j : Int} {h : Store} : fMin [.int i, .int j] h = some (.int (if j < i then j else i)) := rfl
@[simp] theorem q3_intB {b : Bool} {h : Store} : fInt [.bl b] h = some (.int (if b then 1 else 0)) := rfl
@[simp] theorem truF_bl {b : Bool} {h : Store} : truF (.bl b) h = some b := rfl
@[simp] theorem q3_isB {a b : Bool} {h : Store} : fIs (.bl a) (.bl b) h = some (.bl (decide (a = b))) := rfl
@[simp] theorem q3_isnotB {a b : Bool} {h : Store} : fIsNot (.bl a) (.bl b) h = some (.bl (!decide (a = b))) := rfl
@[simp] theorem q3_powI {i j : Int} {h : Store} : fPow (.int i) (.int j) h = if 0 ≤ j ∧ j ≤ 100000 ∧ i.natAbs < 2 ^ 64 then some (.int (i ^ j.toNat)) else none := rfl
theorem cut_from {xs : List T} {k : Int} (h : 0 ≤ k) : cutT xs (some k) none = xs.drop k.toNat := by
  unfold cutT HT.sIx
  simp only [Int.not_lt.mpr h, if_false]
  rw [List.take_of_length_le (by rw [List.length_drop]; exact Nat.le_refl _)]
  by_cases c : k.toNat ≤ xs.length
  · rw [Nat.min_eq_left c]
  · rw [Nat.min_eq_right (by omega), List.drop_length, List.drop_eq_nil_of_le (by omega)]
theorem cut_to {xs : List T} {k : Int} (h : 0 ≤ k) : cutT xs none (some k) = xs.take k.toNat := by
  unfold cutT HT.sIx
  simp only [Int.not_lt.mpr h, if_false, List.drop_zero, Nat.sub_zero]
  by_cases c : k.toNat ≤ xs.length
  · rw [Nat.min_eq_left c]
  · rw [Nat.min_eq_right (by omega), List.take_length, List.take_of_length_le (by omega)]
@[simp] theorem sl_tup {xs : List T} {lo hi : Option Int} {h : Store} : fSl (.tup xs) lo hi h = some (.tup (cutT xs lo hi)) := rfl
@[simp] theorem sl_lst {xs : List T} {lo hi : Option Int} {h : Store} : fSl (.lst xs) lo hi h = some (.lst (cutT xs lo hi)) := rfl
end Sm
namespace Sm
open PySem PySem.Spec PyProof.Rows L2
def mEmp : M T := fun _ h => .ok .emp h
@[simp] theorem q1_emp {env : Env'} {h : Store} : mEmp env h = .ok .emp h := rfl
def mTupR (r : M (List T)) : M T := fun env h => (r env h).bind fun as h1 => (asR2 as h1).bind fun s h2 => .ok (.tup s.items) h2
def mLstR (r : M (List T)) : M (List T) := fun env h => (r env h).bind fun as h1 => (asR2 as h1).bind fun s h2 => .ok s.items h2
def mZero (m : M T) : M (List T) := fun env h => (m env h).bind fun a h1 => .ok [.int 0, a] h1
def mTwo (m n : M T) : M (List T) := fun env h => (m env h).bind fun a h1 => (n env h1).bind fun b h2 => .ok [a, b] h2
@[simp] theorem q1_tupR {r : M (List T)} {env : Env'} {h : Store} : mTupR r env h = (r env h).bind fun as h1 => (asR2 as h1).bind fun s h2 => .ok (.tup s.items) h2 := rfl
@[simp] theorem q1_lstR {r : M (List T)} {env : Env'} {h : Store} : mLstR r env h = (r env h).bind fun as h1 => (asR2 as h1).bind fun s h2 => .ok s.items h2 := rfl
@[simp] theorem q1_zero {m : M T} {env : Env'} {h : Store} : mZero m env h = (m env h).bind fun a h1 => .ok [.int 0, a] h1 := rfl
@[simp] theorem q1_two {m n : M T} {env : Env'} {h : Store} : mTwo m n env h = (m env h).bind fun a h1 => (n env h1).bind fun b h2 => .ok [a, b] h2 := rfl
section
variable {X : Cx} {cl : Nat → Addr} {W : WX} {e a b : Expr} {m n : M T} {r : M (List T)} {p p2 pos pos2 : Pos}
end
@[simp] theorem isi_emp_int {h : Store} : fIsi "int" .emp h = some (.bl false) := rfl
@[simp] theorem isi_emp_bool {h : Store} : fIsi "bool" .emp h = some (.bl false) := rfl
@[simp] theorem isi_emp_str {h : Store} : fIsi "str" .emp h = some (.bl false) := rfl
@[simp] theorem isi_emp_tuple {h : Store} : fIsi "tuple" .emp h = some (.bl false) := rfl
@[simp] theorem isi_emp_list {h : Store} : fIsi "list" .emp h = some (.bl false) := rfl
@[simp] theorem isi_emp_dict {h : Store} : fIsi "dict" .emp h = some (.bl true) := rfl
@[simp] theorem isNon_emp : isNon .emp = false := rfl
@[simp] theorem pu_emp : T.emp.pu = true := rfl
mutual
def T.plain : T → Bool
  | .loc _ => false
  | .scr _ => false
  | .adr _ _ _ _ => false
  | .dct _ _ => false
  | .fnc _ => false
  | .unk => false
  | .tup xs => plains xs
  | .lst xs => plains xs
  | _ => true
def plains : List T → Bool
  | [] => true
  | x :: r => x.plain && plains r
end
@[simp] theorem plain_non : T.non.plain = true := rfl
@[simp] theorem plain_bl {b : Bool} : (T.bl b).plain = true := rfl
@[simp] theorem plain_int {i : Int} : (T.int i).plain = true := rfl
@[simp] theorem plain_str {z : Str} : (T.str z).plain = true := rfl
@[simp] theorem pu_adr {a d : Addr} {f : Str} {ts : List T} : (T.adr a d f ts).pu = false := rfl
@[simp] theorem pu_fnc {x : Str} : (T.fnc x).pu = false := rfl
@[simp] theorem isNon_fnc {x : Str} : isNon (.fnc x) = false := rfl
@[simp] theorem plain_fnc {x : Str} : (T.fnc x).plain = false := rfl
@[simp] theorem plain_unk : T.unk.plain = false := rfl
@[simp] theorem isNon_adr {a d : Addr} {f : Str} {ts : List T} : isNon (.adr a d f ts) = false := rfl
@[simp] theorem plain_adr {a d : Addr} {f : Str} {ts : List T} : (T.adr a d f ts).plain = false := rfl
@[simp] theorem plain_emp : T.emp.plain = true := rfl
@[simp] theorem plain_dct {ks : List Str} {ts : List T} : (T.dct ks ts).plain = false := rfl
@[simp] theorem isNon_dct {ks : List Str} {ts : List T} : isNon (.dct ks ts) = false := rfl
@[simp] theorem plain_loc {n : Nat} : (T.loc n).plain = false := rfl
@[simp] theorem plain_scr {ns : List Int} : (T.scr ns).plain = false := rfl
@[simp] theorem plain_tup {xs : List T} : (T.tup xs).plain = plains xs := by simp only [T.plain]
@[simp] theorem plain_lst {xs : List T} : (T.lst xs).plain = plains xs := by simp only [T.plain]
@[simp] theorem plains_nil : plains [] = true := by simp only [plains]
@[simp] theorem plains_cons {x : T} {r : List T} : plains (x :: r) = (x.plain && plains r) := by simp only [plains]
@[simp] theorem plains_app {xs ys : List T} : plains (xs ++ ys) = (plains xs && plains ys) := by
  induction xs with
  | nil => simp
  | cons x r ih => simp [ih, Bool.and_assoc]
mutual
theorem plain_pu : ∀ {t : T}, t.plain = true → t.pu = true
  | .non, _ => rfl
  | .bl _, _ => rfl
  | .int _, _ => rfl
  | .str _, _ => rfl
  | .emp, _ => rfl
  | .loc _, h => by simp at h
  | .adr _ _ _ _, h => by simp at h
  | .dct _ _, h => by simp at h
  | .fnc _, h => by simp at h
  | .unk, h => by simp at h
  | .scr _, h => by simp at h
  | .tup xs, h => by rw [pu_tup]; rw [plain_tup] at h; exact plains_pus h
  | .lst xs, h => by rw [pu_lst]; rw [plain_lst] at h; exact plains_pus h
theorem plains_pus : ∀ {ts : List T}, plains ts = true → pus ts = true
  | [], _ => pus_nil
  | x :: r, h => by
    rw [plains_cons, Bool.and_eq_true] at h
    rw [pus_cons, plain_pu h.1, plains_pus h.2]
    rfl
end
end Sm
namespace Sm
open PySem PySem.Spec PyProof.Rows L2
def putT (f : Str) (t : T) : List (Str × T) → List (Str × T)
  | [] => [(f, t)]
  | (g, x) :: r => if g = f then (g, t) :: r else (g, x) :: putT f t r
section
variable {K : PySem.W.Frag} {cl : Nat → Addr} {ω : Wd} {h : Store} {H : Hp} {f : Str} {t : T} {v : V}
theorem RepKV.putS (hv : Rep K ω t v) : ∀ {a : List (Str × T)} {b : List (Str × V)}, RepKV K ω a b → RepKV K ω (putT f t a) (putF f v b)
  | [], _, r => by
    cases (show _ = [] from r)
    exact ⟨v, [], rfl, hv, rfl⟩
  | (g, x) :: l, _, ⟨y, m, e, r1, r2⟩ => by
    subst e
    unfold putT putF
    by_cases c : g = f
    · rw [if_pos c, if_pos c]
      exact ⟨v, m, rfl, hv, r2⟩
    · rw [if_neg c, if_neg c]
      exact ⟨y, _, rfl, r1, RepKV.putS hv r2⟩
theorem RepKV.look : ∀ {a : List (Str × T)} {b : List (Str × V)}, RepKV K ω a b → a.lookup f = some t → ∃ v, b.lookup f = some v ∧ Rep K ω t v
  | [], _, r, e => by cases e
  | (g, x) :: l, _, ⟨y, m, q, r1, r2⟩, e => by
    subst q
    unfold List.lookup at e ⊢
    cases c : f == g with
    | true =>
      rw [c] at e
      cases e
      exact ⟨y, rfl, r1⟩
    | false =>
      rw [c] at e
      exact RepKV.look r2 e
theorem RepKV.lookN : ∀ {a : List (Str × T)} {b : List (Str × V)}, RepKV K ω a b → a.lookup f = none → b.lookup f = none
  | [], _, r, e => by
    cases (show _ = [] from r)
    rfl
  | (g, x) :: l, _, ⟨y, m, q, r1, r2⟩, e => by
    subst q
    unfold List.lookup at e ⊢
    cases c : f == g with
    | true =>
      rw [c] at e
      cases e
    | false =>
      rw [c] at e
      exact RepKV.lookN r2 e
theorem RepKV.size {κ : Type} : ∀ {a : List (κ × T)} {b : List (κ × V)}, RepKV K ω a b → a.length = b.length
  | [], _, r => by
    cases (show _ = [] from r)
    rfl
  | (g, x) :: l, _, ⟨y, m, q, r1, r2⟩ => by
    subst q
    rw [List.length_cons, List.length_cons, RepKV.size r2]
def insOf (c : Nat) (h : Store) : T → Option (Nat × List (Str × T))
  | .loc n => match h[n]? with
    | some (.ins c' fs) => if c' = c ∧ c < 1000 then some (n, fs) else none
    | _ => none
  | _ => none
theorem insOf_ok {c n : Nat} {fs : List (Str × T)} (S : StOk K cl ω h H) (r : Rep K ω t v) (e : insOf c h t = some (n, fs)) : t = .loc n ∧ h[n]? = some (.ins c fs) ∧ ∃ p dx l, v = .ref p ∧ ω.rho[n]? = some p ∧ H p = some (.ins (cl c) dx l) ∧ RepKV K ω fs l ∧ c < 1000 := by
  cases t with
  | loc m =>
    simp only [insOf] at e
    cases hm : h[m]? with
    | none => rw [hm] at e; cases e
    | some z =>
      rw [hm] at e
      cases z with
      | ins c' gs =>
        simp only at e
        obtain ⟨⟨ec, lc⟩, e2⟩ := ne_ite e
        cases e2
        subst ec
        simp only [Rep] at r
        obtain ⟨p, rfl, q⟩ := r
        rcases S.cells _ _ p hm q with ⟨_, dx, l, a, b⟩ | ⟨z, _⟩
        · exact ⟨rfl, hm, p, dx, l, rfl, q, a, b, lc⟩
        · omega
      | _ => cases e
  | _ => cases e
end
def mFld (c : Nat) (f : Str) (m : M T) : M T := fun env h => (m env h).bind fun a h1 => Out.ofO ((insOf c h1 a).bind fun p => p.2.lookup f) h1
def sFld (c : Nat) (f : Str) (mv mo : M T) : MS := fun env h => bindE (mv env h) env fun v h1 => bindE (mo env h1) env fun a h2 => match insOf c h2 a with
  | some (n, fs) => if fs.length < 900 then .nx env (h2.set n (.ins c (putT f v fs))) else .bad
  | none => .bad
def mMeth (c : Nat) (nm : Str) (F : Fn) (mo : M T) (r : M (List T)) : M T := fun env h => (mo env h).bind fun a h1 => match insOf c h1 a with
  | some (_, fs) => if (fs.lookup nm).isNone = true then (r env h1).bind fun as h2 => F (a :: as) h2 else .bad
  | none => .bad
def mNew (c : Nat) (F : Fn) (r : M (List T)) : M T := fun env h => (r env h).bind fun as h1 => (F (.loc h1.length :: as) (h1 ++ [.ins c []])).bind fun t h2 => match t with
  | .non => .ok (.loc h1.length) h2
  | _ => .bad
structure CalM (P : Program) (w : World) (K : PySem.W.Frag) (mg : Str → Option Value) (base : Heap) (cl : Nat → Addr) (c : Nat) (x : Str) (j : Nat) (ps : List Str) (F : Fn) (n : Nat) : Prop where
  cls : Cls K (cl c)
  ex : ∃ f fd, FnOk P w K mg base (L2N.CX P w) j f fd ps (spF K cl F n) ∧ Meth K (cl c) x f ∧ Binds K fd ps []
  len : ∀ ts h, ts.length ≠ n → F ts h = .bad
structure CalI (P : Program) (w : World) (K : PySem.W.Frag) (mg : Str → Option Value) (base : Heap) (cl : Nat → Addr) (c : Nat) (x : Str) (j : Nat) (ps : List Str) (F : Fn) (n : Nat) : Prop where
  ex : ∃ f fd, FnOk P w K mg base (L2N.CX P w) j f fd ps (spF K cl F n) ∧ Mk K (cl c) f ∧ mg x = some (.ref (cl c)) ∧ Binds K fd ps []
  len : ∀ ts h, ts.length ≠ n → F ts h = .bad
def Flat (W : WX) : Prop := ∀ cls d σ σ' H, W cls d σ H → W cls d σ' H
section
variable {X : Cx} {cl : Nat → Addr} {W : WX} {o e ev : Expr} {es : List Expr} {m mo mv : M T} {r : M (List T)} {F : Fn} {c j k n : Nat} {x f : Str} {ps : List Str} {p pos apos pos' : Pos}
theorem k_fld (c : Nat) (f : Str) (hc : Cls X.K (cl c)) (hn : NoAttr X.K (cl c) f) (he : PE X e (tE X.K cl W m)) (hb : attributeBase e f X.env (eval e X.env) = eval e X.env := by rfl) : PE X (.Attribute e f pos) (tE X.K cl W (mFld c f m)) := by
  refine (pe_fld he hb).weak fun σ H Q ⟨env, h, ω, he, hs, q⟩ => ⟨env, h, ω, he, hs, (PostG.bind q).mono fun t h1 ω1 H1 N1 S1 q1 v rv => ?_⟩
  obtain ⟨u, e1, q2⟩ := q1.ofO
  rw [Option.bind_eq_some_iff] at e1
  obtain ⟨⟨n, fs⟩, e2, e3⟩ := e1
  obtain ⟨rfl, hn', q, dx, l, rfl, e4, e5, r5, _⟩ := insOf_ok S1 rv e2
  obtain ⟨w, e6, r6⟩ := r5.look e3
  exact ⟨q, cl c, dx, l, w, rfl, e5, hc, hn, e6, q2 ω1 H1 (Nx.refl _ _) S1 w r6⟩
theorem ks_fld (c : Nat) (f : Str) (hc : Cls X.K (cl c)) (hn : NoAttr X.K (cl c) f) (hv : PE X ev (tE X.K cl W mv)) (ho : PE X o (tE X.K cl W mo)) (hs : swapsWith ev (some (.Attribute o f pos')) pos.line X.env = pure false := by rfl) :
    PS X (.Assign [.Attribute o f pos'] ev pos) (tS X.K cl W (sFld c f mv mo)) := by
  refine (ps_fld ho hv hs).weak fun D σ H ⟨env, h, ω, he, hs, q⟩ => ⟨env, h, ω, he, hs, (PostS.bindE he q).mono fun t h1 ω1 H1 N1 S1 q1 v rv => ⟨env, h1, ω1, he.mono N1.toGr, S1, (PostS.bindE (he.mono N1.toGr) q1).mono fun a h2 ω2 H2 N2 S2 q2 w rw' => ?_⟩⟩
  cases e1 : insOf c h2 a with
  | none => rw [e1] at q2; exact q2.elim
  | some nf =>
    obtain ⟨n, fs⟩ := nf
    rw [e1] at q2
    obtain ⟨rfl, hn', p, dx, l, rfl, e4, e5, r5, lc⟩ := insOf_ok S2 rw' e1
    by_cases hl : fs.length < 900
    · simp only [if_pos hl] at q2
      refine ⟨p, cl c, dx, l, rfl, e5, hc, hn, by rw [← r5.size]; omega, ?_⟩
      have rv2 := rv.mono N2.toGr
      refine q2 ω2 _ σ (nx_put S2 e4) (S2.put hn' (fun z => by cases z) e4 (c := .ins c (putT f t fs)) (.inl ⟨lc, dx, _, upd_same, r5.putS rv2⟩)) ((he.mono N1.toGr).mono N2.toGr)
    · simp only [if_neg hl] at q2
      exact q2.elim
theorem PostG.flat {K : PySem.W.Frag} {α : Type} {ω : Wd} {H : Hp} {σ : L2.St} {o : Out α} {R : α → Store → Wd → Hp → Prop} (fl : Flat W) (q : PostG K cl W ω H σ o R) : PostG K cl (fun cls d _ H' => W cls d [] H') ω H [] o R := by
  cases o with
  | ok a h => exact q
  | ex z h => exact fun ω' H' cls d N S x => fl cls d σ [] H' (q ω' H' cls d N S x)
  | bad => exact q
end
section
variable {P : Program} {w : World} {K : PySem.W.Frag} {mg : Str → Option Value} {base : Heap} {cl : Nat → Addr}
theorem q_fnM {x qual nm : Str} {params : Arguments} {body : List Stmt} {scope : Scope} {f : Addr} {fd : FuncData} {N ps : List Str} {c k nargs nslots : Nat} {keep : Bool} {sem : MS} (F : FunD K x qual params body scope [] [] f fd) (S : FnScope N ps scope) (hn : N.length = nslots) (hps : ps.length = nargs)
    (hm : Meth K (cl c) nm f) (hc : Cls K (cl c)) (hb : Binds K fd ps [])
    (hB : ∀ (cdv : Value) (A : Around) (outer : List Env) (s : Shared) (H : Hp) (E : XK), Ok (cxOf (L2N.CX P w) P w K mg base N qual scope f cdv A outer s H E) (fun cls d _ H => E cls d H) k →
      PSs (cxOf (L2N.CX P w) P w K mg base N qual scope f cdv A outer s H E) body (tS K cl (fun cls d _ H => E cls d H) sem)) :
    CalM P w K mg base cl c nm (k + 1) ps (fn nargs nslots keep sem) nargs := ⟨hc, ⟨f, fd, q_fnF F S hn hps hB, hm, hb⟩, fn_len⟩
theorem q_fnI {x qual nm : Str} {params : Arguments} {body : List Stmt} {scope : Scope} {f : Addr} {fd : FuncData} {N ps : List Str} {c k nargs nslots : Nat} {keep : Bool} {sem : MS} (F : FunD K x qual params body scope [] [] f fd) (S : FnScope N ps scope) (hn : N.length = nslots) (hps : ps.length = nargs)
    (hm : Mk K (cl c) f) (hg : mg nm = some (.ref (cl c))) (hb : Binds K fd ps [])
    (hB : ∀ (cdv : Value) (A : Around) (outer : List Env) (s : Shared) (H : Hp) (E : XK), Ok (cxOf (L2N.CX P w) P w K mg base N qual scope f cdv A outer s H E) (fun cls d _ H => E cls d H) k →
      PSs (cxOf (L2N.CX P w) P w K mg base N qual scope f cdv A outer s H E) body (tS K cl (fun cls d _ H => E cls d H) sem)) :
    CalI P w K mg base cl c nm (k + 1) ps (fn nargs nslots keep sem) nargs := ⟨⟨f, fd, q_fnF F S hn hps hB, hm, hg, hb⟩, fn_len⟩
end
def nmC : Nat → Str
  | 0 => "Ways"
  | 1 => "Table"
  | 2 => "Bench"
  | 3 => "Desk"
  | 10 => "FractError"
  | 11 => "AtRest"
  | 12 => "TooMany"
  | 13 => "NoText"
  | 14 => "NoNumber"
  | 15 => "NoOrder"
  | 16 => "NoProgram"
  | 17 => "Shared"
  | 18 => "NoPowers"
  | 19 => "NoTrail"
  | 20 => "NoName"
  | 21 => "NoDeed"
  | 22 => "NoRow"
  | _ => "none"
def clK (K : PySem.W.Frag) (c : Nat) : Addr := He.ga K (nmC c)
section
variable {X : Cx}
end
end Sm
namespace Sm
open PySem PySem.Spec PyProof.Rows L2 ClX
structure ExcF (K : PySem.W.Frag) (mg : Str → Option Value) (cl : Nat → Addr) (c : Nat) (x : Str) : Prop where
  gC : mg x = some (.ref (cl c))
  q : PySem.W.excIn K (cl c) He.veBase "ValueError.__new__" = true
  kC : PySem.W.keepIn K (.ref (cl c)) = true
  bC : PySem.W.subIn K (.ref (cl c)) (.type "BaseException") = some true
  tC : PySem.W.typeIn K (.ref (cl c)) = some (.type "type")
def sRaise (e : Ex) : MS := fun env h => .ex e env h
section
variable {X : Cx} {cl : Nat → Addr} {W : WX} {k c : Nat} {x msg : Str} {j : Nat} {p p2 p3 pos : Pos}
theorem ks_raise (co : Ok X W k) (E : ExcF X.K X.mg cl c x) (hg : Gl X x := by rfl) (hdb : (x == ("__debug__" : Str)) = false := by decide) :
    PS X (.Raise (some (.Call (.Name x p) [.Constant (.str msg) j p2] [] p3)) none pos) (tS X.K cl W (sRaise (.txt c))) :=
  (L2N.ps_raise co.calm co.tk (L2N.pmk_own PySem.F.excBase_ValueError E.q E.gC E.kC (raises_own E.bC E.tC) hg hdb)).weak fun D σ H ⟨env, h, ω, he, hs, q⟩ => q ω H σ (.ref (cl c)) none (Nx.refl _ _) hs he ⟨rfl, rfl⟩
end
structure FldF (K : PySem.W.Frag) (mg : Str → Option Value) (C B : Addr) (f b x : Str) : Prop where
  oc : OexC K C
  gC : mg x = some (.ref C)
  gB : mg b = some (.ref B)
  nf : PySem.W.findIn K (.ref C) f = some none
  rd : ∃ mc, CRead K B mc ∧ PySem.W.findCls K (.ref B) mc "__init__" = some (.val (.builtin "ValueError.__init__"))
section
variable {X : Cx} {C B : Addr} {f b x : Str} {e : Expr} {es : List Expr} {ta : TA} {p1 p2 pos : Pos}
theorem pe_binit {pl : Sem Bool} (F : FldF X.K X.mg C B f b x) (hg : Gl X b) (ha : PA X (e :: es) ta) (hdb : (b == ("__debug__" : Str)) = false := by decide)
    (hc : eval (.Call (.Attribute (.Name b p1) "__init__" p2) (e :: es) [] pos) X.env = (do let ov ← eval (.Name b p1) X.env; standAt p2.atName; let (g, self) ← holding [ov] (getMethod ov "__init__" pl); callWith pos g self (backTo pos (starEach (e :: es) X.env)) (backToKw pos (keywordEach [] X.env))) := by rfl) (he : starEach (e :: es) X.env = (false, eval e X.env) :: starEach es X.env := by rfl) (hpl : (backTo pos (starEach es X.env)).any (·.1) = false := by rfl) :
    PE X (.Call (.Attribute (.Name b p1) "__init__" p2) (e :: es) [] pos) (tVeI X.K ta) := ⟨fun pins s σ H Q inv rd => by
  obtain ⟨mc, r, k⟩ := F.rd
  have body : ∀ s1, Inv X pins σ H s1 → wpAny (model X.prog X.w) X.A (callWith pos (Value.builtin "ValueError.__init__") [] (backTo pos (starEach (e :: es) X.env)) []) (EP X pins σ Q) X.xe s1 := fun s1 inv1 =>
    PyProof.Rows.callWith_method1 (thn (ha.run pos pins s1 σ H _ inv1 rd) fun us s2 z => by
      obtain ⟨vs, H2, inv2, rv, a, C2, ws, ev, hl, oc, at_, q⟩ := z
      rw [ev] at rv
      cases rv with
      | cons r1 r2 =>
        cases r1
        exact oinit_ok oc inv2 at_ (by rw [← Paired.length r2, sizeLine_eq]; omega) fun s3 inv3 => ⟨.non, H2, inv3, rfl, q⟩) he hpl
  exact PySem.W.methodCall_KW (ld_glob inv hg F.gB (PySem.W.method_cls inv.kIn r.ga (PySem.W.cls_value inv.kIn r.rd k (by decide +kernel) (body _ (inv.tok _)))) hdb) hc⟩
end
def tRest (K : PySem.W.Frag) (f m : Str) : TS := tSeq (tDrop (tVeI K (tCons (tVar 0) (tCons (tC (.str m)) tNil)))) (tOst K f (tVar 0) (tVar 1))
def spRest (f : Str) (C : Addr) : Sp := fun vs H Q _ => ∃ (a : Addr) (v : V), vs = [.ref a, v] ∧ H a = some (exo a C none) ∧ ∀ d, H d = none → d ≠ a → Q .non (upd (upd H d (exd d [(f, v)])) a (exo a C (some d)))
section
variable {P : Program} {w : World} {mg : Str → Option Value} {base : Heap} {K : PySem.W.Frag}
theorem q_rest {qual f m b x : Str} {params : Arguments} {body : List Stmt} {scope : Scope} {fI C B : Addr} {fd : FuncData} (F : FunD K "__init__" qual params body scope [] [] fI fd) (S : FnScope ["self", f] ["self", f] scope) (G : FldF K mg C B f b x)
    (hB : ∀ (cdv : Value) (A : Around) (outer : List Env) (s : Shared) (H : Hp) (E : XK), PSs (cxOf (L2N.CX P w) P w K mg base ["self", f] qual scope fI cdv A outer s H E) body (tRest K f m)) :
    FnOk P w K mg base (L2N.CX P w) 1 fI fd ["self", f] (spRest f C) :=
  F.ok S (fun vs H Q E ⟨a, v, e, _⟩ => by rw [e]; rfl) fun cdv A outer s H vs Q E _ ⟨a, v, e, at_, q⟩ => by
    subst e
    exact ⟨_, hB cdv A outer s H E, .ref a, rfl, a, C, [.str m], rfl, by simp, G.oc, at_, v, rfl, .ref a, rfl, a, C, rfl, G.oc, G.nf, .inl ⟨at_, fun d n ne => q d n ne⟩⟩
end
section
variable {X : Cx} {cl : Nat → Addr} {W : WX} {k c : Nat} {x f b : Str} {e : Expr} {m : M T} {p p3 pos : Pos}
theorem pmk_fld {C B fI : Addr} {fd : FuncData} {ta : TA} (G : FldF X.K X.mg C B f b x) (iC : PySem.W.findIn X.K (.ref C) "__init__" = some (some (.ref fI))) (tI : PySem.W.typeIn X.K (.ref fI) = some (.type "function"))
    (F1 : FnOk X.prog X.w X.K X.mg X.base (L2N.CX X.prog X.w) 1 fI fd ["self", f] (spRest f C)) (room : Room 2 X.A) (hb : Binds X.K fd ["self", f] []) (hx : Passes (L2N.CX X.prog X.w) X (fun _ _ _ => False)) (hg : Gl X x) (args : PA X [e] ta) (hdb : (x == ("__debug__" : Str)) = false := by decide)
    (h1 : starEach [e] X.env = (false, eval e X.env) :: starEach [] X.env := by rfl) (h2 : (backTo p3 (starEach [] X.env)).any (·.1) = false := by rfl) :
    L2N.PMk X (.Call (.Name x p) [e] [] p3) (fun σ H Q => ta σ H fun vs H1 => ∃ v, vs = [v] ∧ ∀ d, H1 d = none → Q (.ref C) (some d) (upd H1 d (.xd [(f, v)]))) := by
  intro pins s σ H Q inv rd
  obtain ⟨nm, qn, nsA, bases, mro, sn, subs, ab, col, dd, k0, k1, k2, k3, k5, lookC, mroOk⟩ := G.oc.cls
  refine wpAny_Call_Name_kw (ld_glob inv hg G.gC (PySem.W.callWith_K (h₀ := X.base) inv.ok.mod.kin G.oc.kC (thn (args.run p3 pins s σ H _ inv rd) fun us s1 z => ?_) h1 h2) hdb)
  obtain ⟨vs, H1, inv1, rv, v, e1, q1⟩ := z
  subst e1
  refine ⟨inv1.kIn, ?_⟩
  have len1 : us.length = 1 := by have := rv.length; simpa using this.symm
  obtain ⟨heap1, gens, drawn, toks, os⟩ := s1
  -- the new object's place
  generalize hnew : heap1.objs.size + 1 = new
  have free : H1 new = none := inv1.hok.fresh (by rw [← hnew]; exact Nat.le_succ _)
  have old : ∀ b o, heap1.get? b = some o → ((heap1.push (PySem.W.kdv_tup us)).push (PySem.HandSPX.excO C heap1.objs.size)).get? b = some o := fun b o eb => (Heap.get?_push_of_some _ (Heap.get?_push_of_some _ eb))
  have here : ((heap1.push (PySem.W.kdv_tup us)).push (PySem.HandSPX.excO C heap1.objs.size)).get? new = some (PySem.HandSPX.excO C heap1.objs.size) := by rw [← hnew]; heap_get
  have inv2 : Inv X pins σ (upd H1 new (exo new C none)) ⟨(heap1.push (PySem.W.kdv_tup us)).push (PySem.HandSPX.excO C heap1.objs.size), gens, drawn, toks, os⟩ :=
    inv1.laid (t' := toks) (o := exo new C none) old (by rw [← hnew]; exact Nat.le_succ _) (exo_ok here)
  have sp1 : spRest f C [.ref new, v] (upd H1 new (exo new C none)) (fun u H2 => u = .non ∧ ∃ (d : Addr) (fs : List (Str × V)), H2 new = some (exo new C (some d)) ∧ H2 d = some (exd d fs) ∧ H1 d = none ∧ Q (.ref C) (some d) (upd (del H2 new) d (.xd fs))) (fun _ _ _ => False) := by
    refine ⟨new, v, rfl, upd_same, fun d n ne => ⟨rfl, d, [(f, v)], upd_same, ?_, ?_, ?_⟩⟩
    · rw [upd_ne ne, upd_same]
    · rw [upd_ne ne] at n
      exact n
    · rw [upd_ne ne] at n
      have eq : upd (del (upd (upd (upd H1 new (exo new C none)) d (exd d [(f, v)])) new (exo new C (some d))) new) d (.xd [(f, v)]) = upd H1 d (.xd [(f, v)]) := by
        funext a
        by_cases ad : a = d
        · rw [ad, upd_same, upd_same]
        · rw [upd_ne ad, upd_ne ad]
          by_cases an : a = new
          · rw [an, del_same, free]
          · rw [del_ne an, upd_ne an, upd_ne ad, upd_ne an]
      rw [eq]
      exact q1 d n
  have rr : Vals [V.ref new, v] (Value.ref new :: us) := .cons rfl rv
  have bnd := hb _ (Value.ref new :: us) inv2.kIn (by simp [len1])
  rw [List.append_nil] at bnd
  show wpAny _ _ (call (Value.ref C) us) _ _ _
  subst hnew
  refine wpAny_call (PySem.HandSPX.call_own F.excBase_ValueError (fun Y => PySem.HandSPX.refsVE_contains Y mro mroOk) (inv1.kIn _ _ lookC) (PySem.W.looks_findIn inv1.kIn iC) (fun self => PySem.W.bind_fn inv1.kIn self tI) (by rw [len1, sizeLine_eq]; decide)
    (codeAny_mono (F1.run _ X.stack _ _ ⟨Value.ref (heap1.objs.size + 1) :: us, []⟩ (Value.ref (heap1.objs.size + 1) :: us) _ _ (fun _ _ _ => False) (room.make C us []) (inv2.env0.make C us []) bnd rr sp1) fun res s2 out => ?_))
  cases res with
  | error er => exact hx pins σ _ _ er s2 inv2 out
  | ok fl =>
    cases fl with
    | ret u =>
      obtain ⟨u', H2, os2, bare2, un2, hok2, ru, eu, d, fs, ea, ed, dn, q2⟩ := out
      subst eu
      obtain ⟨heap2, gens2, drawn2, toks2, os'⟩ := s2
      obtain ⟨t0, G0, J, kG, ge, hoe, na⟩ := mk_end0 (d2 := drawn2) (t2 := toks2) inv1 (Nat.le_succ _) old un2 hok2 os2 bare2 ea ed dn
      refine ⟨ru, heap1.objs.size + 1, _, _, ⟨G0, gens2, drawn2, toks2, os'⟩, _, .ref C, some d, rfl, J, kG, ge, hoe, ⟨rfl, rfl, ?_⟩, rfl, rfl, na, rfl, bare2, raises_own G.oc.exC G.oc.tyC, q2⟩
      intro vs hv
      cases hv
      rfl
    | next => exact False.elim out
    | brk => exact False.elim out
    | cont => exact False.elim out
structure FldE (P : Program) (w : World) (K : PySem.W.Frag) (mg : Str → Option Value) (base : Heap) (cl : Nat → Addr) (c : Nat) (f x : Str) : Prop where
  ex : ∃ B b fI fd, FldF K mg (cl c) B f b x ∧ PySem.W.findIn K (.ref (cl c)) "__init__" = some (some (.ref fI)) ∧ PySem.W.typeIn K (.ref fI) = some (.type "function") ∧
    FnOk P w K mg base (L2N.CX P w) 1 fI fd ["self", f] (spRest f (cl c)) ∧ Binds K fd ["self", f] []
def sRaiseF (c : Nat) (f : Str) (m : M T) : MS := fun env h => bindE (m env h) env fun t h1 => if t.pu = true then .ex (.fld c f t) env h1 else .bad
theorem StOk.layX {K : PySem.W.Frag} {ω : Wd} {h : Store} {H : Hp} {d : Addr} {o : HO} (S : StOk K cl ω h H) (n : H d = none) : StOk K cl ω h (upd H d o) ∧ Nx ω H ω (upd H d o) := ⟨S.lay n, nx_lay n⟩
theorem ks_raiseF (co : Ok X W k) (hk : 2 ≤ k) (E : FldE X.prog X.w X.K X.mg X.base cl c f x) (he : PE X e (tE X.K cl W m)) (hg : Gl X x := by rfl) (hdb : (x == ("__debug__" : Str)) = false := by decide)
    (h1 : starEach [e] X.env = (false, eval e X.env) :: starEach [] X.env := by rfl) (h2 : (backTo p3 (starEach [] X.env)).any (·.1) = false := by rfl) :
    PS X (.Raise (some (.Call (.Name x p) [e] [] p3)) none pos) (tS X.K cl W (sRaiseF c f m)) := by
  obtain ⟨B, b, fI, fd, G, iC, tI, F1, hb⟩ := E.ex
  have hx : Passes (L2N.CX X.prog X.w) X (fun _ _ _ => False) := fun pins σ H s u s' I cx => by
    obtain ⟨_, _, _, _, _, _, _, _, _, _, _, _, z⟩ := cx
    exact z.elim
  refine (L2N.ps_raise co.calm co.tk (pmk_fld G iC tI F1 (co.room.mono hk) hb hx hg (pa_cons he pa_nil h1) hdb h1 h2)).weak fun D σ H ⟨env, h, ω, he, hs, q⟩ => ⟨env, h, ω, he, hs, (PostS.bindE he q).mono fun t h1 ω1 H1 N1 S1 q1 v rv => ⟨v, rfl, fun d n => ?_⟩⟩
  split at q1
  · rename_i hp
    obtain ⟨S2, N2⟩ := S1.layX (o := .xd [(f, v)]) n
    exact q1 ω1 _ σ _ _ N2 S2 (he.mono N1.toGr) ⟨rfl, hp, d, v, rfl, upd_same, rv⟩
  · exact q1.elim
end
def oexB (K : PySem.W.Frag) (C : Addr) : Bool := match K.lookup C with
  | some ⟨.type "type", _, .cls cd, slots⟩ => (match cd.mro, slots.toList with
    | .ref own :: up, [_, _, _, _, some (.builtin made), _] => own == C && made == "ValueError.__new__" && (!cd.hasDel && (cd.hasDict && PySem.HandSPX.refsVE up))
    | _, _ => false)
  | _ => false
theorem oexB_ok {K : PySem.W.Frag} {C : Addr} (t : oexB K C = true) : ∃ nm q N bs bm sn sub ab col dd k0 k1 k2 k3 k5, K.lookup C = some (excClassObj nm q C N bs bm true sn sub ab col dd k0 k1 k2 k3 k5 "ValueError.__new__") ∧ PySem.HandSPX.refsVE bm = true := by
  unfold oexB at t
  split at t
  · rename_i dd cd slots at_
    split at t
    · rename_i own up s0 s1 s2 s3 made s5 em es
      simp only [Bool.and_eq_true, beq_iff_eq, Bool.not_eq_true'] at t
      obtain ⟨⟨t1, t2⟩, t3, t4, t5⟩ := t
      subst t1 t2
      cases cd
      simp only at em t3 t4
      subst em t3 t4
      have : slots = #[s0, s1, s2, s3, some (.builtin "ValueError.__new__"), s5] := by
        cases slots
        simpa using es
      subst this
      exact ⟨_, _, _, _, up, _, _, _, _, _, _, _, _, _, _, at_, t5⟩
    · cases t
  · cases t
def fldB (K : PySem.W.Frag) (x b f : Str) : Bool :=
  let C := He.ga K x
  let B := He.ga K b
  oexB K C && (He.eqO (PySem.W.findIn K (.ref C) "__setattr__") (some (some (.builtin "object.__setattr__"))) && (decide (PySem.W.subIn K (.ref C) (.type "BaseException") = some true) && (decide (PySem.W.typeIn K (.ref C) = some (.type "type")) &&
  (PySem.W.keepIn K (.ref C) && (He.eqO (PySem.W.findIn K (.ref C) f) (some none) && (PySem.W.readsIn K B (.type "type") && (He.eqO (PySem.W.specialIn K (.ref B) "__getattribute__") (some (some (.builtin "type.__getattribute__"))) &&
  ((match PySem.W.findCls K (.ref B) (.type "type") "__init__" with
    | some (.val v) => decide (v = .builtin "ValueError.__init__")
    | _ => false) && (He.eqO (PySem.W.findIn K (.ref C) "__init__") (some (some (.ref (He.ma K C "__init__")))) && decide (PySem.W.typeIn K (.ref (He.ma K C "__init__")) = some (.type "function")))))))))))
theorem fldB_ok {K : PySem.W.Frag} {mg : Str → Option Value} {x b f : Str} (t : fldB K x b f = true) (gx : mg x = some (.ref (He.ga K x))) (gb : mg b = some (.ref (He.ga K b))) :
    FldF K mg (He.ga K x) (He.ga K b) f b x ∧ PySem.W.findIn K (.ref (He.ga K x)) "__init__" = some (some (.ref (He.ma K (He.ga K x) "__init__"))) ∧ PySem.W.typeIn K (.ref (He.ma K (He.ga K x) "__init__")) = some (.type "function") := by
  unfold fldB at t
  simp only [Bool.and_eq_true, decide_eq_true_eq] at t
  obtain ⟨t1, t2, t3, t4, t5, t6, t7, t8, t9, t10, t11⟩ := t
  have kc : PySem.W.findCls K (.ref (He.ga K b)) (.type "type") "__init__" = some (.val (.builtin "ValueError.__init__")) := by
    revert t9
    split
    · rename_i v e
      intro z
      rw [e, of_decide_eq_true z]
    · exact fun z => nomatch z
  exact ⟨⟨⟨oexB_ok t1, He.eqO_ok t2, t3, t4, t5⟩, gx, gb, He.eqO_ok t6, .type "type", ⟨t7, He.eqO_ok t8⟩, kc⟩, He.eqO_ok t10, t11⟩
structure SaysY (fa : List He.Fa) (fn : List He.DefD) (ex : PySem.W.Frag → Bool) (K : PySem.W.Frag) : Prop where
  t : He.SaysD fa fn K
  more : ex K = true
end Sm
namespace Sm
open PySem PySem.Spec PyProof.Rows L2 L2H
section
variable {X : Cx} {cl : Nat → Addr} {W : WX}
end
structure FnP (P : Program) (w : World) (K : PySem.W.Frag) (mg : Str → Option Value) (base : Heap) (k : Nat) (f : Addr) (fd : FuncData) (ps : List Str) (spp : Addr × Obj → Sp) : Prop where
  len : ∀ p vs H Q E, spp p vs H Q E → vs.length = ps.length
  run : ∀ (p : Addr × Obj) (A : Around) (outer : List Env) (s : Shared) (H : Hp) (args : Args) (us : List Value) (vs : List V) (Q : VK) (E : XK), Hot1 A p → RoomH k A → PinOk outer H s p → Env0 P w K mg base A outer s H → BindsTo s fd args (ps.zip us) → Vals vs us → spp p vs H Q E →
    codeAny (model P w) A (.call (.ref f) args) (CR (L2N.CX P w) outer P w H s Q E) s
section
variable {P : Program} {w : World} {K : PySem.W.Frag} {mg : Str → Option Value} {base : Heap} {k : Nat} {f : Addr} {fd : FuncData} {x qual : Str} {params : Arguments} {body : List Stmt} {scope : Scope} {N ps : List Str} {spp : Addr × Obj → Sp}
theorem FnP.of (F : FunD K x qual params body scope [] [] f fd) (S : FnScope N ps scope) (len : ∀ p vs H Q E, spp p vs H Q E → vs.length = ps.length)
    (hB : ∀ (cdv : Value) (p : Addr × Obj) (A : Around) (outer : List Env) (s : Shared) (H : Hp) (vs : List V) (Q : VK) (E : XK), Hot1 A p → RoomH k (A.deeper (envOfC qual scope s.heap.objs.size f cdv)) → spp p vs H Q E →
      ∃ t, PSs (cxH (L2N.CX P w) P w K mg base N qual scope f cdv A outer s H E p) body t ∧ t { nx := fun _ H' => Q .non H', rt := Q } (L2.start N vs) H) : FnP P w K mg base (k + 1) f fd ps spp := by
  obtain ⟨oc, od, dV, kV, doc, pm, an, cdv, ct, osl, rfl, at_, code, _, _⟩ := F.ex
  refine ⟨len, fun p A outer s H args us vs Q E hot room pinned env0 bound vals sp1 => ?_⟩
  have same : vs.length = ps.length := len _ _ _ _ _ sp1
  have inK : K.In s.heap := env0.mod.kin.keeps fun b o z => (env0.bs b o z).1
  have kinds : ∀ y ∈ ps.zip us, scope.names.lookup y.1 = some .local ∨ (scope.names.lookup y.1 = some .cell ∧ ((cellsFrom (s.heap.objs.size + 1) scope.names []).lookup y.1).isSome = true) := fun y hy =>
    (S.par y.1 (List.of_mem_zip hy).1).elim .inl fun z => .inr ⟨z, PySem.W.cellsFrom_some _ _ _ (.inl z)⟩
  refine codeAny_call_function room.depth (inK _ _ at_) rfl S.co S.gen rfl (PySem.W.codeRec_of inK code) (bound _ _ _ _ (wpAny_newFunctionEnv_cells S.kind kinds fun env e1 s1 made => ?_))
  subst e1
  refine ⟨(env0.mod.nolimit.keeps fun b o z => (env0.bs b o z).1).keeps made.toInCall.keep, codeAny_func ?_⟩
  obtain ⟨t, run1, rd⟩ := hB cdv p A outer s H vs Q E hot (room.deeper _) sp1
  have inv : Inv (cxH (L2N.CX P w) P w K mg base N qual scope f cdv A outer s H E p) [] (L2.start N vs) H s1 := inv_startH S pinned env0 same vals made
  refine wpAny_mono (run1.run [] s1 _ H _ inv rd) (fun fl s2 out => ?_) fun _ _ z => z
  cases fl with
  | ret u =>
    obtain ⟨v, σ2, H2, inv2, rv, q⟩ := out
    exact ⟨v, H2, inv2.os, inv2.bare, inv2.base, inv2.hok, rv, q⟩
  | next =>
    obtain ⟨σ2, H2, inv2, q⟩ := out
    exact ⟨.non, H2, inv2.os, inv2.bare, inv2.base, inv2.hok, rfl, q⟩
  | brk => exact out.elim fun _ z => z.elim fun _ y => y.2.elim
  | cont => exact out.elim fun _ z => z.elim fun _ y => y.2.elim
end
section
variable {X : Cx} {k : Nat} {f : Addr} {fd : FuncData} {ps : List Str} {spp : Addr × Obj → Sp} {x : Str} {p : Addr × Obj} {q pos : Pos} {e : Expr} {es : List Expr} {ta : TA}
end
def Ex.c : Ex → Nat
  | .txt c => c
  | .fld c _ _ => c
def exT (a d : Addr) : Ex → T
  | .txt _ => .adr a d "" []
  | .fld _ f t => .adr a d f [t]
def dOf (d : Addr) : Ex → Option Addr
  | .txt _ => none
  | .fld _ _ _ => some d
structure OkX (X : Cx) (cl : Nat → Addr) (k : Nat) (a d : Addr) (oe : Obj) (e : Ex) : Prop where
  nd : X.N.Nodup
  hot : Hot1 X.A (a, oe)
  mem : (a, oe) ∈ X.pn
  room : RoomH k X.A
  zn : L2N.Zn (.ref (cl e.c)) (dOf d e) oe
theorem OkX.hu {X : Cx} {cl : Nat → Addr} {k : Nat} {a d : Addr} {oe : Obj} {e : Ex} (c : OkX X cl k a d oe e) : X.A.units + 64 < cLine := by have := c.room.un; omega
theorem OkX.hu0 {X : Cx} {cl : Nat → Addr} {k : Nat} {a d : Addr} {oe : Obj} {e : Ex} (c : OkX X cl k a d oe e) : X.A.units < cLine := by have := c.room.un; omega
theorem OkX.flds {X : Cx} {cl : Nat → Addr} {k : Nat} {a d : Addr} {oe : Obj} {e : Ex} (c : OkX X cl k a d oe e) : ∃ vs, oe.data = .fields vs := by
  obtain ⟨_, vs, h, _⟩ := c.hot
  exact ⟨vs, h⟩
structure ExcI (K : PySem.W.Frag) (D : Addr) : Prop where
  isC : (PySem.W.clsIn K D).isSome = true
  ga : PySem.W.findIn K (.ref D) "__getattribute__" = some (some (.builtin "BaseException.__getattribute__"))
  gt : PySem.W.findIn K (.ref D) "__getattr__" = some none
  sb : PySem.W.subIn K (.ref D) (.type "BaseException") = some true
  ac : PySem.W.findIn K (.ref D) "__class__" = some (some (.builtin "object.__class__"))
  gs : PySem.W.specialIn K (.builtin "object.__class__") "__get__" = some (some (.builtin "getset_descriptor.__get__"))
  tk : PySem.W.takesIn K (.builtin "object.__class__") = some true
  mo : PySem.W.mroIn K D (.type "object") = some true
  hasD : PySem.W.hasDictIn K D = true
open Classical in
open Classical in
noncomputable def mFldX (t0 : T) (m : M T) : M T := fun env h => (m env h).bind fun t h1 => if t = t0 then (match t0 with
  | .adr _ _ _ [u] => .ok u h1
  | _ => .bad) else .bad
section
variable {X : Cx} {cl : Nat → Addr} {W : WX} {k : Nat} {a d : Addr} {oe : Obj} {e : Ex} {ev : Expr} {m : M T} {x : Str} {p p2 pos : Pos} {b : Bool}
end
theorem k_fldX {Y : Cx} {cl : Nat → Addr} {W : WX} {k : Nat} {a d : Addr} {oe : Obj} {c : Nat} {f : Str} {t : T} {pn : List (Addr × Obj)} {ev : Expr} {m : M T} {pos : Pos} (co : OkX (Y.suite a ((a, oe) :: pn)) cl k a d oe (.fld c f t)) (I : ExcI Y.K (cl c)) (nf : PySem.W.findIn Y.K (.ref (cl c)) f = some none)
    (he : PE (Y.suite a ((a, oe) :: pn)) ev (tE Y.K cl W m)) (hb : attributeBase ev f (Y.suite a ((a, oe) :: pn)).env (eval ev (Y.suite a ((a, oe) :: pn)).env) = eval ev (Y.suite a ((a, oe) :: pn)).env := by rfl) :
    PE (Y.suite a ((a, oe) :: pn)) (.Attribute ev f pos) (tE Y.K cl W (mFldX (exT a d (.fld c f t)) m)) := by
  refine (pe_xf (C := cl c) ⟨I.ga, I.gt, I.sb, I.hasD⟩ nf co.zn.zc co.flds he hb).weak fun σ H Q ⟨env, h, ω, henv, hs, q⟩ => ⟨env, h, ω, henv, hs, (PostG.bind q).mono fun u h1 ω1 H1 N1 S1 q1 v r => ?_⟩
  split at q1
  · rename_i et
    subst et
    simp only [exT, Rep] at r
    obtain ⟨rfl, ws, c1, r1⟩ := r
    obtain ⟨w, wr, rfl, r2, r3⟩ := Reps.inv r1
    have := r3.nil_inv
    subst this
    exact ⟨rfl, rfl, d, _, w, rfl, S1.phi _ _ (c1 (by simp)), by simp, q1 ω1 H1 (Nx.refl _ _) S1 w r2⟩
  · exact q1.elim
def spX (K : PySem.W.Frag) (cl : Nat → Addr) (F : Addr → Addr → Ex → Fn) (n : Nat) (ok : Ex → Prop) : Addr × Obj → Sp := fun p vs H Q _ => vs.length = n ∧ ∃ (d : Addr) (e : Ex), ok e ∧ L2N.Zn (.ref (cl e.c)) (dOf d e) p.2 ∧
  ∃ ts h ω, StOk K cl ω h H ∧ Reps K ω ts vs ∧ PostG K cl W0 ω H [] (F p.1 d e ts h) fun t _ ω' H' => ∀ v, Rep K ω' t v → Q v H'
structure CalX (P : Program) (w : World) (K : PySem.W.Frag) (mg : Str → Option Value) (base : Heap) (cl : Nat → Addr) (x : Str) (j : Nat) (ps : List Str) (F : Addr → Addr → Ex → Fn) (n : Nat) (ok : Ex → Prop) : Prop where
  ex : ∃ f fd, FnP P w K mg base j f fd ps (spX K cl F n ok) ∧ mg x = some (.ref f) ∧ PySem.W.keepIn K (.ref f) = true ∧ Binds K fd ps []
  len : ∀ a d e ts h, ts.length ≠ n → F a d e ts h = .bad
section
variable {P : Program} {w : World} {K : PySem.W.Frag} {mg : Str → Option Value} {base : Heap} {cl : Nat → Addr}
end
section
variable {X : Cx} {cl : Nat → Addr} {W : WX} {k j n : Nat} {a d : Addr} {oe : Obj} {e : Ex} {ps : List Str} {F : Addr → Addr → Ex → Fn} {x : Str} {q pos : Pos} {ev : Expr} {es : List Expr} {r : M (List T)} {ok : Ex → Prop}
end
open Classical in
section
variable {X : Cx} {cl : Nat → Addr} {W : WX} {k i c0 : Nat} {cs : List Nat} {x n : Str} {np pos pos' : Pos} {body suite : List Stmt} {b0 : Stmt} {sem : MS} {hd : Addr → Addr → Ex → MS}
end
structure TryF (K : PySem.W.Frag) (cl : Nat → Addr) (R A : List Nat) (c0 : Nat) : Prop where
  i : ∀ c ∈ R, ExcI K (cl c)
  k : ∀ c ∈ R, ∀ y ∈ A, PySem.W.kitOne K (.ref (cl c)) (.ref (cl y)) = some (decide (c = y))
  v : ∀ c ∈ R, PySem.W.kitOne K (.ref (cl c)) (.type "ValueError") = some true
  m : ∀ c ∈ R, PySem.W.exmOne K (.ref (cl c)) (.ref (cl c0)) = some true
def excIB (K : PySem.W.Frag) (D : Addr) : Bool := (PySem.W.clsIn K D).isSome && (He.eqO (PySem.W.findIn K (.ref D) "__getattribute__") (some (some (.builtin "BaseException.__getattribute__"))) && (He.eqO (PySem.W.findIn K (.ref D) "__getattr__") (some none) &&
  (decide (PySem.W.subIn K (.ref D) (.type "BaseException") = some true) && (He.eqO (PySem.W.findIn K (.ref D) "__class__") (some (some (.builtin "object.__class__"))) && (He.eqO (PySem.W.specialIn K (.builtin "object.__class__") "__get__") (some (some (.builtin "getset_descriptor.__get__"))) &&
  (decide (PySem.W.takesIn K (.builtin "object.__class__") = some true) && (decide (PySem.W.mroIn K D (.type "object") = some true) && PySem.W.hasDictIn K D)))))))
theorem excIB_ok {K : PySem.W.Frag} {D : Addr} (t : excIB K D = true) : ExcI K D := by
  unfold excIB at t
  simp only [Bool.and_eq_true, decide_eq_true_eq] at t
  obtain ⟨t1, t2, t3, t4, t5, t6, t7, t8, t9⟩ := t
  exact ⟨t1, He.eqO_ok t2, He.eqO_ok t3, t4, He.eqO_ok t5, He.eqO_ok t6, t7, t8, t9⟩
def tryB (K : PySem.W.Frag) (R A : List Nat) (c0 : Nat) : Bool := R.all fun c => excIB K (clK K c) && ((A.all fun y => decide (PySem.W.kitOne K (.ref (clK K c)) (.ref (clK K y)) = some (decide (c = y)))) && (decide (PySem.W.kitOne K (.ref (clK K c)) (.type "ValueError") = some true) &&
  decide (PySem.W.exmOne K (.ref (clK K c)) (.ref (clK K c0)) = some true)))
theorem tryB_ok {K : PySem.W.Frag} {R A : List Nat} {c0 : Nat} (t : tryB K R A c0 = true) : TryF K (clK K) R A c0 := by
  unfold tryB at t
  rw [List.all_eq_true] at t
  have h : ∀ c ∈ R, excIB K (clK K c) = true ∧ (∀ y ∈ A, PySem.W.kitOne K (.ref (clK K c)) (.ref (clK K y)) = some (decide (c = y))) ∧ PySem.W.kitOne K (.ref (clK K c)) (.type "ValueError") = some true ∧ PySem.W.exmOne K (.ref (clK K c)) (.ref (clK K c0)) = some true := fun c hc => by
    have := t c hc
    simp only [Bool.and_eq_true, decide_eq_true_eq, List.all_eq_true] at this
    exact this
  exact ⟨fun c hc => excIB_ok (h c hc).1, fun c hc => (h c hc).2.1, fun c hc => (h c hc).2.2.1, fun c hc => (h c hc).2.2.2⟩
end Sm
namespace Sm
open PySem PySem.Spec PyProof.Rows L2
section
variable {X : Cx} {W : WX} {cl : Nat → Addr} {k j n : Nat} {ps : List Str} {F : Fn} {x z : Str} {p pos : Pos} {e : Expr} {es : List Expr} {r : M (List T)} {env : Env'} {h : Store}
end
end Sm
namespace Sm
open PySem PySem.Spec PyProof.Rows L2
section
variable {K : PySem.W.Frag} {cl : Nat → Addr} {ω : Wd} {h : Store} {H : Hp}
end
section
variable {X : Cx} {W : WX} {cl : Nat → Addr} {r : M (List T)}
end
end Sm
namespace Sm
open PySem PySem.Spec PyProof.Rows L2
section
variable {X : Cx} {cl : Nat → Addr} {W : WX} {tg : Expr} {r : M (List T)} {env : Env'} {h : Store}
def rangeC (lo c : Int) (n : Nat) : List T := (List.range n).map fun i => .int (lo + (i : Nat) * c)
theorem rangeC_length (lo c : Int) (n : Nat) : (rangeC lo c n).length = n := by simp [rangeC]
theorem it_rangeC {K : PySem.W.Frag} {lo c : Int} {n : Nat} {ω0 : Wd} : ItOk K cl (Itc lo c n) ⟨rangeC lo c n, []⟩ ω0 := by
  have w := walk_rangeC (lo := lo) (c := c) (n := n)
  have len := rangeC_length lo c n
  refine ⟨fun i ω h H _ _ _ hi => w.goes i H (by rw [← len]; exact hi) trivial, fun ω h H _ _ _ => ?_, fun i ω h H x H' _ S _ hi y => ?_⟩
  · show (Itc lo c n).stop (rangeC lo c n).length H
    rw [len]
    exact w.stops H trivial
  · replace hi : i < n := len ▸ hi
    obtain ⟨rfl, rfl⟩ := w.yields i H x H' hi trivial y
    exact ⟨ω, _, Nx.refl _ _, S, by unfold rangeC; rw [List.getElem?_map, List.getElem?_range hi]; rfl, rep_int⟩
def mRange3 (r : M (List T)) : M Src := fun env h => (r env h).bind fun as h1 => match as with
  | [.int i, .int j, .int c] => if c ≠ 0 ∧ c.natAbs < 1073741824 ∧ Builtin.Range.small i j c = true ∧ 0 ≤ Builtin.Range.rangeSize i j c then .ok ⟨rangeC i c (Builtin.Range.rangeSize i j c).toNat, []⟩ h1 else .bad
  | _ => .bad
theorem ki_range3 {a b c : Expr} {p pos : Pos} (hg : Gl X "range") (hm : X.mg "range" = none) (ha : PA X [a, b, c] (tA X.K cl W r))
    (hs : starEach [a, b, c] X.env = (false, eval a X.env) :: starEach [b, c] X.env := by rfl) (hpl : (backTo pos (starEach [b, c] X.env)).any (·.1) = false := by rfl) : PI X tg (.Call (.Name "range" p) [a, b, c] [] pos) (tI X.K cl W (mRange3 r)) := by
  refine (pi_range3 hg hm ha hs hpl).weak fun σ H R ⟨env, h, ω, he, hs, q⟩ => ⟨env, h, ω, he, hs, (PostG.bind q).mono fun as h1 ω1 H1 N1 S1 q1 vs rs => ?_⟩
  split at q1
  · rename_i i j k
    obtain ⟨v, vr, rfl, a1, b1⟩ := rs.inv
    obtain ⟨v2, vr2, rfl, a2, b2⟩ := b1.inv
    obtain ⟨v3, vr3, rfl, a3, b3⟩ := b2.inv
    split at q1
    · rename_i g
      rw [b3.nil_inv, a1.int_inv, a2.int_inv, a3.int_inv]
      exact ⟨i, j, k, _, rfl, ⟨g.1, g.2.1, g.2.2.1, (Int.toNat_of_nonneg g.2.2.2).symm⟩, q1 ω1 H1 (Nx.refl _ _) S1 _ it_rangeC⟩
    · exact q1.elim
  · exact q1.elim
theorem range3_ev {i j c : Int} {xs : List T} (er : r env h = .ok [.int i, .int j, .int c] h) (g : c ≠ 0 ∧ c.natAbs < 1073741824 ∧ Builtin.Range.small i j c = true ∧ 0 ≤ Builtin.Range.rangeSize i j c) (e : rangeC i c (Builtin.Range.rangeSize i j c).toNat = xs) : mRange3 r env h = .ok ⟨xs, []⟩ h := by
  unfold mRange3
  rw [er]
  show (if _ then _ else _) = _
  rw [if_pos g, e]
end
end Sm
namespace Sm
open PySem PySem.Spec PyProof.Rows L2 HT
open PySem.W (krv_all krv_range)
section
variable {E : Value → Shared → Prop} {s : Shared} {w : World} {prog : Program} {A : Around}
end
section
variable {X : Cx} {cl : Nat → Addr} {W : WX} {m : M T} {env : Env'} {h : Store}
end
end Sm
namespace Sm
open PySem PySem.Spec PyProof.Rows L2
abbrev KX (K : PySem.W.Frag) (ω : Wd) := Paired fun (p : List Int × T) (q : List Int × Addr × Value) => p.1 = q.1 ∧ SqT K ω.Phi q.2.1 (p.1.map V.int) ∧ ∃ v, RelV v q.2.2 ∧ Rep K ω p.2 v
section
variable {K : PySem.W.Frag} {ω ω' : Wd} {kvs : List (List Int × T)} {xs : List (List Int × Addr × Value)} {l : List DRow} {k : List Int} {t : T} {v : V} {u : Value} {b : Addr}
end
section
variable {X : Cx} {pins : List (Addr × Obj)} {σ : L2.St} {H : Hp} {s : Shared} {cl : Nat → Addr} {ω : Wd} {h : Store} {n : Nat} {kvs : List (List Int × T)} {ks : List Int} {v : V} {b : Addr}
end
section
variable {X : Cx} {cl : Nat → Addr} {W : WX} {a b o e f : Expr} {m n mo me mx mv mi : M T} {r : M (List T)} {pos p apos cpos : Pos}
end
end Sm
namespace Sm
open PySem PySem.Spec PyProof.Rows L2
section
variable {X : Cx} {cl : Nat → Addr} {W : WX} {o i e : Expr} {mo mi mv : M T} {tpos pos : Pos}
end
end Sm
set_option maxHeartbeats 4000000
namespace Sm
open PySem PySem.Spec PyProof.Rows L2
section
variable {X : Cx} {cl : Nat → Addr} {W : WX} {k : Nat} {r : M (List T)} {e : Expr} {es : List Expr} {p pos : Pos}
end
end Sm
set_option maxHeartbeats 4000000
namespace Sm
open PySem PySem.Spec PyProof.Rows L2
section
variable {P : Program} {w : World} {A : Around} {E : Value → Shared → Prop} {s : Shared}
set_option maxHeartbeats 6000000 in
end
section
variable {X : Cx} {cl : Nat → Addr} {W : WX} {k : Nat} {a : Expr} {m : M T} {p p2 pos q : Pos}
end
end Sm
set_option maxHeartbeats 2000000
namespace Sm
open PySem PySem.Spec PyProof.Rows L2
section
variable {X : Cx} {pins : List (Addr × Obj)} {σ : L2.St} {H : Hp} {s : Shared} {d : Addr} {o : Obj} {l : List DRow} {es : Array DictEntry} {ep : Nat}
end
section
variable {X : Cx} {cl : Nat → Addr} {W : WX} {e a b : Expr} {m n : M T} {tg : Expr} {r : M (List T)} {apos cpos p p2 pos pos2 : Pos}
end
end Sm
set_option maxHeartbeats 2000000
namespace Sm
open PySem PySem.Spec PyProof.Rows L2
section
variable {X : Cx} {cl : Nat → Addr} {W : WX} {k : Nat} {r : M (List T)} {e : Expr} {es : List Expr} {p pos : Pos}
end
end Sm
set_option maxHeartbeats 2000000
namespace Sm
open PySem PySem.Spec PyProof.Rows L2
section
variable {X : Cx} {pins : List (Addr × Obj)} {σ : L2.St} {H : Hp} {s : Shared} {vs : List V} {p0 : Addr} {a e : Expr} {ta : TE}
end
section
variable {X : Cx} {cl : Nat → Addr} {W : WX} {a b c e o : Expr} {m mo me : M T} {r : M (List T)} {p pos apos cpos : Pos}
end
end Sm
set_option maxHeartbeats 2000000
namespace Sm
open PySem PySem.Spec PyProof.Rows L2
section
variable {X : Cx} {cl : Nat → Addr} {W : WX} {k : Nat} {r : M (List T)} {o e : Expr} {es : List Expr} {mo me : M T} {p pos apos : Pos}
end
end Sm
set_option maxHeartbeats 2000000
namespace Sm
open PySem PySem.Spec PyProof.Rows L2
section
variable {X : Cx} {cl : Nat → Addr} {W : WX} {es : List Expr} {t : TA} {r : M (List T)} {pos : Pos}
end
end Sm
set_option maxHeartbeats 2000000
namespace Sm
open PySem PySem.Spec PyProof.Rows L2
def getS : List (Str × T) → Str → Option T
  | [], _ => none
  | (k, t) :: r, x => if k = x then some t else getS r x
def putS (l : List (Str × T)) (x : Str) (t : T) : List (Str × T) := if (getS l x).isSome = true then l.map fun p => if p.1 = x then (p.1, t) else p else l ++ [(x, t)]
def unk : List (Key × T) → Option (List (Str × T))
  | [] => some []
  | (.inr k, t) :: r => (unk r).map ((k, t) :: ·)
  | (.inl _, _) :: _ => none
section
variable {K : PySem.W.Frag} {cl : Nat → Addr} {ω : Wd} {h : Store} {H : Hp} {t : T} {v : V} {x : Str} {l : List (Str × T)} {kvs : List (Key × V)}
end
section
variable {X : Cx} {cl : Nat → Addr} {W : WX} {a b e o f : Expr} {es : List Expr} {m n mo me mv mi : M T} {r : M (List T)} {pos p apos cpos : Pos}
end
section
variable {X : Cx} {cl : Nat → Addr} {W : WX} {o e : Expr} {es : List Expr} {mo : M T} {r : M (List T)} {F : Fn} {c j k n : Nat} {x : Str} {ps : List Str} {p pos apos : Pos} {CX : CXT} {f C : Addr} {fd : FuncData} {sp : Sp} {E : L2.St → XK} {ta : TE} {t : TA}
def tMethS (C : Addr) (m : Str) (sp : Sp) (E : L2.St → XK) (ta : TE) (t : TA) : TE := fun σ H Q => ta σ H fun x H1 => ∃ a dx fs, x = .ref a ∧ H1 a = some (.ins C dx fs) ∧ fs.lookup m = none ∧ t σ H1 fun vs H2 => sp (x :: vs) H2 Q (E σ)
theorem pe_methS {pl : Sem Bool} (he : PE X o ta) (c : Cls X.K C) (hm : Meth X.K C x f) (F : FnOk X.prog X.w X.K X.mg X.base CX k f fd ps sp) (hr : Room k X.A) (hb : Binds X.K fd ps []) (hx : ∀ σ, PassesAt CX X σ (E σ)) (ha : PA X (e :: es) t)
    (hst : starEach (e :: es) X.env = (false, eval e X.env) :: starEach es X.env) (hpl : (backTo pos (starEach es X.env)).any (·.1) = false)
    (ht : eval (.Call (.Attribute o x apos) (e :: es) [] pos) X.env = (do let ov ← eval o X.env; standAt apos.atName; let (g, self) ← holding [ov] (getMethod ov x pl); callWith pos g self (backTo pos (starEach (e :: es) X.env)) (backToKw pos (keywordEach [] X.env)))) :
    PE X (.Call (.Attribute o x apos) (e :: es) [] pos) (tMethS C x sp E ta t) := by
  refine ⟨fun pins s σ H Q I h => PySem.W.methodCall_KW (pl := pl) (thn (he.run pins s σ H _ I h) ?_) ht⟩
  rintro u s1 ⟨y, H1, I1, rx, a, dx, fs, rfl, ea, l, q⟩
  cases (show u = Value.ref a from rx)
  refine getmeth_ok I1 ea c hm l (PySem.W.callWith_K (first := [.ref a]) (h₀ := X.base) I.ok.mod.kin hm.kp (thn (ha.run pos pins s1 σ H1 _ I1 q) ?_) hst hpl)
  rintro us s2 ⟨vs, H2, I2, rv, q2⟩
  exact ⟨I2.kIn, run_fnS (us := .ref a :: us) (vs := .ref a :: vs) F hr hb (hx σ) I2 (.cons rfl rv) q2⟩
theorem methS_step {K : PySem.W.Frag} {σ : L2.St} {H : Hp} {Q : VK} (hn : ∀ ts h, ts.length ≠ n → F ts h = .bad) (h : tE K cl W (mMeth c x F mo r) σ H Q) : tMethS (cl c) x (spF K cl F n) (WE W) (tE K cl W mo) (tA K cl W r) σ H Q := by
  obtain ⟨env, h, ω, he, hs, q⟩ := h
  refine ⟨env, h, ω, he, hs, (PostG.bind q).mono fun a h1 ω1 H1 N1 S1 q1 v rv => ?_⟩
  cases e1 : insOf c h1 a with
  | none => rw [e1] at q1; exact q1.elim
  | some nf =>
    obtain ⟨n1, fs⟩ := nf
    rw [e1] at q1
    obtain ⟨rfl, hn', p, dx, l, rfl, e4, e5, r5, _⟩ := insOf_ok S1 rv e1
    by_cases hl : (fs.lookup x).isNone = true
    · simp only [if_pos hl] at q1
      refine ⟨p, dx, l, rfl, e5, r5.lookN (by simpa using hl), env, h1, ω1, he.mono N1.toGr, S1, (PostG.bind q1).mono fun as h2 ω2 H2 N2 S2 q2 vs rvs => ?_⟩
      refine ⟨Classical.byContradiction fun z => ?_, .loc n1 :: as, h2, ω2, S2, Reps.cons (rv.mono N2.toGr) rvs, q2.reW⟩
      rw [hn (.loc n1 :: as) h2 (by rw [List.length_cons, rvs.length]; exact z)] at q2
      exact q2
    · simp only [if_neg hl] at q1
      exact q1.elim
theorem k_methS (co : Ok X W k) (G : CalM X.prog X.w X.K X.mg X.base cl c x j ps F n) (hj : j ≤ k) (he : PE X o (tE X.K cl W mo)) (ha : PA X (e :: es) (tA X.K cl W r))
    (hst : starEach (e :: es) X.env = (false, eval e X.env) :: starEach es X.env := by rfl) (hpl : (backTo pos (starEach es X.env)).any (·.1) = false := by rfl) {pl : Sem Bool}
    (ht : eval (.Call (.Attribute o x apos) (e :: es) [] pos) X.env = (do let ov ← eval o X.env; standAt apos.atName; let (g, self) ← holding [ov] (getMethod ov x pl); callWith pos g self (backTo pos (starEach (e :: es) X.env)) (backToKw pos (keywordEach [] X.env))) := by rfl) :
    PE X (.Call (.Attribute o x apos) (e :: es) [] pos) (tE X.K cl W (mMeth c x F mo r)) := by
  obtain ⟨f, fd, G1, m, b⟩ := G.ex
  exact (pe_methS he G.cls m G1 (co.room.mono hj) b (fun σ => L2N.passAt co.tk σ) ha hst hpl ht).weak fun _ _ _ h => methS_step G.len h
def tMakeS (C : Addr) (sp : Sp) (E : L2.St → XK) (t : TA) : TE := fun σ H Q => t σ H fun vs H1 => ∀ y dx, H1 y = none → H1 dx = none → dx ≠ y → sp (.ref y :: vs) (upd (upd H1 dx (.own y)) y (.ins C dx [])) (fun v H2 => v = .non ∧ Q (.ref y) H2) (E σ)
theorem pe_makeS (M : Mk X.K C f) (F : FnOk X.prog X.w X.K X.mg X.base CX k f fd ps sp) (hr : Room (k + 1) X.A) (hg : Gl X x) (hm : X.mg x = some (.ref C)) (hb : Binds X.K fd ps []) (hx : ∀ σ, PassesAt CX X σ (E σ)) (ha : PA X (e :: es) t) (hdb : (x == ("__debug__" : Str)) = false)
    (he : starEach (e :: es) X.env = (false, eval e X.env) :: starEach es X.env) (hpl : (backTo pos (starEach es X.env)).any (·.1) = false) : PE X (.Call (.Name x p) (e :: es) [] pos) (tMakeS C sp E t) := by
  refine ⟨fun pins s0 σ H0 Q I0 h0 => wpAny_Call_Name_kw (ld_glob I0 hg hm (PySem.W.callWith_K (h₀ := X.base) I0.ok.mod.kin M.kp (thn (ha.run pos pins s0 σ H0 _ I0 h0) ?_) he hpl) hdb)⟩
  rintro us s ⟨vs, H, I, rel, q⟩
  generalize hN : s.heap.objs.size = N
  have hq := q (N + 1) N (I.hok.fresh (by rw [hN]; exact Nat.le_succ N)) (I.hok.fresh (by rw [hN]; exact Nat.le_refl N)) (Nat.ne_of_lt (Nat.lt_succ_self N))
  have J := Inv.made (C := C) I
  rw [hN] at J
  have rel2 : Vals (V.ref (N + 1) :: vs) (Value.ref (N + 1) :: us) := .cons rfl rel
  have len : (Value.ref (N + 1) :: us).length = ps.length := rel2.length.symm.trans (F.len _ _ _ _ hq)
  have bnd := hb _ (Value.ref (N + 1) :: us) J.kIn (by rw [List.append_nil]; exact len)
  rw [List.append_nil] at bnd
  subst hN
  refine ⟨I.kIn, wpAny_call (make_map (f := f) I.kIn M.makes M.init (beq_iff_eq.mp M.fn) (codeAny_mono (F.run _ X.stack _ _ _ _ _ _ (E σ) (hr.make C us []) (J.env0.make C us []) bnd rel2 hq) fun out s' z => ?_))⟩
  cases out with
  | error er => exact hx σ pins _ _ er s' J z
  | ok fl => cases fl with
    | ret u =>
      obtain ⟨v, H', I3, rv, rfl, q3⟩ := J.after z
      exact ⟨rv, V.ref _, H', I3, rfl, q3⟩
    | _ => exact False.elim z
theorem newS_step {K : PySem.W.Frag} {σ : L2.St} {H : Hp} {Q : VK} (hc : c < 1000) (hn : ∀ ts h, ts.length ≠ n → F ts h = .bad) (h : tE K cl W (mNew c F r) σ H Q) : tMakeS (cl c) (spF K cl F n) (WE W) (tA K cl W r) σ H Q := by
  obtain ⟨env, h, ω, he, hs, q⟩ := h
  refine ⟨env, h, ω, he, hs, (PostG.bind q).mono fun as h1 ω1 H1 N1 S1 q1 vs rvs p dx n1 n2 ne => ?_⟩
  have f1 : upd H1 dx (.own p) p = none := by rw [upd_ne (Ne.symm ne)]; exact n1
  have S2 : StOk K cl ω1 h1 (upd H1 dx (.own p)) := S1.lay n2
  have S3 : StOk K cl (ω1.cell p) (h1 ++ [.ins c []]) (upd (upd H1 dx (.own p)) p (.ins (cl c) dx [])) :=
    (S2.lay f1).cellIt (c := .ins c []) (.inl ⟨hc, dx, [], upd_same, rfl⟩) (S2.freshF f1) (S2.freshR f1)
  have N3 : Nx ω1 H1 (ω1.cell p) (upd (upd H1 dx (.own p)) p (.ins (cl c) dx [])) := ((nx_lay (o := .own p) n2).trans (nx_lay (o := .ins (cl c) dx []) f1)).cellIt n1
  have rp : Rep K (ω1.cell p) (.loc h1.length) (.ref p) := by
    simp only [Rep]
    refine ⟨p, rfl, ?_⟩
    show (ω1.rho ++ [p])[h1.length]? = some p
    rw [List.getElem?_append_right (by rw [S1.len]; exact Nat.le_refl _), S1.len]
    simp
  have q2 := PostG.bind q1
  refine ⟨Classical.byContradiction fun z => ?_, .loc h1.length :: as, h1 ++ [.ins c []], ω1.cell p, S3, Reps.cons rp (rvs.mono N3.toGr), ?_⟩
  · rw [hn (.loc h1.length :: as) (h1 ++ [Cell.ins c ([] : List (Str × T))]) (by rw [List.length_cons, rvs.length]; exact z)] at q2
    exact q2
  · have q3 := q2.reW
    revert q3
    cases hF : F (.loc h1.length :: as) (h1 ++ [.ins c []]) with
    | bad => exact fun z => z
    | ex z h2 => exact fun q3 ω' H' cls d N S x => q3 ω' H' cls d (N3.trans N) S x
    | ok t h2 =>
      intro q3 ω' H' N S v rv
      have q4 := q3 ω' H' (N3.trans N) S
      cases t with
      | non => exact ⟨by simpa only [Rep] using rv, q4 ω' H' (Nx.refl _ _) S (.ref p) (rp.mono N.toGr)⟩
      | _ => exact q4.elim
theorem k_newS (co : Ok X W k) (G : CalI X.prog X.w X.K X.mg X.base cl c x j ps F n) (hj : j + 1 ≤ k) (hg : Gl X x) (ha : PA X (e :: es) (tA X.K cl W r)) (hdb : (x == ("__debug__" : Str)) = false := by decide) (he : starEach (e :: es) X.env = (false, eval e X.env) :: starEach es X.env := by rfl) (hpl : (backTo pos (starEach es X.env)).any (·.1) = false := by rfl) (hk : c < 1000 := by decide) :
    PE X (.Call (.Name x p) (e :: es) [] pos) (tE X.K cl W (mNew c F r)) := by
  obtain ⟨f, fd, G1, m, hm, b⟩ := G.ex
  exact (pe_makeS m G1 (co.room.mono hj) hg hm b (fun σ => L2N.passAt co.tk σ) ha hdb he hpl).weak fun _ _ _ h => newS_step hk G.len h
end
end Sm
namespace Sm
open PySem PySem.Spec PyProof.Rows L2
section
variable {X : Cx} {pins : List (Addr × Obj)} {σ : L2.St} {H : Hp} {s : Shared} {cl : Nat → Addr} {ω : Wd} {h : Store} {n : Nat} {kvs : List (List Int × T)} {ks : List Int} {v : V} {b : Addr}
end
open Classical in
section
variable {X : Cx} {cl : Nat → Addr} {W : WX} {a b o e f : Expr} {m n mo me mx mv mi : M T} {r : M (List T)} {pos p apos cpos : Pos}
end
end Sm
namespace Sm
open PySem PySem.Spec PyProof.Rows L2
def tabV (tb : List (Str × Int)) (z : Str) : Option Int := (tb.find? fun p => decide (p.1 = z)).map (·.2)
structure Tb (K : PySem.W.Frag) (w : World) (mg : Str → Option Value) (x : Str) (tb : List (Str × Int)) : Prop where
  m : mg x = some (.ref (He.ga K x))
  kd : ∃ es n, KDict K w (He.ga K x) es n
  ns : ∀ z, match tabV tb z with
    | some i => ∃ t, PySem.W.nsIn K (He.ga K x) z = some (some (.int i t))
    | none => PySem.W.nsIn K (He.ga K x) z = some none
section
variable {X : Cx} {cl : Nat → Addr} {W : WX} {a e : Expr} {m me : M T} {x : Str} {tb : List (Str × Int)} {p pos apos cpos : Pos}
end
section
variable {X : Cx} {cl : Nat → Addr} {W : WX} {k c j n : Nat} {body : List Stmt} {h0 : ExceptHandler} {hs : List ExceptHandler} {sem : MS} {F : Fn} {x : Str} {ps : List Str} {o e : Expr} {mo me : M T} {p pos apos cpos : Pos}
end
section
variable {X : Cx} {cl : Nat → Addr} {W : WX} {a b o e : Expr} {m n mo me : M T} {rest : List Expr} {pos apos : Pos}
end
section
variable {X : Cx} {cl : Nat → Addr} {W : WX} {r : M (List T)} {e : Expr} {es : List Expr} {p pos : Pos}
end
section
variable {X : Cx} {cl : Nat → Addr} {W : WX} {r : M (List T)} {e : Expr} {es : List Expr} {p pos : Pos}
end
section
variable {P : Program} {w : World} {K : PySem.W.Frag} {mg : Str → Option Value} {base : Heap} {cl : Nat → Addr}
end
structure SaysZ (fa : List He.Fa) (fn : List He.DefD) (ts : List He.Tab) (ex : PySem.W.Frag → Bool) (w : World) (K : PySem.W.Frag) : Prop where
  t : He.SaysT fa fn ts w K
  more : ex K = true
end Sm
namespace Sm
open PySem PySem.Spec PyProof.Rows L2
section
variable {X : Cx} {cl : Nat → Addr} {W : WX} {r : M (List T)} {m n : M T} {a b e : Expr} {es : List Expr} {p pos : Pos}
end
end Sm
namespace Sm
open PySem PySem.Spec PyProof.Rows L2
def Made (H : Hp) (P c : Addr) (q : Str) (ps : Array Value) (H1 : Hp) : Prop :=
  (∃ z, codeAmong z ps.toList = some (.ref c)) ∧ H1 = H ∨ H c = none ∧ ∃ x y : Value, (∃ pos : Pos, x = rawInt pos.line ∧ y = rawInt pos.col) ∧ H1 = upd (upd H P (.tbl (ps ++ #[x, y, .ref c]))) c (LamX.CodeO c q)
section
variable {X : Cx} {pins : List (Addr × Obj)} {σ : L2.St} {H : Hp} {s : Shared} {P cd : Addr} {params : Arguments} {body : Expr} {scope : Scope} {pos : Pos} {E Q : Value → Shared → Prop} {ps : Array Value}
abbrev lamO (X : Cx) (params : Arguments) (body : Expr) (scope : Scope) (pm : Value) (c : Addr) (ctv : Value) : Obj := PySem.W.kla_obj "<lambda>" (X.env.qual ++ "<lambda>") params body scope (cloFrom X.env.cells scope.names []) pm c ctv
theorem lam_made (I : Inv X pins σ H s) (TB : LamX.TabB X.base X.mg cd P) (hcode : X.env.code = .ref cd) (hP : H P = some (.tbl ps)) (ht : TriplesOk ps.toList)
    (ha : ∀ z cv, codeAmong z ps.toList = some cv → ∃ c, cv = .ref c ∧ H c = some (LamX.CodeO c (X.env.qual ++ "<lambda>"))) (hdef : defaultsOf params X.env = ([], [])) (hfree : ∀ y ∈ scope.names, y.2 = .free → ∃ c, X.env.cells.lookup y.1 = some c)
    (fin : ∀ (f c : Addr) (pm ctv : Value) (H1 : Hp) (s1 : Shared), Inv X pins σ H1 s1 → Made H P c (X.env.qual ++ "<lambda>") ps H1 → s1.heap.get? f = some (lamO X params body scope pm c ctv) → H1 f = none → f ∉ frs X.stack → Q (.ref f) s1) :
    wpAny (model X.prog X.w) X.A (eval (.Lambda params body scope pos) X.env) Q E s := by
  have room : ∀ f, s.heap.objs.size ≤ f → f ∉ frs X.stack := by
    intro f hf m
    rcases List.mem_cons.mp (I.stkSub _ m) with rfl | m2
    · exact Nat.lt_irrefl _ (Nat.lt_of_lt_of_le I.lt hf)
    · exact I.nofs hf m2
  have bt := TB.bm.keeps I.bk
  have at0 := I.hok P _ hP
  refine PySem.W.kla_eval hdef ?_
  rcases hc : codeAmong pos ps.toList with _ | cv
  · -- a new code object
    apply PySem.W.kla_makeFunction (mg := X.mg) (c := cd) (P := P) (ps := ps) (closure_ok hfree) I.ok.glob (I.mod.glob.keeps I.bk) hcode (TB.code.keeps I.bk) at0 ht hc TB.gP bt
    intro c ctv hh tk ext ge lt ⟨c2, oc, vs, t, ec, hoc, dt, nm⟩ tb
    obtain rfl : c = c2 := Value.ref.inj ec
    have big : s.heap.objs.size ≤ hh.objs.size := Nat.le_of_lt (Nat.lt_of_le_of_lt ge lt)
    have nc : H c = none := I.hok.fresh ge
    have J := LamX.inv_table (c := c) (q := X.env.qual ++ "<lambda>") (t' := tk) (more := #[rawInt pos.line, rawInt pos.col, .ref c]) (h' := hh.push (lamO X params body scope ((X.mg "__name__").getD .none) c ctv)) I hP (fun b o n e => Heap.get?_push_of_some _ (ext b o n e)) (Heap.get?_push_of_some _ tb) ge
      ⟨oc, vs, t, Heap.get?_push_of_some _ hoc, dt, nm⟩
    refine fin _ c _ ctv _ _ J (.inr ⟨nc, _, _, ⟨pos, rfl, rfl⟩, rfl⟩) (Heap.get?_push_size _ rfl) ?_ (room _ big)
    have a1 : hh.objs.size ≠ P := Nat.ne_of_gt (Nat.lt_of_lt_of_le (Heap.lt_size at0) big)
    have a2 : hh.objs.size ≠ c := Nat.ne_of_gt lt
    rw [upd_ne a2, upd_ne a1]
    exact I.hok.fresh big
  · -- one that is there
    obtain ⟨c, rfl, hco⟩ := ha pos cv hc
    apply PySem.W.kla_makeFunctionHit (mg := X.mg) (c := cd) (P := P) (ps := ps) (closure_ok hfree) I.ok.glob (I.mod.glob.keeps I.bk) hcode (TB.code.keeps I.bk) at0 ht hc bt
    intro ctv hh tk ext big
    have J : Inv X pins σ H { s with heap := hh.push (lamO X params body scope ((X.mg "__name__").getD .none) c ctv), toks := tk } := I.kept fun b o e => Heap.get?_push_of_some _ (ext b o e)
    exact fin _ c _ ctv H _ J (.inl ⟨⟨pos, hc⟩, rfl⟩) (Heap.get?_push_size _ rfl) (I.hok.fresh big) (room _ big)
end
def codeF (q : Str) : Addr → HO := fun c => LamX.CodeO c q
section
variable {K : PySem.W.Frag} {cl : Nat → Addr} {ω : Wd} {h : Store} {H H1 : Hp} {P c : Addr} {q : Str} {ps : Array Value} {i : Nat}
theorem tab_at (S : StOk K cl ω h H) (e : h[i]? = some (.tab P (codeF q))) : ω.rho[i]? = some P ∧ ∃ ps, H P = some (.tbl ps) ∧ TriplesOk ps.toList ∧ ∀ z cv, codeAmong z ps.toList = some cv → ∃ c, cv = .ref c ∧ ω.Phi c = some (LamX.CodeO c q) := by
  obtain ⟨p, hp, k⟩ := S.at_ e
  obtain ⟨rfl, ps, a, b, d⟩ := k
  exact ⟨hp, ps, a, b, d⟩
theorem made_ok (S : StOk K cl ω h H) (e : h[i]? = some (.tab P (codeF q))) (hP : H P = some (.tbl ps)) (ht : TriplesOk ps.toList) (ha : ∀ z cv, codeAmong z ps.toList = some cv → ∃ c, cv = .ref c ∧ ω.Phi c = some (LamX.CodeO c q))
    (m : Made H P c q ps H1) : ∃ ω1, Nx ω H ω1 H1 ∧ StOk K cl ω1 h H1 ∧ ω1.Phi c = some (LamX.CodeO c q) := by
  rcases m with ⟨⟨z, hc⟩, rfl⟩ | ⟨nc, x, y, ⟨pos, rfl, rfl⟩, rfl⟩
  · obtain ⟨c0, e0, e1⟩ := ha z _ hc
    obtain rfl : c = c0 := Value.ref.inj e0
    exact ⟨ω, Nx.refl _ _, S, e1⟩
  · obtain ⟨hr, _⟩ := tab_at S e
    have pc : P ≠ c := fun z => by rw [← z, hP] at nc; cases nc
    have np : ω.Phi c = none := by
      cases z : ω.Phi c with
      | none => rfl
      | some o => rw [S.phi c o z] at nc; cases nc
    have nr : c ∉ ω.rho := fun z => by
      obtain ⟨o, z⟩ := S.somR z
      rw [z] at nc
      cases nc
    have pp : P ∈ ω.rho := List.mem_of_getElem? hr
    have keep : ∀ a o, H a = some o → a ≠ P → upd (upd H P (.tbl (ps ++ #[rawInt pos.line, rawInt pos.col, .ref c]))) c (LamX.CodeO c q) a = some o := fun a o z n => by
      rw [upd_ne (fun y => by rw [y, nc] at z; cases z), upd_ne n]
      exact z
    have atP : upd (upd H P (.tbl (ps ++ #[rawInt pos.line, rawInt pos.col, .ref c]))) c (LamX.CodeO c q) P = some (.tbl (ps ++ #[rawInt pos.line, rawInt pos.col, .ref c])) := by rw [upd_ne pc, upd_same]
    have gr : Gr ω (ω.fix c (LamX.CodeO c q)) := gr_fix np
    have pn : ω.Phi P = none := by
      rcases S.dis i P hr with z | z
      · rw [e] at z; cases z
      · exact z
    refine ⟨ω.fix c (LamX.CodeO c q), ⟨gr, fun a ha => .inl ha, fun a o z => ?_, fun a o z n => keep a o z (fun y => n (by rw [y]; exact pp)), fun a z => ?_⟩, ⟨S.len, S.nd, fun j d p hd hp => ?_, fun a o z => ?_, fun j p hp => (S.dis j p hp).imp id fun z => ?_⟩, upd_same⟩
    · have z : upd ω.Phi c (LamX.CodeO c q) a = some o := z
      by_cases n : a = c
      · exact .inr (.inl (by rw [n]; exact nc))
      · rw [upd_ne n] at z
        exact .inl z
    · by_cases n : a = c
      · rw [n, upd_same] at z; cases z
      · by_cases n2 : a = P
        · rw [n2, atP] at z; cases z
        · rw [upd_ne n, upd_ne n2] at z
          exact z
    · by_cases n : p = P
      · subst n
        have hp : ω.rho[j]? = some p := hp
        have ej : j = i := nodup_at S.nd hp hr
        subst ej
        rw [e] at hd
        cases hd
        refine ⟨rfl, _, atP, ?_, fun z cv hz => ?_⟩
        · rw [Array.toList_append]
          exact PySem.TriplesOk_snoc _ _ _ _ ht
        · rw [Array.toList_append] at hz
          rcases LamX.among_app _ ht hz with w | w
          · obtain ⟨c0, e1, e2⟩ := ha z cv w
            exact ⟨c0, e1, gr.phi _ _ e2⟩
          · exact ⟨c, w, upd_same⟩
      · exact (S.cells j d p hd hp).move gr fun o z => keep p o z n
    · have z : upd ω.Phi c (LamX.CodeO c q) a = some o := z
      by_cases n : a = c
      · subst n
        rw [upd_same] at z
        cases z
        exact upd_same
      · rw [upd_ne n] at z
        exact keep a o (S.phi a o z) fun y => by rw [y, pn] at z; cases z
    · show upd ω.Phi c (LamX.CodeO c q) p = none
      rw [upd_ne (fun y => nr (by rw [← y]; exact List.mem_of_getElem? hp))]
      exact z
end
end Sm
namespace Sm
open PySem PySem.Spec PyProof.Rows L2
abbrev lamN (X : Cx) (A : Around) (outer : List Env) (s : Shared) (H : Hp) (E : XK) (scope : Scope) (f c : Addr) : Cx :=
  (LamX.lamCx X A outer s H E scope f c).wish fun u t => wpAny (model X.prog X.w) (A.deeper (LamX.lamEnv X scope s.heap.objs.size f c)) (leaving (LamX.lamEnv X scope s.heap.objs.size f c) u)
    (fun _ t1 => L2N.CX X.prog X.w outer H s E u t1) (fun u1 t1 => L2N.CX X.prog X.w outer H s E u1 t1) t
theorem lamN_ok {X : Cx} {A : Around} {outer : List Env} {s : Shared} {H : Hp} {E : XK} {scope : Scope} {f c : Addr} {k : Nat} (nd : X.N.Nodup) (room : Room k (A.deeper (LamX.lamEnv X scope s.heap.objs.size f c))) :
    Ok (lamN X A outer s H E scope f c) (fun cls d _ H1 => E cls d H1) k :=
  ⟨rfl, nd, L2N.takes_of rfl rfl rfl rfl, passes_of rfl, room⟩
section
variable {X : Cx} {pins : List (Addr × Obj)} {σ : L2.St} {H : Hp} {s : Shared}
theorem lam_act {Ng : List Str} {qg : Str} {sg : Scope} {g f c : Addr} {cdg pm ctv : Value} {params : Arguments} {body : Expr} {scope : Scope} {k i : Nat} {a : Str} {Eg : XK} {pn : List (Addr × Obj)} {xe : Value → Shared → Prop} {W : WX} {tb : XK → TE} {p1 p2 : Pos}
    (I : Inv X pins σ H s) (L : LamX.LamS X.env.scope scope) (there : s.heap.get? f = some (lamO X params body scope pm c ctv)) (nH : H f = none) (nS : f ∉ frs X.stack)
    (bind : bindArgs (PySem.W.kla_fn "<lambda>" (X.env.qual ++ "<lambda>") params body scope (cloFrom X.env.cells scope.names []) pm (.ref c) ctv) ⟨[], []⟩ = pure [])
    (tk : L2N.Takes ((cxOf (L2N.CX X.prog X.w) X.prog X.w X.K X.mg X.base Ng qg sg g cdg X.A X.stack s H Eg).tr pn xe) W) (room : Room (k + 1) (X.A.deeper (envOfC qg sg s.heap.objs.size g cdg)))
    (within : ∀ (A : Around) (outer : List Env) (s : Shared) (H : Hp) (E : XK), Room k (A.deeper (LamX.lamEnv X scope s.heap.objs.size f c)) → PE (lamN X A outer s H E scope f c) body (tb E))
    (hN : Ng[i]? = some a) (hv : Vis sg a) (hd : (a == ("__debug__" : Str)) = false := by decide) (hcd : (a == ("__classdict__" : Str)) = false := by decide) :
    PE ((cxOf (L2N.CX X.prog X.w) X.prog X.w X.K X.mg X.base Ng qg sg g cdg X.A X.stack s H Eg).tr pn xe) (.Call (.Name a p1) [] [] p2)
      (fun σZ HZ Q => σZ[i]? = some (some (.ref f)) ∧ HZ c = some (LamX.CodeO c (X.env.qual ++ "<lambda>")) ∧ ∃ E : XK, (∀ cls d H1, E cls d H1 → W cls d σZ H1) ∧ tb E σ HZ Q) := by
  refine ⟨fun pinsZ sZ σZ HZ Q IZ ⟨hs, hc, E, hW, ht⟩ => ?_⟩
  refine wpAny_Call_Name_kw (thn ((pe_var (pos := p1) (i := i) hN hv hd hcd).run pinsZ sZ σZ HZ (fun v H1 => v = .ref f ∧ H1 = HZ) IZ ⟨.ref f, hs, rfl, rfl⟩) fun u s1 ⟨v, H1, J, r1, eq1, eq2⟩ => ?_)
  subst eq1
  subst eq2
  obtain rfl : u = Value.ref f := r1
  have there1 := J.base.keep f _ there nH nS (fun z => nomatch (show f ∈ ([] : List Addr) from z))
  refine PySem.W.callWith_F0 ⟨_, _, _, _, there1⟩ ?_
  have same : Un (frs X.stack) [] H H1 s.heap s1.heap := J.base
  obtain ⟨⟨oc, vs, t, hoc, hdc, hvc⟩, _, _⟩ := J.hok c _ hc
  have run : codeAny (model X.prog X.w) (X.A.deeper (envOfC qg sg s.heap.objs.size g cdg)) (.call (.ref f) ⟨[], []⟩) (CR (L2N.CX X.prog X.w) (envOfC qg sg s.heap.objs.size g cdg :: X.stack) X.prog X.w H1 s1 Q E) s1 := by
    refine PySem.W.kla_callFunE room.depth there1 rfl L.co L.gen rfl ⟨c, oc, vs, t, rfl, hoc, hdc, hvc⟩ ?_
    rw [bind]
    refine wpAny_pure (wpAny_newFunctionEnv (fun y hy => (L.own y hy).2) (fun y hy => absurd hy (by simp)) (fun hh hns hsb => ⟨J.nolimit.fresh _ hsb, ?_⟩) L.kind)
    show codeAny _ _ (.expr body (LamX.lamEnv X scope s1.heap.objs.size f c)) _ _
    have keep : ∀ b o, s1.heap.get? b = some o → hh.get? b = some o := fun b o e => hsb.extBut b o (Nat.ne_of_lt (Heap.lt_size e)) (Heap.get?_push_of_some _ e)
    have start := (LamX.lam_start2 (E := E) (tk := s1.toks + ([] : List (Str × Value)).length) (f := f) (c' := c) I L J.env0 room.hd same hns keep).wish fun u t => wpAny (model X.prog X.w) ((X.A.deeper (envOfC qg sg s.heap.objs.size g cdg)).deeper (LamX.lamEnv X scope s1.heap.objs.size f c)) (leaving (LamX.lamEnv X scope s1.heap.objs.size f c) u)
      (fun _ t1 => L2N.CX X.prog X.w (envOfC qg sg s.heap.objs.size g cdg :: X.stack) H1 s1 E u t1) (fun u1 t1 => L2N.CX X.prog X.w (envOfC qg sg s.heap.objs.size g cdg :: X.stack) H1 s1 E u1 t1) t
    refine PySem.W.kla_codeExpr (wpAny_mono ((within _ _ s1 H1 E (room.deeper _)).run [] _ _ H1 Q start ht) (fun v s' hq => ?_) fun e s' hq => hq)
    obtain ⟨w', H', J', rv, q⟩ := hq
    exact ⟨w', H', J'.os, J'.bare, J'.base, J'.hok, rv, q⟩
  refine wpAny_call (codeAny_mono run fun r s' hq => ?_)
  cases r with
  | error e => exact tk e s' (L2N.XE.of_call J hW hq)
  | ok fl =>
    cases fl with
    | ret u => exact J.after hq
    | next => exact hq.elim
    | brk => exact hq.elim
    | cont => exact hq.elim
end
def toldO (o : Out T) : Out T := match o with
  | .ok _ h => .ok .non h
  | .ex (.fld c f t) h => if c = 11 ∧ f = "steps" then .ok t h else .bad
  | .ex (.txt _) _ => .bad
  | .bad => .bad
def tsTold (K : PySem.W.Frag) (cl : Nat → Addr) : Addr → Value → Option Addr → TS := fun a cls d D σ H =>
  ∃ (t : T) (d1 : Addr), cls = .ref (cl 11) ∧ d = some d1 ∧ tS K cl W0 (sRet (mFldX (exT a d1 (.fld 11 "steps" t)) (mVar 1))) D σ H
section
variable {Z : Cx} {cl : Nat → Addr} {k : Nat}
abbrev toldB (p1 p2 p3 p4 p5 p6 p7 p8 p9 p10 p11 : Pos) : List Stmt :=
  [.Try [.Expr (.Call (.Name "call" p1) [] [] p2) p3] [.ExceptHandler (some (.Name "AtRest" p4)) (some "e") [.Return (some (.Attribute (.Name "e" p5) "steps" p6)) p7] p8] [] [] p9, .Return (some (.Constant .none 0 p10)) p11]
theorem told_body {Wz : WX} {ta : WX → TE} {p1 p2 p3 p4 p5 p6 p7 p8 p9 p10 p11 : Pos} (hs : Z.stack = Z.env :: Z.outer) (hf : Z.env.frame = some Z.env.locals) (nd : Z.N.Nodup) (h1 : Z.N[1]? = some ("e" : Str)) (hl : Z.env.kindOf ("e" : Str) = some .local)
    (hc : Names Z "AtRest" (.ref (cl 11))) (tk : L2N.Takes Z Wz) (room : Room k Z.A) (exI : ExcI Z.K (cl 11)) (nf : PySem.W.findIn Z.K (.ref (cl 11)) "steps" = some none)
    (act : ∀ (W : WX) (pn : List (Addr × Obj)) (xe : Value → Shared → Prop), L2N.Takes (Z.tr pn xe) W → PE (Z.tr pn xe) (.Call (.Name "call" p1) [] [] p2) (ta W)) :
    PSs Z (toldB p1 p2 p3 p4 p5 p6 p7 p8 p9 p10 p11) fun D σ H => ta (wAs Z.K (.ref (cl 11)) 1 (tsTold Z.K cl) Wz { D with nx := fun _ H1 => D.rt .non H1 }) σ H fun _ H1 => D.rt .non H1 := by
  refine pss_cons (L2N.ps_try_as (tb := fun W D σ H => ta W σ H fun _ H1 => D.nx σ H1) (ts := tsTold Z.K cl) (Wout := Wz) hs hf nd h1 hl hc tk (fun W pn xe t _ => pss_one (ps_expr (act W pn xe t))) fun a oe cls d pn zn hf => ⟨fun pins s σ H D inv z => ?_⟩) (pss_one (ps_ret pe_non))
  obtain ⟨t, d1, e1, e2, z⟩ := z
  subst e1
  subst e2
  obtain ⟨vs, hv⟩ := hf
  have ox : OkX (Z.suite a ((a, oe) :: pn)) cl k a d1 oe (.fld 11 "steps" t) := ⟨nd, ⟨rfl, vs, hv, zn.2.2 vs hv⟩, List.mem_cons_self, ⟨room.dp, room.un⟩, zn⟩
  exact (pss_one (ks_ret (k_fldX ox exI nf (k_var (pe_var (i := 1) h1 (.inl hl)))))).run pins s σ H D inv z
end
section
theorem xd_free {K : PySem.W.Frag} {cl : Nat → Addr} {ω : Wd} {h : Store} {H : Hp} {dx : Addr} {fs : List (Str × V)} (S : StOk K cl ω h H) (hd : H dx = some (.xd fs)) : dx ∉ ω.rho := fun z => by
  obtain ⟨j, hj, ej⟩ := List.getElem_of_mem z
  have hj2 : j < h.length := by rw [← S.len]; exact hj
  have ck := S.cells j h[j] dx (List.getElem?_eq_getElem hj2) (by rw [List.getElem?_eq_getElem hj, ej])
  revert ck
  cases h[j] with
  | lst xs => exact fun ⟨_, vs, y, _⟩ => by rw [hd] at y; cases y
  | dK xs => exact fun ⟨_, vs, y, _⟩ => by rw [hd] at y; cases y
  | dT xs => exact fun ⟨_, vs, y, _⟩ => y.elim (fun y => absurd y.1 (by rw [hd]; exact fun w => by cases w)) fun y => absurd y.2 (by rw [hd]; exact fun w => by cases w)
  | dead => exact fun ⟨o, y, n⟩ => by rw [hd] at y; exact n _ (Option.some.inj y).symm
  | tab P F => exact fun ⟨_, ps, y, _⟩ => by rw [hd] at y; cases y
  | ins c xs => exact fun y => y.elim (fun ⟨_, _, vs, y, _⟩ => by rw [hd] at y; cases y) fun ⟨_, _, _, _, _, y, _⟩ => y.elim (fun y => absurd y.1 (by rw [hd]; exact fun w => by cases w)) fun y => absurd y.2 (by rw [hd]; exact fun w => by cases w)
end
section
variable {K : PySem.W.Frag} {cl : Nat → Addr} {Wm : WX} {ω : Wd} {H : Hp} {σ : L2.St} {env : Env'} {h : Store} {mb : M T} {Q : VK}
theorem told_fin {σ0 : L2.St} {nx : L2.St → Hp → Prop} {bk ct : L2.St → Hp → Prop} (h11 : PySem.W.exmOne K (.ref (cl 11)) (.ref (cl 11)) = some true) (he : EnvOk K ω env σ) (S : StOk K cl ω h H) (l0 : σ0.length = 2)
    (q : PostG K cl Wm ω H σ (toldO (mb env h)) fun t _ ω1 H1 => ∀ v, Rep K ω1 t v → Q v H1) :
    ∃ E : XK, (∀ cls d H1, E cls d H1 → wAs K (.ref (cl 11)) 1 (tsTold K cl) W0 { nx := nx, rt := Q, bk := bk, ct := ct } cls d σ0 H1) ∧ tE K cl (fun cls d _ H1 => E cls d H1) mb σ H fun _ H1 => Q .non H1 := by
  refine ⟨fun cls d H1 => wAs K (.ref (cl 11)) 1 (tsTold K cl) W0 { nx := nx, rt := Q, bk := bk, ct := ct } cls d σ0 H1, fun _ _ _ z => z, env, h, ω, he, S, ?_⟩
  revert q
  cases mb env h with
  | bad => exact fun q => q
  | ok u h1 => exact fun q ω1 H1 N1 S1 v r => q ω1 H1 N1 S1 .non rep_non
  | ex e h1 =>
    cases e with
    | txt c => exact fun q => q.elim
    | fld c f t =>
      intro q ω1 H1 cls d N1 S1 xo
      have q : PostG K cl Wm ω H σ (if c = 11 ∧ f = "steps" then Out.ok t h1 else Out.bad) fun t _ ω1 H1 => ∀ v, Rep K ω1 t v → Q v H1 := q
      by_cases both : c = 11 ∧ f = "steps"
      · rw [if_pos both] at q
        obtain ⟨rfl, rfl⟩ := both
        obtain ⟨rfl, up, dx, v, rfl, hd1, rv⟩ := xo
        refine ⟨true, h11, fun _ a na => ?_, fun z => nomatch z⟩
        have fixed : ∃ ω2, Nx ω1 H1 ω2 H1 ∧ StOk K cl ω2 h1 H1 ∧ ω2.Phi dx = some (.xd [("steps", v)]) := by
          cases hp : ω1.Phi dx with
          | none => exact ⟨_, Nx.fixX hp, S1.fixIt hd1 hp (xd_free S1 hd1), upd_same⟩
          | some o =>
            have := S1.phi dx o hp
            rw [hd1] at this
            cases this
            exact ⟨ω1, Nx.refl _ _, S1, hp⟩
        obtain ⟨ω2, N2, S2, hp⟩ := fixed
        refine ⟨t, dx, rfl, rfl, [none, some (exT a dx (.fld 11 "steps" t))], h1, ω2, ⟨by simp [l0], fun i u z => ?_⟩, S2, ?_⟩
        · match i, z with
          | 0, z => cases z
          | 1, z =>
            cases z
            exact ⟨.ref a, by rw [List.getElem?_set_self (by omega)], rfl, [v], fun _ => hp, Reps.one (rv.mono N2.toGr)⟩
          | j + 2, z => cases z
        · have ev : sRet (mFldX (exT a dx (.fld 11 "steps" t)) (mVar 1)) [none, some (exT a dx (.fld 11 "steps" t))] h1 = .rt t h1 := by
            simp only [sRet, mFldX, mVar, exT, List.getElem?_cons_succ, List.getElem?_cons_zero, bind_ok, if_true, bindE]
          rw [ev]
          exact fun ω3 H3 w N3 S3 r => q ω3 H3 (N1.trans (N2.trans N3)) S3 w r
      · rw [if_neg both] at q
        exact q.elim
end
open Classical in
noncomputable def mLam (i : Nat) (P : Addr) (q : Str) (mb : M T) : M T := fun env h => if h[i]? = some (.tab P (codeF q)) then toldO (mb env h) else .bad
section
variable {X : Cx} {W : WX} {cl : Nat → Addr} {k i : Nat} {mb : M T}
theorem k_lamcall {g P cd : Addr} {fd : FuncData} {pg params : Arguments} {sg scope : Scope} {body : Expr} {p lpos pos p1 p2 p3 p4 p5 p6 p7 p8 p9 p10 p11 : Pos} (co : Ok X W (k + 2)) (hg : Gl X "_law_rest_told") (hm : X.mg "_law_rest_told" = some (.ref g))
    (D : FunD X.K "_law_rest_told" "_law_rest_told" pg (toldB p1 p2 p3 p4 p5 p6 p7 p8 p9 p10 p11) sg [] [] g fd) (Sg : FnScope ["call", "e"] ["call"] sg) (hb : Binds X.K fd ["call"] [])
    (l0 : sg.names.lookup ("call" : Str) = some .local) (l1 : sg.names.lookup ("e" : Str) = some .local) (l2 : sg.names.lookup ("AtRest" : Str) = some .globalImplicit)
    (ha : X.mg "AtRest" = some (.ref (cl 11))) (exI : ExcI X.K (cl 11)) (nf : PySem.W.findIn X.K (.ref (cl 11)) "steps" = some none) (h11 : PySem.W.exmOne X.K (.ref (cl 11)) (.ref (cl 11)) = some true)
    (TB : LamX.TabB X.base X.mg cd P) (hcode : X.env.code = .ref cd) (L : LamX.LamS X.env.scope scope) (hdef : defaultsOf params X.env = ([], []))
    (bind : ∀ (q : Str) (clo : List (Str × Addr)) (pm cv ctv : Value), bindArgs (PySem.W.kla_fn "<lambda>" q params body scope clo pm cv ctv) ⟨[], []⟩ = pure [])
    (within : ∀ (A : Around) (outer : List Env) (s : Shared) (H : Hp) (E : XK) (f c : Addr), Ok (lamN X A outer s H E scope f c) (fun cls d _ H1 => E cls d H1) k → PE (lamN X A outer s H E scope f c) body (tE X.K cl (fun cls d _ H1 => E cls d H1) mb)) :
    PE X (.Call (.Name "_law_rest_told" p) [.Lambda params body scope lpos] [] pos) (tE X.K cl W (mLam i P (X.env.qual ++ "<lambda>") mb)) := by
  refine ⟨fun pins s σ H Q I ⟨env, h, ω, he, hS, q⟩ => ?_⟩
  unfold mLam at q
  split at q
  case isFalse => exact q.elim
  rename_i e
  obtain ⟨hr, ps, hP, ht, hc⟩ := tab_at hS e
  obtain ⟨oc, od, dV, kV, doc, pm0, an, cdv, ct, osl, rfl, lk, hcd, _, _⟩ := D.ex
  refine wpAny_Call_Name_kw (ld_glob I hg hm ?_ (by decide))
  refine PySem.W.callWith_K (h₀ := X.base) I.ok.mod.kin D.kp ?_ (by rfl) (by rfl)
  show wpAny _ _ (spliced ((false, eval (.Lambda params body scope lpos) X.env) :: backTo pos (starEach [] X.env))) _ _ s
  refine Calls.spliced_cons (lam_made I TB hcode hP ht (fun z cv y => (hc z cv y).imp fun c u => ⟨u.1, hS.phi c _ u.2⟩) hdef (L.has I.ok) fun f c pm ctv H1 s1 I1 md there nH nS => ?_)
  refine Calls.spliced_nil ⟨I1.kIn, ?_⟩
  obtain ⟨ω1, N1, S1, ec⟩ := made_ok hS e hP ht hc md
  have run : codeAny (model X.prog X.w) X.A (.call (.ref g) ⟨[.ref f], []⟩) (CR (L2N.CX X.prog X.w) X.stack X.prog X.w H1 s1 Q fun _ _ _ => False) s1 := by
    refine LamX.run_ofS (N := ["call", "e"]) (ps := ["call"]) (us := [.ref f]) (vs := [.ref f]) lk hcd Sg co.room I1.env0 (hb s1 [.ref f] I1.kIn rfl) (.cons rfl .nil) rfl fun room => ?_
    refine ⟨_, told_body (cl := cl) (k := k + 1) (Wz := W0) (ta := fun W1 σZ HZ Q => σZ[0]? = some (some (.ref f)) ∧ HZ c = some (LamX.CodeO c (X.env.qual ++ "<lambda>")) ∧ ∃ E : XK, (∀ cls d H1, E cls d H1 → W1 cls d σZ H1) ∧ tE X.K cl (fun cls d _ H1 => E cls d H1) mb σ HZ Q) rfl rfl Sg.nd rfl l1 ⟨l2, by decide, .inl ha⟩ tk0N room exI nf
      (fun W1 pn xe tk => lam_act (tb := fun E => tE X.K cl (fun cls d _ H1 => E cls d H1) mb) (i := 0) I1 L there nH nS (bind _ _ _ _ _) tk room (fun A outer s H E r => within A outer s H E f c (lamN_ok co.nd r)) rfl (.inl l0)), ?_⟩
    exact ⟨rfl, S1.phi c _ ec, told_fin h11 (he.mono N1.toGr) S1 rfl (q.later N1)⟩
  refine wpAny_call (codeAny_mono run fun r s2 hq => ?_)
  cases r with
  | error e =>
    obtain ⟨_, _, _, _, _, _, _, _, _, _, _, _, z⟩ := hq
    exact z.elim
  | ok fl =>
    cases fl with
    | ret u => exact I1.after hq
    | next => exact hq.elim
    | brk => exact hq.elim
    | cont => exact hq.elim
end
end Sm
namespace Sm
open PySem PySem.Spec PyProof.Rows L2
end Sm
namespace Sm
open PySem PySem.Spec PyProof.Rows L2
abbrev lamQ : Str := ("law" : Str) ++ (".<locals>." : Str) ++ ("<lambda>" : Str)
structure SaysV (fa : List He.Fa) (fn : List He.DefD) (ex : PySem.W.Frag → Bool) (d : He.Defn) (h : Heap) (K : PySem.W.Frag) : Prop where
  y : SaysY fa fn ex K
  code : PySem.W.codeHdIn K (He.cT K d).1 (He.cT K d).2 = true
  away : K.lookup (He.cT K d).2 = none
  bare : h.get? (He.cT K d).2 = some { cls := .none, data := .fields #[] }
def reachV (n : Nat) (g : Addr → Option Obj) : PySem.W.Frag := He.frT g (He.asD g n ++ [cStatics])
def obsV (n : Nat) (fa : List He.Fa) (fn : List He.DefD) (ex : PySem.W.Frag → Bool) (d : He.Defn) (g : Addr → Option Obj) : He.AlD × Bool × Bool := (He.obsD fa fn (reachV n g), ex (reachV n g), He.tabsB g [d] (reachV n g))
theorem saysV_of {n : Nat} {fa : List He.Fa} {fn : List He.DefD} {ex : PySem.W.Frag → Bool} {d : He.Defn} {h : Heap} (e : obsV n fa fn ex d h.get? = (He.valD fn, true, true)) : SaysV fa fn ex d h (reachV n h.get?) := by
  have e1 : He.obsD fa fn (reachV n h.get?) = He.valD fn := congrArg (fun z : He.AlD × Bool × Bool => z.1) e
  have e2 : ex (reachV n h.get?) = true := congrArg (fun z : He.AlD × Bool × Bool => z.2.1) e
  have e3 : He.tabsB h.get? [d] (reachV n h.get?) = true := congrArg (fun z : He.AlD × Bool × Bool => z.2.2) e
  have key := List.all_eq_true.mp e3 d List.mem_cons_self
  simp only [Bool.and_eq_true] at key
  obtain ⟨k1, k2⟩ := key
  cases q : h.get? (He.cT (reachV n h.get?) d).2 with
  | none => rw [q] at k2; cases k2
  | some o =>
    rw [q] at k2
    exact ⟨⟨e1, e2⟩, k1, He.frT_none q k2, by rw [q, He.emptyTab_eq k2]⟩
def hookV (n : Nat) (fa : List He.Fa) (fn : List He.DefD) (ex : PySem.W.Frag → Bool) (d : He.Defn) : PySem.W.Hook where
  α := He.AlD × Bool × Bool
  obs := fun s => obsV n fa fn ex d s.heap.get?
  val := fun _ => (He.valD fn, true, true)
  says := fun _ h => ∃ K : PySem.W.Frag, K.In h ∧ SaysV fa fn ex d h K
  of := fun _ _ e => ⟨_, He.frT_in, saysV_of e⟩
  keeps := fun _ _ _ ⟨K, inn, c⟩ k => ⟨K, PySem.W.Frag.In.keeps inn k, ⟨c.y, c.code, c.away, k _ _ c.bare⟩⟩
theorem obsV_eq {n : Nat} {fa : List He.Fa} {fn : List He.DefD} {ex : PySem.W.Frag → Bool} {d : He.Defn} {g : Addr → Option Obj} {s : Shared} (h : ∀ a, g a = s.heap.get? a) : obsV n fa fn ex d g = (hookV n fa fn ex d).obs s := by
  obtain rfl : g = s.heap.get? := funext h
  rfl
theorem q_fnV {P : Program} {w : World} {K : PySem.W.Frag} {mg : Str → Option Value} {base : Heap} {cl : Nat → Addr} {x qual : Str} {params : Arguments} {body : List Stmt} {scope : Scope} {d : He.Defn} {fd : FuncData} {N ps : List Str} {k nargs nslots : Nat} {keep : Bool} {sem : MS}
    (F : FunD K x qual params body scope [] [] (He.fAd K d) fd) (S : FnScope N ps scope) (hn : N.length = nslots) (hps : ps.length = nargs)
    (hB : ∀ (A : Around) (outer : List Env) (s : Shared) (H : Hp) (E : XK), Ok (cxOf (L2N.CX P w) P w K mg base N qual scope (He.fAd K d) (.ref (He.cT K d).1) A outer s H E) (fun cls d _ H => E cls d H) k →
      PSs (cxOf (L2N.CX P w) P w K mg base N qual scope (He.fAd K d) (.ref (He.cT K d).1) A outer s H E) body (tS K cl (fun cls d _ H => E cls d H) sem)) :
    FnOk P w K mg base (L2N.CX P w) (k + 1) (He.fAd K d) fd ps (spF K cl (fn nargs nslots keep sem) nargs) := by
  obtain ⟨oc, od, dV, kV, doc, pm, an, cdv, ct, osl, rfl, lk, hcd, _, _⟩ := F.ex
  obtain ⟨c, rfl⟩ := He.codeIn_ref hcd
  obtain rfl : (He.cT K d).1 = c := He.codeOf_eq lk rfl
  refine fn_of lk hcd S (fun vs H Q E h => h.1.trans hps.symm) fun A outer s H vs Q E hr h => ?_
  obtain ⟨hl, ts, h, ω, hS, hR, hP⟩ := h
  refine ⟨_, hB A outer s H E ⟨rfl, S.nd, L2N.takes_of rfl rfl rfl rfl, passes_of rfl, hr⟩, startE nslots ts, h, ω, startE_ok hn hR, hS, ?_⟩
  unfold fn at hP
  split at hP
  · exact fin_ok hS hP
  · exact hP.elim
theorem entry_ok {K : PySem.W.Frag} {cl : Nat → Addr} {H : Hp} {P : Addr} {F : Addr → HO} (hP : H P = some (.tbl #[])) : StOk K cl ⟨[P], fun b => if b = P then none else H b⟩ [.tab P F] H := by
  refine ⟨rfl, by simp, fun i c p hc hp => ?_, fun a o z => ?_, fun i p hp => ?_⟩
  · match i, hc, hp with
    | 0, hc, hp =>
      cases hc
      cases hp
      exact ⟨rfl, #[], hP, True.intro, fun pos cv z => by simp [codeAmong] at z⟩
    | j + 1, hc, hp => cases hc
  · by_cases q : a = P
    · have z : (if a = P then none else H a) = some o := z
      rw [if_pos q] at z
      cases z
    · have z : (if a = P then none else H a) = some o := z
      rw [if_neg q] at z
      exact z
  · match i, hp with
    | 0, hp =>
      cases hp
      exact .inr (if_pos rfl)
    | j + 1, hp => cases hp
theorem sqL_away {K : PySem.W.Frag} {H : Hp} {a P : Addr} {xs : List V} (s : SqL K H a xs) (hP : H P = some (.tbl #[])) : SqL K (fun b => if b = P then none else H b) a xs := by
  have other : ∀ {o : HO}, H a = some o → o ≠ .tbl #[] → (fun b => if b = P then none else H b) a = some o := fun {o} e n => by
    have q : a ≠ P := fun z => by
      rw [z, hP] at e
      exact n (Option.some.inj e).symm
    show (if a = P then none else H a) = some o
    rw [if_neg q]
    exact e
  rcases s with (r | ⟨o, r⟩) | r
  · exact .inl (.inl (other r fun z => by cases z))
  · exact .inl (.inr ⟨o, other r fun z => by cases z⟩)
  · exact .inr r
theorem walk_ofV {l : PySem.W.OpenLaw} {n k : Nat} {q : Program} {loose : List Str} {XP : (Str → Option Value) → Heap → Prop} {YP : World → Heap → Prop} {d : DefRec} {x z : Str} {F : Addr → Fn}
    (hn : l.most = some n) (hn2 : n ≤ sizeLine) (hdf : d.params.defaults = []) (hr : Room k callerA)
    (hF : ∀ (w : World) (mg : Str → Option Value) (fa : Addr) (h : Heap), YP w h → h.Ns mainGlobals mg → mg d.name = some (.ref fa) → ∃ (K : PySem.W.Frag) (cl : Nat → Addr) (fd : FuncData) (c P : Addr), K.In h ∧ (∀ (s : Shared) (u : Value), BindsTo s fd ⟨[u], []⟩ [(x, u)]) ∧
      (h.get? P = some { cls := .none, data := .fields #[] } ∧ K.lookup P = none ∧ PySem.W.CodeHd h c P) ∧ ∀ base : Heap, K.In base → base.Ns mainGlobals mg → LamX.TabB base mg c P → FnOk l.prog w K mg base (L2N.CX l.prog w) k fa fd [x] (spF K cl (F P) 1))
    (hL : ∀ (P : Addr) (ns : List Int), ns.length ≤ n → ∃ h', F P [.scr ns] [.tab P (codeF z)] = .ok (.bl true) h') :
    PySem.W.WalkO q loose XP YP l.row.toRowW d [] (fun f vs => PySem.call f vs) := by
  refine Att.attach_call hn hdf fun w _ s1 mg _ fa _ _ _ _ a vs ns G Y _ _ _ mgd lies arei most gens => ?_
  have ⟨K, cl, fd, c, P, KX, bind1, ⟨t1, t2, t3⟩, ok1⟩ := hF w mg fa _ Y G.T.g mgd
  refine LamX.law_callTs (CX := L2N.CX l.prog w) (cs := [(c, P)]) KX G.T.g G.T.b G.T.builtins G.T.nolimit gens (fun p hp => ?_) (fun p hp => ?_) (fun p hp => ?_) G.T.bmain lies arei (Nat.le_trans most hn2) hr (fun base k1 k2 k3 => ok1 base k1 k2 (k3 _ List.mem_cons_self)) bind1
    (fun H hT sq => ⟨rfl, [.scr ns], [.tab P (codeF z)], ⟨[P], fun b => if b = P then none else H b⟩, entry_ok (hT _ List.mem_cons_self), Reps.one ?_, ?_⟩) ?_
  · obtain rfl := List.mem_singleton.mp hp
    exact t1
  · obtain rfl := List.mem_singleton.mp hp
    exact t2
  · obtain rfl := List.mem_singleton.mp hp
    exact t3
  · simp only [Rep]
    refine ⟨a, rfl, ?_⟩
    exact sqL_away sq (hT _ List.mem_cons_self)
  · have ⟨h', e⟩ := hL P ns most
    rw [e]
    intro _ _ _ _ v r
    exact r.bl_inv
  · intro H e s' z
    obtain ⟨_, _, _, _, _, _, _, _, _, _, _, _, z⟩ := z
    exact z.elim
end Sm
namespace Gd
open PySem PySem.Spec PyProof.Rows L2 Sm
noncomputable section
def t_PRIMES : T := (.tup (([2, 3, 5, 7, 11, 13, 17, 19, 23, 29] : List Int).map T.int))
def b_law_pot : MS := (sSeq (sIf (mTst (mBin fGe (mVar 0) (mBin fPow (mC (.int 10)) (mC (.int 18)))))
  (sRet (mCell (mLst (mCons (mBin fSub (mVar 0) (mBin fPow (mC (.int 10)) (mC (.int 18)))) mNil))))
  sNil)
  (sSeq (sSet 1 (mC (.int 0)))
  (sSeq (sFor (mRange1 (mCons (mC (.int 64)) mNil)) (.one 2) [2, 3]
  (sSeq (sSet 3 (mBin fMod (mBin fMul (mBin fAdd (mBin fAdd (mBin fMod (mVar 0) (mC (.int 2147483629))) (mBin fMul (mC (.int 7919)) (mVar 2))) (mC (.int 1))) (mC (.int 48271))) (mC (.int 2147483647))))
  (sSeq (sSet 3 (mBin fMod (mBin fAdd (mBin fAdd (mBin fMul (mVar 3) (mVar 3)) (mBin fMul (mC (.int 69621)) (mVar 2))) (mC (.int 7))) (mC (.int 2147483587))))
  (sSet 1 (mBin fAdd (mBin fMul (mVar 1) (mC (.int 2147483587))) (mVar 3))))))
  (sRet (mCell (mLst (mCons (mVar 1) mNil)))))))
def F_law_pot : Fn := fn 1 4 true b_law_pot
def b_law_take : MS := (sSeq (sSet 2 (mBin fMod (mBin fIdx (mVar 0) (mC (.int 0))) (mVar 1)))
  (sSeq (sItem (mBin fFdiv (mBin fIdx (mVar 0) (mC (.int 0))) (mVar 1)) (mVar 0) (mC (.int 0)))
  (sRet (mVar 2))))
def F_law_take : Fn := fn 2 3 false b_law_take
def b_found_powers : MS := (sSeq (sSet 1 (mCell (mLst mNil)))
  (sSeq (sFor (mSeq (mC t_PRIMES)) (.one 3) [2, 3]
  (sSeq (sSet 2 (mC (.int 0)))
  (sSeq (sWhile (mTst (mBin fEq (mBin fMod (mVar 0) (mVar 3)) (mC (.int 0)))) []
  (sSeq (sSet 0 (mBin fFdiv (mVar 0) (mVar 3)))
  (sSet 2 (mBin fAdd (mVar 2) (mC (.int 1))))))
  (sExp (mMethL fAppend (mVar 1) (mCons (mVar 2) mNil))))))
  (sSeq (sIf (mTst (mBin fNe (mVar 0) (mC (.int 1))))
  (sRet (mC .non))
  sNil)
  (sRet (mCallF fTuple (mCons (mVar 1) mNil))))))
def F_found_powers : Fn := fn 1 4 false b_found_powers
def b_law_cell_at : MS := (sSeq (sIf (mTst (mBin fLt (mVar 1) (mCallF fLen (mCons (mVar 0) mNil))))
  (sRet (mBin fIdx (mVar 0) (mVar 1)))
  sNil)
  (sRet (mC (.int 0))))
def F_law_cell_at : Fn := fn 2 2 false b_law_cell_at
def b_Ways_first : MS := (sSeq (sFor (mEnum (mCons (mFld 0 "wants" (mVar 0)) mNil)) (.tup [2, 3]) [0, 2, 3]
  (sIf (mTru (mCallF fAll (mCons (mFrz (mComp (mZip (mCons (mVar 1) (mCons (mVar 3) mNil))) [4, 5] (.tup [4, 5]) mYes (mBin fGe (mVar 4) (mVar 5)))) mNil)))
  (sRet (mVar 2))
  sNil))
  (sRet (mC .non)))
def F_Ways_first : Fn := fn 2 6 false b_Ways_first
def b_bottoms_of : MS := (sRet (mFrz (mComp (mSeq (mVar 0)) [1, 2] (.tup [1, 2]) mYes (mCall F_found_powers (mCons (mVar 2) mNil)))))
def F_bottoms_of : Fn := fn 1 3 false b_bottoms_of
def b_tops_of : MS := (sRet (mFrz (mComp (mSeq (mVar 0)) [1, 2] (.tup [1, 2]) mYes (mCall F_found_powers (mCons (mVar 1) mNil)))))
def F_tops_of : Fn := fn 1 3 false b_tops_of
def b_changes_of : MS := (sSeq (sSet 1 (mCell (mLst mNil)))
  (sSeq (sFor (mZip (mCons (mCall F_tops_of (mCons (mVar 0) mNil)) (mCons (mCall F_bottoms_of (mCons (mVar 0) mNil)) mNil))) (.tup [3, 2]) [0, 2, 3]
  (sExp (mMethL fAppend (mVar 1) (mCons (mCallF fTuple (mCons (mFrz (mComp (mZip (mCons (mVar 3) (mCons (mVar 2) mNil))) [4, 5] (.tup [4, 5]) mYes (mBin fSub (mVar 4) (mVar 5)))) mNil)) mNil))))
  (sRet (mVar 1))))
def F_changes_of : Fn := fn 1 6 false b_changes_of
def b_Ways_init : MS := (sSeq (sFld 0 "wants" (mCall F_bottoms_of (mCons (mVar 1) mNil)) (mVar 0))
  (sFld 0 "adds" (mCall F_changes_of (mCons (mVar 1) mNil)) (mVar 0)))
def F_Ways_init : Fn := fn 2 2 true b_Ways_init
def b_first_fit : MS := (sRet (mMeth 0 "first" F_Ways_first (mNew 0 F_Ways_init (mCons (mVar 0) mNil)) (mCons (mVar 1) mNil)))
def F_first_fit : Fn := fn 2 2 false b_first_fit
def b_Ways_gone : MS := (sRet (mCallF fTuple (mCons (mFrz (mComp (mZip (mCons (mVar 1) (mCons (mBin fIdx (mFld 0 "adds" (mVar 0)) (mVar 2)) mNil))) [4, 5] (.tup [4, 5]) mYes (mBin fAdd (mVar 4) (mBin fMul (mVar 3) (mVar 5))))) mNil)))
def F_Ways_gone : Fn := fn 4 6 false b_Ways_gone
def b_after : MS := (sSeq (sSet 3 (mNew 0 F_Ways_init (mCons (mVar 0) mNil)))
  (sSeq (sFor (mRange1 (mCons (mVar 2) mNil)) (.one 4) [0, 2, 4, 5]
  (sSeq (sSet 5 (mMeth 0 "first" F_Ways_first (mVar 3) (mCons (mVar 1) mNil)))
  (sSeq (sIf (mTst (mBin fIs (mVar 5) (mC .non)))
  (sRaiseF 11 "steps" (mVar 4))
  sNil)
  (sSet 1 (mMeth 0 "gone" F_Ways_gone (mVar 3) (mCons (mVar 1) (mCons (mVar 5) (mCons (mC (.int 1)) mNil))))))))
  (sRet (mVar 1))))
def F_after : Fn := fn 3 6 false b_after
def b_step : MS := (sRet (mCall F_after (mCons (mVar 0) (mCons (mVar 1) (mCons (mC (.int 1)) mNil)))))
def F_step : Fn := fn 2 2 false b_step
def b_law_machine : MS := (sSeq (sSet 3 (mBin fAdd (mC (.int 1)) (mCall F_law_take (mCons (mVar 0) (mCons (mVar 1) mNil)))))
  (sSeq (sSet 4 (mBin fAdd (mC (.int 1)) (mCall F_law_take (mCons (mVar 0) (mCons (mVar 2) mNil)))))
  (sSeq (sSet 5 (mCell (mLst mNil)))
  (sSeq (sFor (mRange1 (mCons (mVar 4) mNil)) (.one 7) [1, 2, 6, 7]
  (sSeq (sSet 6 (mCall F_law_take (mCons (mVar 0) (mCons (mVar 3) mNil))))
  (sIf (mTst (mBin fEq (mCall F_law_take (mCons (mVar 0) (mCons (mC (.int 2)) mNil))) (mC (.int 0))))
  (sExp (mMethL fAppend (mVar 5) (mCons (mTup (mCons (mC (.str "add")) (mCons (mVar 6) (mCons (mCall F_law_take (mCons (mVar 0) (mCons (mBin fAdd (mVar 4) (mC (.int 1))) mNil))) mNil)))) mNil)))
  (sExp (mMethL fAppend (mVar 5) (mCons (mTup (mCons (mC (.str "take")) (mCons (mVar 6) (mCons (mCall F_law_take (mCons (mVar 0) (mCons (mBin fAdd (mVar 4) (mC (.int 1))) mNil))) (mCons (mCall F_law_take (mCons (mVar 0) (mCons (mBin fAdd (mVar 4) (mC (.int 1))) mNil))) mNil))))) mNil))))))
  (sRet (mTup (mCons (mVar 3) (mCons (mCallF fTuple (mCons (mVar 5) mNil)) mNil))))))))
def F_law_machine : Fn := fn 3 8 false b_law_machine
def b_law_stand : MS := (sRet (mTup (mCons (mCall F_law_take (mCons (mVar 0) (mCons (mBin fAdd (mCallF fLen (mCons (mBin fIdx (mVar 1) (mC (.int 1))) mNil)) (mC (.int 1))) mNil))) (mCons (mCallF fTuple (mCons (mFrz (mComp (mRange1 (mCons (mBin fIdx (mVar 1) (mC (.int 0))) mNil)) [2] (.one 2) mYes (mCall F_law_take (mCons (mVar 0) (mCons (mC (.int 5)) mNil))))) mNil)) mNil))))
def F_law_stand : Fn := fn 2 3 false b_law_stand
def b_law_led : MS := (sSeq (sAsg (.tup [2, 3]) (mVar 1))
  (sSeq (sSet 4 (mBin fIdx (mBin fIdx (mVar 0) (mC (.int 1))) (mVar 2)))
  (sSeq (sSet 5 (mBin fIdx (mVar 3) (mBin fIdx (mVar 4) (mC (.int 1)))))
  (sSeq (sIf (mTst (mBin fEq (mBin fIdx (mVar 4) (mC (.int 0))) (mC (.str "add"))))
  (sRet (mTup (mCons (mBin fIdx (mVar 4) (mC (.int 2))) (mCons (mBin fAdd (mBin fAdd (mSl (mVar 3) (mPart none) (mPart (some (mBin fIdx (mVar 4) (mC (.int 1)))))) (mTup (mCons (mBin fAdd (mVar 5) (mC (.int 1))) mNil))) (mSl (mVar 3) (mPart (some (mBin fAdd (mBin fIdx (mVar 4) (mC (.int 1))) (mC (.int 1))))) (mPart none))) mNil))))
  sNil)
  (sSeq (sIf (mTst (mBin fEq (mVar 5) (mC (.int 0))))
  (sRet (mTup (mCons (mBin fIdx (mVar 4) (mC (.int 3))) (mCons (mVar 3) mNil))))
  sNil)
  (sRet (mTup (mCons (mBin fIdx (mVar 4) (mC (.int 2))) (mCons (mBin fAdd (mBin fAdd (mSl (mVar 3) (mPart none) (mPart (some (mBin fIdx (mVar 4) (mC (.int 1)))))) (mTup (mCons (mBin fSub (mVar 5) (mC (.int 1))) mNil))) (mSl (mVar 3) (mPart (some (mBin fAdd (mBin fIdx (mVar 4) (mC (.int 1))) (mC (.int 1))))) (mPart none))) mNil)))))))))
def F_law_led : Fn := fn 2 6 false b_law_led
def b_law_stands : MS := (sSeq (sSet 3 (mCell (mLst (mCons (mVar 1) mNil))))
  (sSeq (sWhile (mAndT (mTst (mBin fLe (mCallF fLen (mCons (mVar 3) mNil)) (mVar 2))) (mTst (mBin fLt (mBin fIdx (mBin fIdx (mVar 3) (mUn fNeg (mC (.int 1)))) (mC (.int 0))) (mCallF fLen (mCons (mBin fIdx (mVar 0) (mC (.int 1))) mNil))))) [1]
  (sExp (mMethL fAppend (mVar 3) (mCons (mCall F_law_led (mCons (mVar 0) (mCons (mBin fIdx (mVar 3) (mUn fNeg (mC (.int 1)))) mNil))) mNil))))
  (sRet (mVar 3))))
def F_law_stands : Fn := fn 3 4 false b_law_stands
def b_machine_after : MS := (sSeq (sSet 3 (mBin fIdx (mVar 0) (mC (.int 1))))
  (sSeq (sAsg (.tup [4, 5]) (mVar 1))
  (sSeq (sSet 5 (mCell (mNewA fList (mCons (mVar 5) mNil))))
  (sSeq (sFor (mRange1 (mCons (mVar 2) mNil)) (.one 6) [0, 1, 2, 6, 7]
  (sSeq (sIf (mTst (mBin fEq (mVar 4) (mCallF fLen (mCons (mVar 3) mNil))))
  (sRaiseF 11 "steps" (mVar 6))
  sNil)
  (sSeq (sSet 7 (mBin fIdx (mVar 3) (mVar 4)))
  (sSeq (sSet 4 (mBin fIdx (mVar 7) (mC (.int 2))))
  (sIf (mTst (mBin fEq (mBin fIdx (mVar 7) (mC (.int 0))) (mC (.str "add"))))
  (sItem (mBin fAdd (mBin fIdx (mVar 5) (mBin fIdx (mVar 7) (mC (.int 1)))) (mC (.int 1))) (mVar 5) (mBin fIdx (mVar 7) (mC (.int 1))))
  (sIf (mTst (mBin fGt (mBin fIdx (mVar 5) (mBin fIdx (mVar 7) (mC (.int 1)))) (mC (.int 0))))
  (sItem (mBin fSub (mBin fIdx (mVar 5) (mBin fIdx (mVar 7) (mC (.int 1)))) (mC (.int 1))) (mVar 5) (mBin fIdx (mVar 7) (mC (.int 1))))
  (sSet 4 (mBin fIdx (mVar 7) (mC (.int 3))))))))))
  (sRet (mTup (mCons (mVar 4) (mCons (mCallF fTuple (mCons (mVar 5) mNil)) mNil))))))))
def F_machine_after : Fn := fn 3 8 false b_machine_after
def b_prime_of : MS := (sSeq (sAsg (.tup [3, 4]) (mVar 0))
  (sSeq (sIf (mTst (mBin fEq (mVar 1) (mCallF fLen (mCons (mVar 4) mNil))))
  (sRet (mC (.int 1)))
  sNil)
  (sRet (mBin fIdx (mC t_PRIMES) (mBin fAdd (mBin fAdd (mVar 3) (mBin fMul (mC (.int 2)) (mVar 1))) (mCallF fInt (mCons (mVar 2) mNil)))))))
def F_prime_of : Fn := fn 3 5 false b_prime_of
def b_program_of : MS := (sSeq (sAsg (.tup [1, 2]) (mVar 0))
  (sSeq (sIf (mTst (mBin fGt (mBin fAdd (mVar 1) (mBin fMul (mC (.int 2)) (mCallF fLen (mCons (mVar 2) mNil)))) (mCallF fLen (mCons (mC t_PRIMES) mNil))))
  (sRaise (.txt 12))
  sNil)
  (sSeq (sSet 3 (mCell (mLst mNil)))
  (sSeq (sFor (mEnum (mCons (mVar 2) mNil)) (.tup [5, 7]) [1, 2, 4, 5, 6, 7, 8]
  (sFor (mSeq (mFrz (mLst (mCons (mC (.bl false)) (mCons (mC (.bl true)) mNil))))) (.one 8) [1, 2, 4, 6, 8]
  (sSeq (sSet 6 (mCall F_prime_of (mCons (mVar 0) (mCons (mVar 5) (mCons (mVar 8) mNil)))))
  (sSeq (sSet 4 (mCall F_prime_of (mCons (mVar 0) (mCons (mBin fIdx (mVar 7) (mC (.int 2))) (mCons (mNotV (mVar 8)) mNil)))))
  (sIf (mTst (mBin fEq (mBin fIdx (mVar 7) (mC (.int 0))) (mC (.str "add"))))
  (sExp (mMethL fAppend (mVar 3) (mCons (mTup (mCons (mBin fMul (mBin fIdx (mC t_PRIMES) (mBin fIdx (mVar 7) (mC (.int 1)))) (mVar 4)) (mCons (mVar 6) mNil))) mNil)))
  (sSeq (sExp (mMethL fAppend (mVar 3) (mCons (mTup (mCons (mVar 4) (mCons (mBin fMul (mVar 6) (mBin fIdx (mC t_PRIMES) (mBin fIdx (mVar 7) (mC (.int 1))))) mNil))) mNil)))
  (sExp (mMethL fAppend (mVar 3) (mCons (mTup (mCons (mCall F_prime_of (mCons (mVar 0) (mCons (mBin fIdx (mVar 7) (mC (.int 3))) (mCons (mNotV (mVar 8)) mNil)))) (mCons (mVar 6) mNil))) mNil)))))))))
  (sRet (mCallF fTuple (mCons (mVar 3) mNil)))))))
def F_program_of : Fn := fn 1 9 false b_program_of
def b_stand_powers : MS := (sSeq (sAsg (.tup [3, 4]) (mVar 0))
  (sSeq (sAsg (.tup [5, 6]) (mVar 1))
  (sSeq (sSet 7 (mCell (mNew2 fCat (mFrz (mNewA fList (mCons (mVar 6) mNil))) (mBin fMul (mFrz (mLst (mCons (mC (.int 0)) mNil))) (mBin fSub (mCallF fLen (mCons (mC t_PRIMES) mNil)) (mVar 3))))))
  (sSeq (sIf (mTst (mBin fLt (mVar 5) (mCallF fLen (mCons (mVar 4) mNil))))
  (sItem (mC (.int 1)) (mVar 7) (mBin fAdd (mBin fAdd (mVar 3) (mBin fMul (mC (.int 2)) (mVar 5))) (mCallF fInt (mCons (mVar 2) mNil))))
  sNil)
  (sRet (mCallF fTuple (mCons (mVar 7) mNil)))))))
def F_stand_powers : Fn := fn 3 8 false b_stand_powers
def b_law_k75 (P : Addr) : MS := (sSeq (sFor (mRange3 (mCons (mC (.int 0)) (mCons (mC (.int 6)) (mCons (mC (.int 2)) mNil)))) (.one 2) [1, 2, 3, 4, 5, 6, 7, 8, 9]
  (sSeq (sSet 3 (mCall F_law_machine (mCons (mCall F_law_pot (mCons (mCall F_law_cell_at (mCons (mVar 0) (mCons (mVar 2) mNil))) mNil)) (mCons (mC (.int 4)) (mCons (mC (.int 3)) mNil)))))
  (sSeq (sSet 5 (mCall F_program_of (mCons (mVar 3) mNil)))
  (sSeq (sSet 8 (mCall F_law_stand (mCons (mCall F_law_pot (mCons (mCall F_law_cell_at (mCons (mVar 0) (mCons (mBin fAdd (mVar 2) (mC (.int 1))) mNil))) mNil)) (mCons (mVar 3) mNil))))
  (sSeq (sSet 6 (mCall F_law_stands (mCons (mVar 3) (mCons (mVar 8) (mCons (mC (.int 40)) mNil)))))
  (sFor (mSeq (mFrz (mLst (mCons (mC (.int 0)) (mCons (mC (.int 1)) mNil))))) (.one 7) [1, 2, 4, 7, 9]
  (sSeq (sSet 4 (mCall F_stand_powers (mCons (mVar 3) (mCons (mVar 8) (mCons (mBin fEq (mVar 7) (mC (.int 1))) mNil)))))
  (sSeq (sFor (mRange1 (mCons (mCallF fLen (mCons (mVar 6) mNil)) mNil)) (.one 9) [1, 2, 9]
  (sSeq (sIf (mTst (mBin fNe (mVar 4) (mCall F_stand_powers (mCons (mVar 3) (mCons (mBin fIdx (mVar 6) (mVar 9)) (mCons (mBin fEq (mBin fMod (mBin fAdd (mVar 7) (mVar 9)) (mC (.int 2))) (mC (.int 1))) mNil))))))
  (sRet (mC (.bl false)))
  sNil)
  (sSeq (sIf (mTst (mBin fNe (mBin fIs (mCall F_first_fit (mCons (mVar 5) (mCons (mVar 4) mNil))) (mC .non)) (mBin fEq (mBin fIdx (mBin fIdx (mVar 6) (mVar 9)) (mC (.int 0))) (mCallF fLen (mCons (mBin fIdx (mVar 3) (mC (.int 1))) mNil)))))
  (sRet (mC (.bl false)))
  sNil)
  (sIf (mTst (mBin fLt (mBin fAdd (mVar 9) (mC (.int 1))) (mCallF fLen (mCons (mVar 6) mNil))))
  (sSet 4 (mCall F_step (mCons (mVar 5) (mCons (mVar 4) mNil))))
  sNil))))
  (sSeq (sSet 1 (mCall F_stand_powers (mCons (mVar 3) (mCons (mVar 8) (mCons (mBin fEq (mVar 7) (mC (.int 1))) mNil)))))
  (sIf (mTst (mBin fLe (mCallF fLen (mCons (mVar 6) mNil)) (mC (.int 40))))
  (sSeq (sIf (mTst (mBin fNe (mLam 0 P lamQ (mCall F_after (mCons (mVar 5) (mCons (mVar 1) (mCons (mC (.int 40)) mNil))))) (mBin fSub (mCallF fLen (mCons (mVar 6) mNil)) (mC (.int 1)))))
  (sRet (mC (.bl false)))
  sNil)
  (sIf (mTst (mBin fNe (mLam 0 P lamQ (mCall F_machine_after (mCons (mVar 3) (mCons (mVar 8) (mCons (mC (.int 40)) mNil))))) (mBin fSub (mCallF fLen (mCons (mVar 6) mNil)) (mC (.int 1)))))
  (sRet (mC (.bl false)))
  sNil))
  (sIf (mTst (mBin fNe (mCall F_after (mCons (mVar 5) (mCons (mVar 1) (mCons (mC (.int 40)) mNil)))) (mCall F_stand_powers (mCons (mVar 3) (mCons (mBin fIdx (mVar 6) (mC (.int 40))) (mCons (mBin fEq (mVar 7) (mC (.int 1))) mNil))))))
  (sRet (mC (.bl false)))
  sNil)))))))))))
  (sRet (mC (.bl true))))
def F_law_k75 : Addr → Fn := fun P => fn 1 10 false (b_law_k75 P)
end
end Gd
section
set_option maxHeartbeats 4000000
namespace K75
open PySem PySem.Spec PyProof.Rows L2 Sm Gd
def topS (i : Nat) : Stmt := PySem.Challenge.pw_wholefract_k75_whole_machine_and_program.main.body.getD i (.Pass ⟨0, 0, 0, 0⟩)
def clsS (i j : Nat) : Stmt := match topS i with
  | .ClassDef _ _ _ body _ _ _ _ _ _ _ => body.getD j (.Pass ⟨0, 0, 0, 0⟩)
  | _ => .Pass ⟨0, 0, 0, 0⟩
abbrev s_law_take : Stmt := topS 24
theorem sc_law_take : FnScope ["pot", "far", "found"] ["pot", "far"] (defScope s_law_take) := ⟨rfl, rfl, rfl, by decide +kernel, rfl, by decide +kernel, by decide +kernel⟩
abbrev s_law_machine : Stmt := topS 25
theorem sc_law_machine : FnScope ["pot", "most_counters", "most_rows", "many", "size", "rows", "counter", "k"] ["pot", "most_counters", "most_rows"] (defScope s_law_machine) := ⟨rfl, rfl, rfl, by decide +kernel, rfl, by decide +kernel, by decide +kernel⟩
abbrev s_prime_of : Stmt := topS 13
theorem sc_prime_of : FnScope ["machine", "row", "second", "many", "rows"] ["machine", "row", "second"] (defScope s_prime_of) := ⟨rfl, rfl, rfl, by decide +kernel, rfl, by decide +kernel, by decide +kernel⟩
abbrev s_program_of : Stmt := topS 14
theorem sc_program_of : FnScope ["machine", "many", "rows", "found", "ahead", "number", "own", "row", "second"] ["machine"] (defScope s_program_of) := ⟨rfl, rfl, rfl, by decide +kernel, rfl, by decide +kernel, by decide +kernel⟩
abbrev s_law_stand : Stmt := topS 26
theorem sc_law_stand : FnScope ["pot", "machine", "k"] ["pot", "machine"] (defScope s_law_stand) := ⟨rfl, rfl, rfl, by decide +kernel, rfl, by decide +kernel, by decide +kernel⟩
abbrev s_law_led : Stmt := topS 27
theorem sc_law_led : FnScope ["machine", "stand", "at", "values", "row", "value"] ["machine", "stand"] (defScope s_law_led) := ⟨rfl, rfl, rfl, by decide +kernel, rfl, by decide +kernel, by decide +kernel⟩
abbrev s_law_stands : Stmt := topS 28
theorem sc_law_stands : FnScope ["machine", "stand", "many", "found"] ["machine", "stand", "many"] (defScope s_law_stands) := ⟨rfl, rfl, rfl, by decide +kernel, rfl, by decide +kernel, by decide +kernel⟩
abbrev s_law_pot : Stmt := topS 23
theorem sc_law_pot : FnScope ["cell", "number", "j", "more"] ["cell"] (defScope s_law_pot) := ⟨rfl, rfl, rfl, by decide +kernel, rfl, by decide +kernel, by decide +kernel⟩
abbrev s_stand_powers : Stmt := topS 15
theorem sc_stand_powers : FnScope ["machine", "stand", "second", "many", "rows", "at", "values", "found"] ["machine", "stand", "second"] (defScope s_stand_powers) := ⟨rfl, rfl, rfl, by decide +kernel, rfl, by decide +kernel, by decide +kernel⟩
abbrev s_law_cell_at : Stmt := topS 22
theorem sc_law_cell_at : FnScope ["script", "k"] ["script", "k"] (defScope s_law_cell_at) := ⟨rfl, rfl, rfl, by decide +kernel, rfl, by decide +kernel, by decide +kernel⟩
abbrev s_found_powers : Stmt := topS 7
theorem sc_found_powers : FnScope ["number", "found", "often", "prime"] ["number"] (defScope s_found_powers) := ⟨rfl, rfl, rfl, by decide +kernel, rfl, by decide +kernel, by decide +kernel⟩
abbrev s_bottoms_of : Stmt := topS 9
theorem sc_bottoms_of : FnScope ["program", "top", "bottom"] ["program"] (defScope s_bottoms_of) := ⟨rfl, rfl, rfl, by decide +kernel, rfl, by decide +kernel, by decide +kernel⟩
abbrev s_tops_of : Stmt := topS 8
theorem sc_tops_of : FnScope ["program", "top", "bottom"] ["program"] (defScope s_tops_of) := ⟨rfl, rfl, rfl, by decide +kernel, rfl, by decide +kernel, by decide +kernel⟩
abbrev s_changes_of : Stmt := topS 10
theorem sc_changes_of : FnScope ["program", "found", "bottom", "top", "one", "other"] ["program"] (defScope s_changes_of) := ⟨rfl, rfl, rfl, by decide +kernel, rfl, by decide +kernel, by decide +kernel⟩
abbrev s_Ways_init : Stmt := clsS 17 0
theorem sc_Ways_init : FnScope ["self", "program"] ["self", "program"] (defScope s_Ways_init) := ⟨rfl, rfl, rfl, by decide +kernel, rfl, by decide +kernel, by decide +kernel⟩
abbrev s_Ways_first : Stmt := clsS 17 1
theorem sc_Ways_first : FnScope ["self", "powers", "number", "want", "one", "other"] ["self", "powers"] (defScope s_Ways_first) := ⟨rfl, rfl, rfl, by decide +kernel, rfl, by decide +kernel, by decide +kernel⟩
abbrev s_Ways_gone : Stmt := clsS 17 2
theorem sc_Ways_gone : FnScope ["self", "powers", "number", "many", "one", "more"] ["self", "powers", "number", "many"] (defScope s_Ways_gone) := ⟨rfl, rfl, rfl, by decide +kernel, rfl, by decide +kernel, by decide +kernel⟩
abbrev s_after : Stmt := topS 20
theorem sc_after : FnScope ["program", "powers", "many", "ways", "done", "number"] ["program", "powers", "many"] (defScope s_after) := ⟨rfl, rfl, rfl, by decide +kernel, rfl, by decide +kernel, by decide +kernel⟩
abbrev s_step : Stmt := topS 19
theorem sc_step : FnScope ["program", "powers"] ["program", "powers"] (defScope s_step) := ⟨rfl, rfl, rfl, by decide +kernel, rfl, by decide +kernel, by decide +kernel⟩
abbrev s_first_fit : Stmt := topS 18
theorem sc_first_fit : FnScope ["program", "powers"] ["program", "powers"] (defScope s_first_fit) := ⟨rfl, rfl, rfl, by decide +kernel, rfl, by decide +kernel, by decide +kernel⟩
abbrev s_machine_after : Stmt := topS 12
theorem sc_machine_after : FnScope ["machine", "stand", "many", "rows", "at", "values", "done", "row"] ["machine", "stand", "many"] (defScope s_machine_after) := ⟨rfl, rfl, rfl, by decide +kernel, rfl, by decide +kernel, by decide +kernel⟩
abbrev s_law : Stmt := topS 30
theorem sc_law : FnScope ["script", "begin", "k", "machine", "now", "program", "rows", "second", "stand", "turn"] ["script"] (defScope s_law) := ⟨rfl, rfl, rfl, by decide +kernel, rfl, by decide +kernel, by decide +kernel⟩
abbrev s_AtRest_init : Stmt := clsS 3 0
theorem sc_AtRest_init : FnScope ["self", "steps"] ["self", "steps"] (defScope s_AtRest_init) := ⟨rfl, rfl, rfl, by decide +kernel, rfl, by decide +kernel, by decide +kernel⟩
abbrev s_told : Stmt := topS 29
theorem sc_told : FnScope ["call", "e"] ["call"] (defScope s_told) := ⟨rfl, rfl, rfl, by decide +kernel, rfl, by decide +kernel, by decide +kernel⟩
section
variable {w : World} {K : PySem.W.Frag} {mg : Str → Option Value} {base : Heap} {cl : Nat → Addr}
abbrev PP : Program := PySem.Challenge.pw_wholefract_k75_whole_machine_and_program
theorem ok_AtRest_init {fI C B : Addr} {fd : FuncData} (D : FunD K "__init__" "AtRest.__init__" (defArgs s_AtRest_init) (defBody s_AtRest_init) (defScope s_AtRest_init) [] [] fI fd) (G : FldF K mg C B "steps" "FractError" "AtRest") : FnOk PP w K mg base (L2N.CX PP w) 1 fI fd ["self", "steps"] (spRest "steps" C) :=
  q_rest D sc_AtRest_init G fun cdv A outer s H E => pss_cons (ps_expr (pe_binit G rfl (pa_cons (pv 0) (pa_cons pe_str pa_nil)))) (pss_one (ps_ost (pv 0) (pv 1)))
theorem ok_law_take {f : Addr} {fd : FuncData} (D : FunD K "_law_take" "_law_take" (defArgs s_law_take) (defBody s_law_take) (defScope s_law_take) [] [] f fd) (m : mg "_law_take" = some (.ref f)) : Cal PP w K mg base cl "_law_take" 1 ["pot", "far"] F_law_take 2 :=
  q_fn (k := 0) (sem := b_law_take) D sc_law_take rfl rfl m (FunD.bindsN (ps := ["pot", "far"]) D fun _ _ _ _ _ _ us hl => match us, hl with | [_, _], _ => rfl) fun cdv A outer s H E c =>
  (ks_cons (q_set c.nd 2 (k_bin o_mod (q_idx (q_var 0) k_int) (q_var 1)))
  (ks_cons (ks_item (k_bin o_fdiv (q_idx (q_var 0) k_int) (q_var 1)) (q_var 0) k_int)
  (ks_one (ks_ret (q_var 2)))))
theorem ok_law_machine {f : Addr} {fd : FuncData} (D : FunD K "_law_machine" "_law_machine" (defArgs s_law_machine) (defBody s_law_machine) (defScope s_law_machine) [] [] f fd) (m : mg "_law_machine" = some (.ref f)) (g_law_take : Cal PP w K mg base cl "_law_take" 1 ["pot", "far"] F_law_take 2) (z_range : mg "range" = none) (z_tuple : mg "tuple" = none) : Cal PP w K mg base cl "_law_machine" 2 ["pot", "most_counters", "most_rows"] F_law_machine 3 :=
  q_fn (k := 1) (sem := b_law_machine) D sc_law_machine rfl rfl m (FunD.bindsN (ps := ["pot", "most_counters", "most_rows"]) D fun _ _ _ _ _ _ us hl => match us, hl with | [_, _, _], _ => rfl) fun cdv A outer s H E c =>
  (ks_cons (q_set c.nd 3 (k_bin o_add k_int (q_call c g_law_take (by decide) rfl (ka_cons (q_var 0) (ka_cons (q_var 1) ka_nil)))))
  (ks_cons (q_set c.nd 4 (k_bin o_add k_int (q_call c g_law_take (by decide) rfl (ka_cons (q_var 0) (ka_cons (q_var 2) ka_nil)))))
  (ks_cons (q_set c.nd 5 (k_cell (kn_lst ka_nil)))
  (ks_cons (ks_for c.hp c.calm (ki_range1 rfl z_range (ka_cons (q_var 4) ka_nil)) (q_one c.nd 7)
  (ks_cons (q_set c.nd 6 (q_call c g_law_take (by decide) rfl (ka_cons (q_var 0) (ka_cons (q_var 3) ka_nil))))
  (ks_one (ks_if (qt_eq c.hu (q_call c g_law_take (by decide) rfl (ka_cons (q_var 0) (ka_cons k_int ka_nil))) k_int)
  (ks_one (ks_expr (k_methL PySem.F.slot_list_append PySem.F.type_list_append m_append (q_var 5) (ka_cons (k_tup (ka_cons k_str (ka_cons (q_var 6) (ka_cons (q_call c g_law_take (by decide) rfl (ka_cons (q_var 0) (ka_cons (k_bin o_add (q_var 4) k_int) ka_nil))) ka_nil)))) ka_nil))))
  (ks_one (ks_expr (k_methL PySem.F.slot_list_append PySem.F.type_list_append m_append (q_var 5) (ka_cons (k_tup (ka_cons k_str (ka_cons (q_var 6) (ka_cons (q_call c g_law_take (by decide) rfl (ka_cons (q_var 0) (ka_cons (k_bin o_add (q_var 4) k_int) ka_nil))) (ka_cons (q_call c g_law_take (by decide) rfl (ka_cons (q_var 0) (ka_cons (k_bin o_add (q_var 4) k_int) ka_nil))) ka_nil))))) ka_nil))))))))
  (ks_one (ks_ret (k_tup (ka_cons (q_var 3) (ka_cons (q_tuple z_tuple (ka_cons (q_var 5) ka_nil)) ka_nil)))))))))
theorem ok_prime_of {f : Addr} {fd : FuncData} (D : FunD K "prime_of" "prime_of" (defArgs s_prime_of) (defBody s_prime_of) (defScope s_prime_of) [] [] f fd) (m : mg "prime_of" = some (.ref f)) (z_int : mg "int" = none) (z_len : mg "len" = none) (h_PRIMES : Con K mg "PRIMES" t_PRIMES) : Cal PP w K mg base cl "prime_of" 1 ["machine", "row", "second"] F_prime_of 3 :=
  q_fn (k := 0) (sem := b_prime_of) D sc_prime_of rfl rfl m (FunD.bindsN (ps := ["machine", "row", "second"]) D fun _ _ _ _ _ _ us hl => match us, hl with | [_, _, _], _ => rfl) fun cdv A outer s H E c =>
  (ks_cons (ks_asg (kg_tup c.calm (q_gcons c.nd 3 (q_gcons c.nd 4 kgs_nil))) (q_var 0))
  (ks_cons (ks_if (qt_eq c.hu (q_var 1) (q_len z_len (ka_cons (q_var 4) ka_nil)))
  (ks_one (ks_ret k_int))
  ks_nil)
  (ks_one (ks_ret (q_idx (q_con h_PRIMES) (k_bin o_add (k_bin o_add (q_var 3) (k_bin o_mul k_int (q_var 1))) (q_int z_int (ka_cons (q_var 2) ka_nil))))))))
theorem ok_program_of {f : Addr} {fd : FuncData} (D : FunD K "program_of" "program_of" (defArgs s_program_of) (defBody s_program_of) (defScope s_program_of) [] [] f fd) (m : mg "program_of" = some (.ref f)) (g_prime_of : Cal PP w K mg base cl "prime_of" 1 ["machine", "row", "second"] F_prime_of 3) (e_TooMany : ExcF K mg cl 12 "TooMany") (z_enumerate : mg "enumerate" = none) (z_len : mg "len" = none) (z_tuple : mg "tuple" = none) (h_PRIMES : Con K mg "PRIMES" t_PRIMES) : Cal PP w K mg base cl "program_of" 2 ["machine"] F_program_of 1 :=
  q_fn (k := 1) (sem := b_program_of) D sc_program_of rfl rfl m (FunD.bindsN (ps := ["machine"]) D fun _ _ _ _ _ _ us hl => match us, hl with | [_], _ => rfl) fun cdv A outer s H E c =>
  (ks_cons (ks_asg (kg_tup c.calm (q_gcons c.nd 1 (q_gcons c.nd 2 kgs_nil))) (q_var 0))
  (ks_cons (ks_if (qt_gt (k_bin o_add (q_var 1) (k_bin o_mul k_int (q_len z_len (ka_cons (q_var 2) ka_nil)))) (q_len z_len (ka_cons (q_con h_PRIMES) ka_nil)))
  (ks_one (ks_raise c e_TooMany))
  ks_nil)
  (ks_cons (q_set c.nd 3 (k_cell (kn_lst ka_nil)))
  (ks_cons (ks_for c.hp c.calm (ki_enum rfl z_enumerate (ka_cons (q_var 2) ka_nil)) (kg_tup c.calm (q_gcons c.nd 5 (q_gcons c.nd 7 kgs_nil)))
  (ks_one (ks_for c.hp c.calm (ki_seq (k_frz (kn_lst (ka_cons k_bl (ka_cons k_bl ka_nil))))) (q_one c.nd 8)
  (ks_cons (q_set c.nd 6 (q_call c g_prime_of (by decide) rfl (ka_cons (q_var 0) (ka_cons (q_var 5) (ka_cons (q_var 8) ka_nil)))))
  (ks_cons (q_set c.nd 4 (q_call c g_prime_of (by decide) rfl (ka_cons (q_var 0) (ka_cons (q_idx (q_var 7) k_int) (ka_cons (k_not (q_var 8)) ka_nil)))))
  (ks_one (ks_if (qt_eq c.hu (q_idx (q_var 7) k_int) k_str)
  (ks_one (ks_expr (k_methL PySem.F.slot_list_append PySem.F.type_list_append m_append (q_var 3) (ka_cons (k_tup (ka_cons (k_bin o_mul (q_idx (q_con h_PRIMES) (q_idx (q_var 7) k_int)) (q_var 4)) (ka_cons (q_var 6) ka_nil))) ka_nil))))
  (ks_cons (ks_expr (k_methL PySem.F.slot_list_append PySem.F.type_list_append m_append (q_var 3) (ka_cons (k_tup (ka_cons (q_var 4) (ka_cons (k_bin o_mul (q_var 6) (q_idx (q_con h_PRIMES) (q_idx (q_var 7) k_int))) ka_nil))) ka_nil)))
  (ks_one (ks_expr (k_methL PySem.F.slot_list_append PySem.F.type_list_append m_append (q_var 3) (ka_cons (k_tup (ka_cons (q_call c g_prime_of (by decide) rfl (ka_cons (q_var 0) (ka_cons (q_idx (q_var 7) k_int) (ka_cons (k_not (q_var 8)) ka_nil)))) (ka_cons (q_var 6) ka_nil))) ka_nil))))))))))))
  (ks_one (ks_ret (q_tuple z_tuple (ka_cons (q_var 3) ka_nil))))))))
theorem ok_law_stand {f : Addr} {fd : FuncData} (D : FunD K "_law_stand" "_law_stand" (defArgs s_law_stand) (defBody s_law_stand) (defScope s_law_stand) [] [] f fd) (m : mg "_law_stand" = some (.ref f)) (g_law_take : Cal PP w K mg base cl "_law_take" 1 ["pot", "far"] F_law_take 2) (z_len : mg "len" = none) (z_range : mg "range" = none) (z_tuple : mg "tuple" = none) : Cal PP w K mg base cl "_law_stand" 2 ["pot", "machine"] F_law_stand 2 :=
  q_fn (k := 1) (sem := b_law_stand) D sc_law_stand rfl rfl m (FunD.bindsN (ps := ["pot", "machine"]) D fun _ _ _ _ _ _ us hl => match us, hl with | [_, _], _ => rfl) fun cdv A outer s H E c =>
  (ks_one (ks_ret (k_tup (ka_cons (q_call c g_law_take (by decide) rfl (ka_cons (q_var 0) (ka_cons (k_bin o_add (q_len z_len (ka_cons (q_idx (q_var 1) k_int) ka_nil)) k_int) ka_nil))) (ka_cons (q_tuple z_tuple (ka_cons (k_frz (kn_comp c.calm c.nd (ki_range1 rfl z_range (ka_cons (q_idx (q_var 1) k_int) ka_nil)) (blkOk_by (own := [("k", 2)]) (by rfl)) (by decide) (fun s1 H1 C1 l1 fp1 => (q_one (c.blk s1 H1 _ _ fp1).nd 2)) (fun s1 H1 C1 l1 fp1 => kts_nil) (fun s1 H1 C1 l1 fp1 => (q_call (c.blk s1 H1 _ _ fp1) g_law_take (by decide) rfl (ka_cons (q_var 0) (ka_cons k_int ka_nil)))))) ka_nil)) ka_nil)))))
theorem ok_law_led {f : Addr} {fd : FuncData} (D : FunD K "_law_led" "_law_led" (defArgs s_law_led) (defBody s_law_led) (defScope s_law_led) [] [] f fd) (m : mg "_law_led" = some (.ref f)) : Cal PP w K mg base cl "_law_led" 1 ["machine", "stand"] F_law_led 2 :=
  q_fn (k := 0) (sem := b_law_led) D sc_law_led rfl rfl m (FunD.bindsN (ps := ["machine", "stand"]) D fun _ _ _ _ _ _ us hl => match us, hl with | [_, _], _ => rfl) fun cdv A outer s H E c =>
  (ks_cons (ks_asg (kg_tup c.calm (q_gcons c.nd 2 (q_gcons c.nd 3 kgs_nil))) (q_var 1))
  (ks_cons (q_set c.nd 4 (q_idx (q_idx (q_var 0) k_int) (q_var 2)))
  (ks_cons (q_set c.nd 5 (q_idx (q_var 3) (q_idx (q_var 4) k_int)))
  (ks_cons (ks_if (qt_eq c.hu (q_idx (q_var 4) k_int) k_str)
  (ks_one (ks_ret (k_tup (ka_cons (q_idx (q_var 4) k_int) (ka_cons (k_bin o_add (k_bin o_add (k_slice (q_var 3) ko_none (ko_some (q_idx (q_var 4) k_int))) (k_tup (ka_cons (k_bin o_add (q_var 5) k_int) ka_nil))) (k_slice (q_var 3) (ko_some (k_bin o_add (q_idx (q_var 4) k_int) k_int)) ko_none)) ka_nil)))))
  ks_nil)
  (ks_cons (ks_if (qt_eq c.hu (q_var 5) k_int)
  (ks_one (ks_ret (k_tup (ka_cons (q_idx (q_var 4) k_int) (ka_cons (q_var 3) ka_nil)))))
  ks_nil)
  (ks_one (ks_ret (k_tup (ka_cons (q_idx (q_var 4) k_int) (ka_cons (k_bin o_add (k_bin o_add (k_slice (q_var 3) ko_none (ko_some (q_idx (q_var 4) k_int))) (k_tup (ka_cons (k_bin o_sub (q_var 5) k_int) ka_nil))) (k_slice (q_var 3) (ko_some (k_bin o_add (q_idx (q_var 4) k_int) k_int)) ko_none)) ka_nil))))))))))
theorem ok_law_stands {f : Addr} {fd : FuncData} (D : FunD K "_law_stands" "_law_stands" (defArgs s_law_stands) (defBody s_law_stands) (defScope s_law_stands) [] [] f fd) (m : mg "_law_stands" = some (.ref f)) (g_law_led : Cal PP w K mg base cl "_law_led" 1 ["machine", "stand"] F_law_led 2) (z_len : mg "len" = none) : Cal PP w K mg base cl "_law_stands" 2 ["machine", "stand", "many"] F_law_stands 3 :=
  q_fn (k := 1) (sem := b_law_stands) D sc_law_stands rfl rfl m (FunD.bindsN (ps := ["machine", "stand", "many"]) D fun _ _ _ _ _ _ us hl => match us, hl with | [_, _, _], _ => rfl) fun cdv A outer s H E c =>
  (ks_cons (q_set c.nd 3 (k_cell (kn_lst (ka_cons (q_var 1) ka_nil))))
  (ks_cons (ks_while c.hp (kt_bool (kw_and (qt_le (q_len z_len (ka_cons (q_var 3) ka_nil)) (q_var 2)) (kw_and1 (qt_lt c.hu0 (q_idx (q_idx (q_var 3) (q_neg k_int)) k_int) (q_len z_len (ka_cons (q_idx (q_var 0) k_int) ka_nil))))))
  (ks_one (ks_expr (k_methL PySem.F.slot_list_append PySem.F.type_list_append m_append (q_var 3) (ka_cons (q_call c g_law_led (by decide) rfl (ka_cons (q_var 0) (ka_cons (q_idx (q_var 3) (q_neg k_int)) ka_nil))) ka_nil)))))
  (ks_one (ks_ret (q_var 3)))))
theorem ok_law_pot {f : Addr} {fd : FuncData} (D : FunD K "_law_pot" "_law_pot" (defArgs s_law_pot) (defBody s_law_pot) (defScope s_law_pot) [] [] f fd) (m : mg "_law_pot" = some (.ref f)) (z_range : mg "range" = none) : Cal PP w K mg base cl "_law_pot" 1 ["cell"] F_law_pot 1 :=
  q_fn (k := 0) (sem := b_law_pot) D sc_law_pot rfl rfl m (FunD.bindsN (ps := ["cell"]) D fun _ _ _ _ _ _ us hl => match us, hl with | [_], _ => rfl) fun cdv A outer s H E c =>
  (ks_cons (ks_if (qt_ge (q_var 0) (k_bin o_pow k_int k_int))
  (ks_one (ks_ret (k_cell (kn_lst (ka_cons (k_bin o_sub (q_var 0) (k_bin o_pow k_int k_int)) ka_nil)))))
  ks_nil)
  (ks_cons (q_set c.nd 1 k_int)
  (ks_cons (ks_for c.hp c.calm (ki_range1 rfl z_range (ka_cons k_int ka_nil)) (q_one c.nd 2)
  (ks_cons (q_set c.nd 3 (k_bin o_mod (k_bin o_mul (k_bin o_add (k_bin o_add (k_bin o_mod (q_var 0) k_int) (k_bin o_mul k_int (q_var 2))) k_int) k_int) k_int))
  (ks_cons (q_set c.nd 3 (k_bin o_mod (k_bin o_add (k_bin o_add (k_bin o_mul (q_var 3) (q_var 3)) (k_bin o_mul k_int (q_var 2))) k_int) k_int))
  (ks_one (q_set c.nd 1 (k_bin o_add (k_bin o_mul (q_var 1) k_int) (q_var 3)))))))
  (ks_one (ks_ret (k_cell (kn_lst (ka_cons (q_var 1) ka_nil))))))))
theorem ok_stand_powers {f : Addr} {fd : FuncData} (D : FunD K "stand_powers" "stand_powers" (defArgs s_stand_powers) (defBody s_stand_powers) (defScope s_stand_powers) [] [] f fd) (m : mg "stand_powers" = some (.ref f)) (z_int : mg "int" = none) (z_len : mg "len" = none) (z_list : mg "list" = none) (z_tuple : mg "tuple" = none) (h_PRIMES : Con K mg "PRIMES" t_PRIMES) : Cal PP w K mg base cl "stand_powers" 1 ["machine", "stand", "second"] F_stand_powers 3 :=
  q_fn (k := 0) (sem := b_stand_powers) D sc_stand_powers rfl rfl m (FunD.bindsN (ps := ["machine", "stand", "second"]) D fun _ _ _ _ _ _ us hl => match us, hl with | [_, _, _], _ => rfl) fun cdv A outer s H E c =>
  (ks_cons (ks_asg (kg_tup c.calm (q_gcons c.nd 3 (q_gcons c.nd 4 kgs_nil))) (q_var 0))
  (ks_cons (ks_asg (kg_tup c.calm (q_gcons c.nd 5 (q_gcons c.nd 6 kgs_nil))) (q_var 1))
  (ks_cons (q_set c.nd 7 (k_cell (kn_bin n_cat (k_frz (qn_list z_list (ka_cons (q_var 6) ka_nil))) (k_bin o_mul (k_frz (kn_lst (ka_cons k_int ka_nil))) (k_bin o_sub (q_len z_len (ka_cons (q_con h_PRIMES) ka_nil)) (q_var 3))))))
  (ks_cons (ks_if (qt_lt c.hu0 (q_var 5) (q_len z_len (ka_cons (q_var 4) ka_nil)))
  (ks_one (ks_item k_int (q_var 7) (k_bin o_add (k_bin o_add (q_var 3) (k_bin o_mul k_int (q_var 5))) (q_int z_int (ka_cons (q_var 2) ka_nil)))))
  ks_nil)
  (ks_one (ks_ret (q_tuple z_tuple (ka_cons (q_var 7) ka_nil))))))))
theorem ok_law_cell_at {f : Addr} {fd : FuncData} (D : FunD K "_law_cell_at" "_law_cell_at" (defArgs s_law_cell_at) (defBody s_law_cell_at) (defScope s_law_cell_at) [] [] f fd) (m : mg "_law_cell_at" = some (.ref f)) (z_len : mg "len" = none) : Cal PP w K mg base cl "_law_cell_at" 1 ["script", "k"] F_law_cell_at 2 :=
  q_fn (k := 0) (sem := b_law_cell_at) D sc_law_cell_at rfl rfl m (FunD.bindsN (ps := ["script", "k"]) D fun _ _ _ _ _ _ us hl => match us, hl with | [_, _], _ => rfl) fun cdv A outer s H E c =>
  (ks_cons (ks_if (qt_lt c.hu0 (q_var 1) (q_len z_len (ka_cons (q_var 0) ka_nil)))
  (ks_one (ks_ret (q_idx (q_var 0) (q_var 1))))
  ks_nil)
  (ks_one (ks_ret k_int)))
theorem ok_found_powers {f : Addr} {fd : FuncData} (D : FunD K "found_powers" "found_powers" (defArgs s_found_powers) (defBody s_found_powers) (defScope s_found_powers) [] [] f fd) (m : mg "found_powers" = some (.ref f)) (z_tuple : mg "tuple" = none) (h_PRIMES : Con K mg "PRIMES" t_PRIMES) : Cal PP w K mg base cl "found_powers" 1 ["number"] F_found_powers 1 :=
  q_fn (k := 0) (sem := b_found_powers) D sc_found_powers rfl rfl m (FunD.bindsN (ps := ["number"]) D fun _ _ _ _ _ _ us hl => match us, hl with | [_], _ => rfl) fun cdv A outer s H E c =>
  (ks_cons (q_set c.nd 1 (k_cell (kn_lst ka_nil)))
  (ks_cons (ks_for c.hp c.calm (ki_seq (q_con h_PRIMES)) (q_one c.nd 3)
  (ks_cons (q_set c.nd 2 k_int)
  (ks_cons (ks_while c.hp (qt_eq c.hu (k_bin o_mod (q_var 0) (q_var 3)) k_int)
  (ks_cons (q_set c.nd 0 (k_bin o_fdiv (q_var 0) (q_var 3)))
  (ks_one (q_set c.nd 2 (k_bin o_add (q_var 2) k_int)))))
  (ks_one (ks_expr (k_methL PySem.F.slot_list_append PySem.F.type_list_append m_append (q_var 1) (ka_cons (q_var 2) ka_nil)))))))
  (ks_cons (ks_if (qt_ne c.hu (q_var 0) k_int)
  (ks_one (ks_ret k_non))
  ks_nil)
  (ks_one (ks_ret (q_tuple z_tuple (ka_cons (q_var 1) ka_nil)))))))
theorem ok_bottoms_of {f : Addr} {fd : FuncData} (D : FunD K "bottoms_of" "bottoms_of" (defArgs s_bottoms_of) (defBody s_bottoms_of) (defScope s_bottoms_of) [] [] f fd) (m : mg "bottoms_of" = some (.ref f)) (g_found_powers : Cal PP w K mg base cl "found_powers" 1 ["number"] F_found_powers 1) : Cal PP w K mg base cl "bottoms_of" 2 ["program"] F_bottoms_of 1 :=
  q_fn (k := 1) (sem := b_bottoms_of) D sc_bottoms_of rfl rfl m (FunD.bindsN (ps := ["program"]) D fun _ _ _ _ _ _ us hl => match us, hl with | [_], _ => rfl) fun cdv A outer s H E c =>
  (ks_one (ks_ret (k_frz (kn_comp c.calm c.nd (ki_seq (q_var 0)) (blkOk_by (own := [("top", 1), ("bottom", 2)]) (by rfl)) (by decide) (fun s2 H2 C2 l2 fp2 => (kg_tup (c.blk s2 H2 _ _ fp2).calm (q_gcons (c.blk s2 H2 _ _ fp2).nd 1 (q_gcons (c.blk s2 H2 _ _ fp2).nd 2 kgs_nil)))) (fun s2 H2 C2 l2 fp2 => kts_nil) (fun s2 H2 C2 l2 fp2 => (q_call (c.blk s2 H2 _ _ fp2) g_found_powers (by decide) rfl (ka_cons (q_var 2) ka_nil)))))))
theorem ok_tops_of {f : Addr} {fd : FuncData} (D : FunD K "tops_of" "tops_of" (defArgs s_tops_of) (defBody s_tops_of) (defScope s_tops_of) [] [] f fd) (m : mg "tops_of" = some (.ref f)) (g_found_powers : Cal PP w K mg base cl "found_powers" 1 ["number"] F_found_powers 1) : Cal PP w K mg base cl "tops_of" 2 ["program"] F_tops_of 1 :=
  q_fn (k := 1) (sem := b_tops_of) D sc_tops_of rfl rfl m (FunD.bindsN (ps := ["program"]) D fun _ _ _ _ _ _ us hl => match us, hl with | [_], _ => rfl) fun cdv A outer s H E c =>
  (ks_one (ks_ret (k_frz (kn_comp c.calm c.nd (ki_seq (q_var 0)) (blkOk_by (own := [("top", 1), ("bottom", 2)]) (by rfl)) (by decide) (fun s3 H3 C3 l3 fp3 => (kg_tup (c.blk s3 H3 _ _ fp3).calm (q_gcons (c.blk s3 H3 _ _ fp3).nd 1 (q_gcons (c.blk s3 H3 _ _ fp3).nd 2 kgs_nil)))) (fun s3 H3 C3 l3 fp3 => kts_nil) (fun s3 H3 C3 l3 fp3 => (q_call (c.blk s3 H3 _ _ fp3) g_found_powers (by decide) rfl (ka_cons (q_var 1) ka_nil)))))))
theorem ok_changes_of {f : Addr} {fd : FuncData} (D : FunD K "changes_of" "changes_of" (defArgs s_changes_of) (defBody s_changes_of) (defScope s_changes_of) [] [] f fd) (m : mg "changes_of" = some (.ref f)) (g_tops_of : Cal PP w K mg base cl "tops_of" 2 ["program"] F_tops_of 1) (g_bottoms_of : Cal PP w K mg base cl "bottoms_of" 2 ["program"] F_bottoms_of 1) (z_tuple : mg "tuple" = none) (z_zip : mg "zip" = none) : Cal PP w K mg base cl "changes_of" 3 ["program"] F_changes_of 1 :=
  q_fn (k := 2) (sem := b_changes_of) D sc_changes_of rfl rfl m (FunD.bindsN (ps := ["program"]) D fun _ _ _ _ _ _ us hl => match us, hl with | [_], _ => rfl) fun cdv A outer s H E c =>
  (ks_cons (q_set c.nd 1 (k_cell (kn_lst ka_nil)))
  (ks_cons (ks_for c.hp c.calm (ki_zip rfl z_zip (ka_cons (q_call c g_tops_of (by decide) rfl (ka_cons (q_var 0) ka_nil)) (ka_cons (q_call c g_bottoms_of (by decide) rfl (ka_cons (q_var 0) ka_nil)) ka_nil))) (kg_tup c.calm (q_gcons c.nd 3 (q_gcons c.nd 2 kgs_nil)))
  (ks_one (ks_expr (k_methL PySem.F.slot_list_append PySem.F.type_list_append m_append (q_var 1) (ka_cons (q_tuple z_tuple (ka_cons (k_frz (kn_comp c.calm c.nd (ki_zip rfl z_zip (ka_cons (q_var 3) (ka_cons (q_var 2) ka_nil))) (blkOk_by (own := [("one", 4), ("other", 5)]) (by rfl)) (by decide) (fun s4 H4 C4 l4 fp4 => (kg_tup (c.blk s4 H4 _ _ fp4).calm (q_gcons (c.blk s4 H4 _ _ fp4).nd 4 (q_gcons (c.blk s4 H4 _ _ fp4).nd 5 kgs_nil)))) (fun s4 H4 C4 l4 fp4 => kts_nil) (fun s4 H4 C4 l4 fp4 => (k_bin o_sub (q_var 4) (q_var 5))))) ka_nil)) ka_nil)))))
  (ks_one (ks_ret (q_var 1)))))
theorem ok_Ways_init {f : Addr} {fd : FuncData} (D : FunD K "__init__" "Ways.__init__" (defArgs s_Ways_init) (defBody s_Ways_init) (defScope s_Ways_init) [] [] f fd) (m : Mk K (cl 0) f) (mm : mg "Ways" = some (.ref (cl 0))) (g_bottoms_of : Cal PP w K mg base cl "bottoms_of" 2 ["program"] F_bottoms_of 1) (g_changes_of : Cal PP w K mg base cl "changes_of" 3 ["program"] F_changes_of 1) (c_Ways : Cls K (cl 0)) (n_Ways_wants : NoAttr K (cl 0) "wants") (n_Ways_adds : NoAttr K (cl 0) "adds") : CalI PP w K mg base cl 0 "Ways" 4 ["self", "program"] F_Ways_init 2 :=
  q_fnI (k := 3) (sem := b_Ways_init) D sc_Ways_init rfl rfl m mm (FunD.bindsN (ps := ["self", "program"]) D fun _ _ _ _ _ _ us hl => match us, hl with | [_, _], _ => rfl) fun cdv A outer s H E c =>
  (ks_cons (ks_fld 0 "wants" c_Ways n_Ways_wants (q_call c g_bottoms_of (by decide) rfl (ka_cons (q_var 1) ka_nil)) (q_var 0))
  (ks_one (ks_fld 0 "adds" c_Ways n_Ways_adds (q_call c g_changes_of (by decide) rfl (ka_cons (q_var 1) ka_nil)) (q_var 0))))
theorem ok_Ways_first {f : Addr} {fd : FuncData} (D : FunD K "first" "Ways.first" (defArgs s_Ways_first) (defBody s_Ways_first) (defScope s_Ways_first) [] [] f fd) (m : Meth K (cl 0) "first" f) (mm : Cls K (cl 0)) (c_Ways : Cls K (cl 0)) (n_Ways_wants : NoAttr K (cl 0) "wants") (z_all : mg "all" = none) (z_enumerate : mg "enumerate" = none) (z_zip : mg "zip" = none) : CalM PP w K mg base cl 0 "first" 1 ["self", "powers"] F_Ways_first 2 :=
  q_fnM (k := 0) (sem := b_Ways_first) D sc_Ways_first rfl rfl m mm (FunD.bindsN (ps := ["self", "powers"]) D fun _ _ _ _ _ _ us hl => match us, hl with | [_, _], _ => rfl) fun cdv A outer s H E c =>
  (ks_cons (ks_for c.hp c.calm (ki_enum rfl z_enumerate (ka_cons (k_fld 0 "wants" c_Ways n_Ways_wants (q_var 0)) ka_nil)) (kg_tup c.calm (q_gcons c.nd 2 (q_gcons c.nd 3 kgs_nil)))
  (ks_one (ks_if (kt_tru (q_all c z_all (ka_cons (k_frz (kn_comp c.calm c.nd (ki_zip rfl z_zip (ka_cons (q_var 1) (ka_cons (q_var 3) ka_nil))) (blkOk_by (own := [("one", 4), ("other", 5)]) (by rfl)) (by decide) (fun s5 H5 C5 l5 fp5 => (kg_tup (c.blk s5 H5 _ _ fp5).calm (q_gcons (c.blk s5 H5 _ _ fp5).nd 4 (q_gcons (c.blk s5 H5 _ _ fp5).nd 5 kgs_nil)))) (fun s5 H5 C5 l5 fp5 => kts_nil) (fun s5 H5 C5 l5 fp5 => (q_ge (q_var 4) (q_var 5))))) ka_nil)))
  (ks_one (ks_ret (q_var 2)))
  ks_nil)))
  (ks_one (ks_ret k_non)))
theorem ok_Ways_gone {f : Addr} {fd : FuncData} (D : FunD K "gone" "Ways.gone" (defArgs s_Ways_gone) (defBody s_Ways_gone) (defScope s_Ways_gone) [] [] f fd) (m : Meth K (cl 0) "gone" f) (mm : Cls K (cl 0)) (c_Ways : Cls K (cl 0)) (n_Ways_adds : NoAttr K (cl 0) "adds") (z_tuple : mg "tuple" = none) (z_zip : mg "zip" = none) : CalM PP w K mg base cl 0 "gone" 1 ["self", "powers", "number", "many"] F_Ways_gone 4 :=
  q_fnM (k := 0) (sem := b_Ways_gone) D sc_Ways_gone rfl rfl m mm (FunD.bindsN (ps := ["self", "powers", "number", "many"]) D fun _ _ _ _ _ _ us hl => match us, hl with | [_, _, _, _], _ => rfl) fun cdv A outer s H E c =>
  (ks_one (ks_ret (q_tuple z_tuple (ka_cons (k_frz (kn_comp c.calm c.nd (ki_zip rfl z_zip (ka_cons (q_var 1) (ka_cons (q_idx (k_fld 0 "adds" c_Ways n_Ways_adds (q_var 0)) (q_var 2)) ka_nil))) (blkOk_by (own := [("one", 4), ("more", 5)]) (by rfl)) (by decide) (fun s6 H6 C6 l6 fp6 => (kg_tup (c.blk s6 H6 _ _ fp6).calm (q_gcons (c.blk s6 H6 _ _ fp6).nd 4 (q_gcons (c.blk s6 H6 _ _ fp6).nd 5 kgs_nil)))) (fun s6 H6 C6 l6 fp6 => kts_nil) (fun s6 H6 C6 l6 fp6 => (k_bin o_add (q_var 4) (k_bin o_mul (q_var 3) (q_var 5)))))) ka_nil))))
theorem ok_after {f : Addr} {fd : FuncData} (D : FunD K "after" "after" (defArgs s_after) (defBody s_after) (defScope s_after) [] [] f fd) (m : mg "after" = some (.ref f)) (g_Ways_init : CalI PP w K mg base cl 0 "Ways" 4 ["self", "program"] F_Ways_init 2) (g_Ways_first : CalM PP w K mg base cl 0 "first" 1 ["self", "powers"] F_Ways_first 2) (g_Ways_gone : CalM PP w K mg base cl 0 "gone" 1 ["self", "powers", "number", "many"] F_Ways_gone 4) (e_AtRest : FldE PP w K mg base cl 11 "steps" "AtRest") (z_range : mg "range" = none) : Cal PP w K mg base cl "after" 6 ["program", "powers", "many"] F_after 3 :=
  q_fn (k := 5) (sem := b_after) D sc_after rfl rfl m (FunD.bindsN (ps := ["program", "powers", "many"]) D fun _ _ _ _ _ _ us hl => match us, hl with | [_, _, _], _ => rfl) fun cdv A outer s H E c =>
  (ks_cons (q_set c.nd 3 (k_newS c g_Ways_init (by decide) rfl (ka_cons (q_var 0) ka_nil)))
  (ks_cons (ks_for c.hp c.calm (ki_range1 rfl z_range (ka_cons (q_var 2) ka_nil)) (q_one c.nd 4)
  (ks_cons (q_set c.nd 5 (k_methS c g_Ways_first (by decide) (q_var 3) (ka_cons (q_var 1) ka_nil)))
  (ks_cons (ks_if (qt_is (q_var 5) k_non)
  (ks_one (ks_raiseF c (by decide) e_AtRest (q_var 4)))
  ks_nil)
  (ks_one (q_set c.nd 1 (k_methS c g_Ways_gone (by decide) (q_var 3) (ka_cons (q_var 1) (ka_cons (q_var 5) (ka_cons k_int ka_nil)))))))))
  (ks_one (ks_ret (q_var 1)))))
theorem ok_step {f : Addr} {fd : FuncData} (D : FunD K "step" "step" (defArgs s_step) (defBody s_step) (defScope s_step) [] [] f fd) (m : mg "step" = some (.ref f)) (g_after : Cal PP w K mg base cl "after" 6 ["program", "powers", "many"] F_after 3) : Cal PP w K mg base cl "step" 7 ["program", "powers"] F_step 2 :=
  q_fn (k := 6) (sem := b_step) D sc_step rfl rfl m (FunD.bindsN (ps := ["program", "powers"]) D fun _ _ _ _ _ _ us hl => match us, hl with | [_, _], _ => rfl) fun cdv A outer s H E c =>
  (ks_one (ks_ret (q_call c g_after (by decide) rfl (ka_cons (q_var 0) (ka_cons (q_var 1) (ka_cons k_int ka_nil))))))
theorem ok_first_fit {f : Addr} {fd : FuncData} (D : FunD K "first_fit" "first_fit" (defArgs s_first_fit) (defBody s_first_fit) (defScope s_first_fit) [] [] f fd) (m : mg "first_fit" = some (.ref f)) (g_Ways_first : CalM PP w K mg base cl 0 "first" 1 ["self", "powers"] F_Ways_first 2) (g_Ways_init : CalI PP w K mg base cl 0 "Ways" 4 ["self", "program"] F_Ways_init 2) : Cal PP w K mg base cl "first_fit" 6 ["program", "powers"] F_first_fit 2 :=
  q_fn (k := 5) (sem := b_first_fit) D sc_first_fit rfl rfl m (FunD.bindsN (ps := ["program", "powers"]) D fun _ _ _ _ _ _ us hl => match us, hl with | [_, _], _ => rfl) fun cdv A outer s H E c =>
  (ks_one (ks_ret (k_methS c g_Ways_first (by decide) (k_newS c g_Ways_init (by decide) rfl (ka_cons (q_var 0) ka_nil)) (ka_cons (q_var 1) ka_nil))))
theorem ok_machine_after {f : Addr} {fd : FuncData} (D : FunD K "machine_after" "machine_after" (defArgs s_machine_after) (defBody s_machine_after) (defScope s_machine_after) [] [] f fd) (m : mg "machine_after" = some (.ref f)) (e_AtRest : FldE PP w K mg base cl 11 "steps" "AtRest") (z_len : mg "len" = none) (z_list : mg "list" = none) (z_range : mg "range" = none) (z_tuple : mg "tuple" = none) : Cal PP w K mg base cl "machine_after" 3 ["machine", "stand", "many"] F_machine_after 3 :=
  q_fn (k := 2) (sem := b_machine_after) D sc_machine_after rfl rfl m (FunD.bindsN (ps := ["machine", "stand", "many"]) D fun _ _ _ _ _ _ us hl => match us, hl with | [_, _, _], _ => rfl) fun cdv A outer s H E c =>
  (ks_cons (q_set c.nd 3 (q_idx (q_var 0) k_int))
  (ks_cons (ks_asg (kg_tup c.calm (q_gcons c.nd 4 (q_gcons c.nd 5 kgs_nil))) (q_var 1))
  (ks_cons (q_set c.nd 5 (k_cell (qn_list z_list (ka_cons (q_var 5) ka_nil))))
  (ks_cons (ks_for c.hp c.calm (ki_range1 rfl z_range (ka_cons (q_var 2) ka_nil)) (q_one c.nd 6)
  (ks_cons (ks_if (qt_eq c.hu (q_var 4) (q_len z_len (ka_cons (q_var 3) ka_nil)))
  (ks_one (ks_raiseF c (by decide) e_AtRest (q_var 6)))
  ks_nil)
  (ks_cons (q_set c.nd 7 (q_idx (q_var 3) (q_var 4)))
  (ks_cons (q_set c.nd 4 (q_idx (q_var 7) k_int))
  (ks_one (ks_if (qt_eq c.hu (q_idx (q_var 7) k_int) k_str)
  (ks_one (ks_item (k_bin o_add (q_idx (q_var 5) (q_idx (q_var 7) k_int)) k_int) (q_var 5) (q_idx (q_var 7) k_int)))
  (ks_one (ks_if (qt_gt (q_idx (q_var 5) (q_idx (q_var 7) k_int)) k_int)
  (ks_one (ks_item (k_bin o_sub (q_idx (q_var 5) (q_idx (q_var 7) k_int)) k_int) (q_var 5) (q_idx (q_var 7) k_int)))
  (ks_one (q_set c.nd 4 (q_idx (q_var 7) k_int)))))))))))
  (ks_one (ks_ret (k_tup (ka_cons (q_var 4) (ka_cons (q_tuple z_tuple (ka_cons (q_var 5) ka_nil)) ka_nil)))))))))
theorem ok_law {fd : FuncData} (D : FunD K "law" "law" (defArgs s_law) (defBody s_law) (defScope s_law) [] [] (He.fAd K ("law", none)) fd) (m : mg "law" = some (.ref (He.fAd K ("law", none)))) (g_law_machine : Cal PP w K mg base cl "_law_machine" 2 ["pot", "most_counters", "most_rows"] F_law_machine 3) (g_program_of : Cal PP w K mg base cl "program_of" 2 ["machine"] F_program_of 1) (g_law_stand : Cal PP w K mg base cl "_law_stand" 2 ["pot", "machine"] F_law_stand 2) (g_law_stands : Cal PP w K mg base cl "_law_stands" 2 ["machine", "stand", "many"] F_law_stands 3) (g_law_pot : Cal PP w K mg base cl "_law_pot" 1 ["cell"] F_law_pot 1) (g_stand_powers : Cal PP w K mg base cl "stand_powers" 1 ["machine", "stand", "second"] F_stand_powers 3) (g_law_cell_at : Cal PP w K mg base cl "_law_cell_at" 1 ["script", "k"] F_law_cell_at 2) (g_step : Cal PP w K mg base cl "step" 7 ["program", "powers"] F_step 2) (g_after : Cal PP w K mg base cl "after" 6 ["program", "powers", "many"] F_after 3) (g_first_fit : Cal PP w K mg base cl "first_fit" 6 ["program", "powers"] F_first_fit 2) (g_machine_after : Cal PP w K mg base cl "machine_after" 3 ["machine", "stand", "many"] F_machine_after 3) (mc_AtRest : mg "AtRest" = some (.ref (cl 11))) (z_len : mg "len" = none) (z_range : mg "range" = none) {g : Addr} {fg : FuncData} (m_told : mg "_law_rest_told" = some (.ref g)) (D_told : FunD K "_law_rest_told" "_law_rest_told" (defArgs s_told) (defBody s_told) (defScope s_told) [] [] g fg) (xi_told : ExcI K (cl 11)) (nf_told : PySem.W.findIn K (.ref (cl 11)) "steps" = some none) (x11_told : PySem.W.exmOne K (.ref (cl 11)) (.ref (cl 11)) = some true) (TB : LamX.TabB base mg (He.cT K ("law", none)).1 (He.cT K ("law", none)).2) : FnOk PP w K mg base (L2N.CX PP w) 10 (He.fAd K ("law", none)) fd ["script"] (spF K cl (F_law_k75 (He.cT K ("law", none)).2) 1) :=
  let P := (He.cT K ("law", none)).2
  have b_told : Binds K fg ["call"] [] := FunD.bindsN (ps := ["call"]) D_told fun _ _ _ _ _ _ us hl => match us, hl with | [_], _ => rfl
  q_fnV (d := ("law", none)) (k := 9) (sem := b_law_k75 (He.cT K ("law", none)).2) D sc_law rfl rfl fun A outer s H E c =>
  (ks_cons (ks_for c.hp c.calm (ki_range3 rfl z_range (ka_cons k_int (ka_cons k_int (ka_cons k_int ka_nil)))) (q_one c.nd 2)
  (ks_cons (q_set c.nd 3 (q_call c g_law_machine (by decide) rfl (ka_cons (q_call c g_law_pot (by decide) rfl (ka_cons (q_call c g_law_cell_at (by decide) rfl (ka_cons (q_var 0) (ka_cons (q_var 2) ka_nil))) ka_nil)) (ka_cons k_int (ka_cons k_int ka_nil)))))
  (ks_cons (q_set c.nd 5 (q_call c g_program_of (by decide) rfl (ka_cons (q_var 3) ka_nil)))
  (ks_cons (q_set c.nd 8 (q_call c g_law_stand (by decide) rfl (ka_cons (q_call c g_law_pot (by decide) rfl (ka_cons (q_call c g_law_cell_at (by decide) rfl (ka_cons (q_var 0) (ka_cons (k_bin o_add (q_var 2) k_int) ka_nil))) ka_nil)) (ka_cons (q_var 3) ka_nil))))
  (ks_cons (q_set c.nd 6 (q_call c g_law_stands (by decide) rfl (ka_cons (q_var 3) (ka_cons (q_var 8) (ka_cons k_int ka_nil)))))
  (ks_one (ks_for c.hp c.calm (ki_seq (k_frz (kn_lst (ka_cons k_int (ka_cons k_int ka_nil))))) (q_one c.nd 7)
  (ks_cons (q_set c.nd 4 (q_call c g_stand_powers (by decide) rfl (ka_cons (q_var 3) (ka_cons (q_var 8) (ka_cons (q_eq c.hu (q_var 7) k_int) ka_nil)))))
  (ks_cons (ks_for c.hp c.calm (ki_range1 rfl z_range (ka_cons (q_len z_len (ka_cons (q_var 6) ka_nil)) ka_nil)) (q_one c.nd 9)
  (ks_cons (ks_if (qt_ne c.hu (q_var 4) (q_call c g_stand_powers (by decide) rfl (ka_cons (q_var 3) (ka_cons (q_idx (q_var 6) (q_var 9)) (ka_cons (q_eq c.hu (k_bin o_mod (k_bin o_add (q_var 7) (q_var 9)) k_int) k_int) ka_nil)))))
  (ks_one (ks_ret k_bl))
  ks_nil)
  (ks_cons (ks_if (qt_ne c.hu (q_is (q_call c g_first_fit (by decide) rfl (ka_cons (q_var 5) (ka_cons (q_var 4) ka_nil))) k_non) (q_eq c.hu (q_idx (q_idx (q_var 6) (q_var 9)) k_int) (q_len z_len (ka_cons (q_idx (q_var 3) k_int) ka_nil))))
  (ks_one (ks_ret k_bl))
  ks_nil)
  (ks_one (ks_if (qt_lt c.hu0 (k_bin o_add (q_var 9) k_int) (q_len z_len (ka_cons (q_var 6) ka_nil)))
  (ks_one (q_set c.nd 4 (q_call c g_step (by decide) rfl (ka_cons (q_var 5) (ka_cons (q_var 4) ka_nil)))))
  ks_nil)))))
  (ks_cons (q_set c.nd 1 (q_call c g_stand_powers (by decide) rfl (ka_cons (q_var 3) (ka_cons (q_var 8) (ka_cons (q_eq c.hu (q_var 7) k_int) ka_nil)))))
  (ks_one (ks_if (qt_le (q_len z_len (ka_cons (q_var 6) ka_nil)) k_int)
  (ks_cons (ks_if (qt_ne c.hu (k_lamcall (i := 0) (cl := cl) c rfl m_told D_told sc_told b_told rfl rfl rfl mc_AtRest xi_told nf_told x11_told TB rfl (LamX.lamS_by (by rfl)) rfl (fun _ _ _ _ _ => rfl) fun A2 o2 s2 H2 E2 f2 c2 cL => (q_call cL g_after (by decide) rfl (ka_cons (q_var 5) (ka_cons (q_var 1) (ka_cons k_int ka_nil))))) (k_bin o_sub (q_len z_len (ka_cons (q_var 6) ka_nil)) k_int))
  (ks_one (ks_ret k_bl))
  ks_nil)
  (ks_one (ks_if (qt_ne c.hu (k_lamcall (i := 0) (cl := cl) c rfl m_told D_told sc_told b_told rfl rfl rfl mc_AtRest xi_told nf_told x11_told TB rfl (LamX.lamS_by (by rfl)) rfl (fun _ _ _ _ _ => rfl) fun A2 o2 s2 H2 E2 f2 c2 cL => (q_call cL g_machine_after (by decide) rfl (ka_cons (q_var 3) (ka_cons (q_var 8) (ka_cons k_int ka_nil))))) (k_bin o_sub (q_len z_len (ka_cons (q_var 6) ka_nil)) k_int))
  (ks_one (ks_ret k_bl))
  ks_nil)))
  (ks_one (ks_if (qt_ne c.hu (q_call c g_after (by decide) rfl (ka_cons (q_var 5) (ka_cons (q_var 1) (ka_cons k_int ka_nil)))) (q_call c g_stand_powers (by decide) rfl (ka_cons (q_var 3) (ka_cons (q_idx (q_var 6) k_int) (ka_cons (q_eq c.hu (q_var 7) k_int) ka_nil)))))
  (ks_one (ks_ret k_bl))
  ks_nil))))))))))))))
  (ks_one (ks_ret k_bl)))
end
def d_law_take : He.DefD := ⟨("_law_take", none), "_law_take", "_law_take", defArgs s_law_take, defBody s_law_take, defScope s_law_take, [], []⟩
def d_law_machine : He.DefD := ⟨("_law_machine", none), "_law_machine", "_law_machine", defArgs s_law_machine, defBody s_law_machine, defScope s_law_machine, [], []⟩
def d_prime_of : He.DefD := ⟨("prime_of", none), "prime_of", "prime_of", defArgs s_prime_of, defBody s_prime_of, defScope s_prime_of, [], []⟩
def d_program_of : He.DefD := ⟨("program_of", none), "program_of", "program_of", defArgs s_program_of, defBody s_program_of, defScope s_program_of, [], []⟩
def d_law_stand : He.DefD := ⟨("_law_stand", none), "_law_stand", "_law_stand", defArgs s_law_stand, defBody s_law_stand, defScope s_law_stand, [], []⟩
def d_law_led : He.DefD := ⟨("_law_led", none), "_law_led", "_law_led", defArgs s_law_led, defBody s_law_led, defScope s_law_led, [], []⟩
def d_law_stands : He.DefD := ⟨("_law_stands", none), "_law_stands", "_law_stands", defArgs s_law_stands, defBody s_law_stands, defScope s_law_stands, [], []⟩
def d_law_pot : He.DefD := ⟨("_law_pot", none), "_law_pot", "_law_pot", defArgs s_law_pot, defBody s_law_pot, defScope s_law_pot, [], []⟩
def d_stand_powers : He.DefD := ⟨("stand_powers", none), "stand_powers", "stand_powers", defArgs s_stand_powers, defBody s_stand_powers, defScope s_stand_powers, [], []⟩
def d_law_cell_at : He.DefD := ⟨("_law_cell_at", none), "_law_cell_at", "_law_cell_at", defArgs s_law_cell_at, defBody s_law_cell_at, defScope s_law_cell_at, [], []⟩
def d_found_powers : He.DefD := ⟨("found_powers", none), "found_powers", "found_powers", defArgs s_found_powers, defBody s_found_powers, defScope s_found_powers, [], []⟩
def d_bottoms_of : He.DefD := ⟨("bottoms_of", none), "bottoms_of", "bottoms_of", defArgs s_bottoms_of, defBody s_bottoms_of, defScope s_bottoms_of, [], []⟩
def d_tops_of : He.DefD := ⟨("tops_of", none), "tops_of", "tops_of", defArgs s_tops_of, defBody s_tops_of, defScope s_tops_of, [], []⟩
def d_changes_of : He.DefD := ⟨("changes_of", none), "changes_of", "changes_of", defArgs s_changes_of, defBody s_changes_of, defScope s_changes_of, [], []⟩
def d_Ways_init : He.DefD := ⟨("Ways", some "__init__"), "__init__", "Ways.__init__", defArgs s_Ways_init, defBody s_Ways_init, defScope s_Ways_init, [], []⟩
def d_Ways_first : He.DefD := ⟨("Ways", some "first"), "first", "Ways.first", defArgs s_Ways_first, defBody s_Ways_first, defScope s_Ways_first, [], []⟩
def d_Ways_gone : He.DefD := ⟨("Ways", some "gone"), "gone", "Ways.gone", defArgs s_Ways_gone, defBody s_Ways_gone, defScope s_Ways_gone, [], []⟩
def d_after : He.DefD := ⟨("after", none), "after", "after", defArgs s_after, defBody s_after, defScope s_after, [], []⟩
def d_step : He.DefD := ⟨("step", none), "step", "step", defArgs s_step, defBody s_step, defScope s_step, [], []⟩
def d_first_fit : He.DefD := ⟨("first_fit", none), "first_fit", "first_fit", defArgs s_first_fit, defBody s_first_fit, defScope s_first_fit, [], []⟩
def d_machine_after : He.DefD := ⟨("machine_after", none), "machine_after", "machine_after", defArgs s_machine_after, defBody s_machine_after, defScope s_machine_after, [], []⟩
def d_law : He.DefD := ⟨("law", none), "law", "law", defArgs s_law, defBody s_law, defScope s_law, [], []⟩
def d_told : He.DefD := ⟨("_law_rest_told", none), "_law_rest_told", "_law_rest_told", defArgs s_told, defBody s_told, defScope s_told, [], []⟩
def d_AtRest_init : He.DefD := ⟨("AtRest", some "__init__"), "__init__", "AtRest.__init__", defArgs s_AtRest_init, defBody s_AtRest_init, defScope s_AtRest_init, [], []⟩
def fnl : List He.DefD := [d_law_take, d_law_machine, d_prime_of, d_program_of, d_law_stand, d_law_led, d_law_stands, d_law_pot, d_stand_powers, d_law_cell_at, d_found_powers, d_bottoms_of, d_tops_of, d_changes_of, d_Ways_init, d_Ways_first, d_Ways_gone, d_after, d_step, d_first_fit, d_machine_after, d_law, d_AtRest_init, d_told]
def fal_0 : List He.Fa := [.glo "TooMany", .exc "TooMany", .glo "AtRest", .glo "FractError", .glo "Ways", .cls "Ways", .noat "Ways" "wants", .noat "Ways" "adds", .mkr "Ways", .meth "Ways" "first", .meth "Ways" "gone", .glo "_law_take", .glo "_law_machine", .glo "prime_of", .glo "program_of", .glo "_law_stand", .glo "_law_led", .glo "_law_stands", .glo "_law_pot", .glo "stand_powers", .glo "_law_cell_at", .glo "found_powers", .glo "bottoms_of", .glo "tops_of"]
def fal_1 : List He.Fa := [.glo "changes_of", .glo "after", .glo "step", .glo "first_fit", .glo "machine_after", .glo "law", .free "all", .free "enumerate", .free "int", .free "len", .free "list", .free "range", .free "tuple", .free "zip", .glo "PRIMES", .glo "_law_rest_told"]
def fal : List He.Fa := fal_0 ++ fal_1
def exl (K : PySem.W.Frag) : Bool := He.tupB K "PRIMES" (([2, 3, 5, 7, 11, 13, 17, 19, 23, 29] : List Int).map He.Dv.int) && fldB K "AtRest" "FractError" "steps" && tryB K [11] [] 11
def nm0 : List PySem.Str := ["_wall", "FractError", "AtRest", "TooMany", "PRIMES", "found_powers", "tops_of", "bottoms_of", "changes_of", "machine_after", "prime_of", "program_of", "stand_powers", "Ways", "first_fit", "step", "after", "_law_cell_at", "_law_pot", "_law_take"]
def nm1 : List PySem.Str := ["_law_machine", "_law_stand", "_law_led", "_law_stands", "_law_rest_told"]
def names : List PySem.Str := nm0 ++ nm1
abbrev R : PySem.W.OpenRow := PySem.W.OpenLaw.row PySem.Challenge.rw_wholefract_k75_whole_machine_and_program
abbrev qv : Program := PySem.W.view R.prog [30]
abbrev hk : PySem.W.Hook := hookV 5 fal fnl exl ("law", none)
def ob (s : PySem.W.SharedT) : He.AlD × Bool × Bool := obsV 5 fal fnl exl ("law", none) (HandSHeadRun.getT s)
theorem ob_eq (s : PySem.W.SharedT) : ob s = hk.obs s.abs := obsV_eq (HandSHeadRun.getT_eq s)
theorem run (w : World) : HandSHeadRun.RunEq R qv hk ob 3960 names w := by
  intro os
  kernel_rfl
theorem facts {w : World} {K : PySem.W.Frag} {h : Heap} {mg : Str → Option Value} {fa : Addr} (X : K.In h) (G : h.Ns mainGlobals mg) (c : SaysV fal fnl exl ("law", none) h K) (hfa : mg "law" = some (.ref fa)) : ∃ (fd : FuncData) (cc P : Addr), (∀ (s : Shared) (u : Value), BindsTo s fd ⟨[u], []⟩ [("script", u)]) ∧
    (h.get? P = some { cls := .none, data := .fields #[] } ∧ K.lookup P = none ∧ PySem.W.CodeHd h cc P) ∧ ∀ base : Heap, K.In base → base.Ns mainGlobals mg → LamX.TabB base mg cc P → FnOk PP w K mg base (L2N.CX PP w) 10 fa fd ["script"] (spF K (clK K) (F_law_k75 P) 1) := by
  have cV := c
  replace c := c.y
  have cd := c.t
  have mc_TooMany : mg "TooMany" = some (.ref (clK K 12)) := He.glo_ok X G (cd.fact 0 rfl)
  have e_TooMany : ExcF K mg (clK K) 12 "TooMany" := let q := He.exc_ok (cd.fact 1 rfl); ⟨mc_TooMany, q.1, q.2.1, q.2.2.1, q.2.2.2⟩
  have mc_AtRest : mg "AtRest" = some (.ref (clK K 11)) := He.glo_ok X G (cd.fact 2 rfl)
  have mc_FractError : mg "FractError" = some (.ref (clK K 10)) := He.glo_ok X G (cd.fact 3 rfl)
  have mc_Ways : mg "Ways" = some (.ref (clK K 0)) := He.glo_ok X G (cd.fact 4 rfl)
  have c_Ways : Cls K (clK K 0) := He.cls_ok (cd.fact 5 rfl)
  have n_Ways_wants : NoAttr K (clK K 0) "wants" := He.noat_ok (cd.fact 6 rfl)
  have n_Ways_adds : NoAttr K (clK K 0) "adds" := He.noat_ok (cd.fact 7 rfl)
  have mm_Ways_init := He.mkr_ok (cd.fact 8 rfl)
  have mm_Ways_first := He.meth_ok (cd.fact 9 rfl)
  have mm_Ways_gone := He.meth_ok (cd.fact 10 rfl)
  have z_all : mg "all" = none := He.free_ok X G (cd.fact 30 (f := .free "all") rfl)
  have z_enumerate : mg "enumerate" = none := He.free_ok X G (cd.fact 31 (f := .free "enumerate") rfl)
  have z_int : mg "int" = none := He.free_ok X G (cd.fact 32 (f := .free "int") rfl)
  have z_len : mg "len" = none := He.free_ok X G (cd.fact 33 (f := .free "len") rfl)
  have z_list : mg "list" = none := He.free_ok X G (cd.fact 34 (f := .free "list") rfl)
  have z_range : mg "range" = none := He.free_ok X G (cd.fact 35 (f := .free "range") rfl)
  have z_tuple : mg "tuple" = none := He.free_ok X G (cd.fact 36 (f := .free "tuple") rfl)
  have z_zip : mg "zip" = none := He.free_ok X G (cd.fact 37 (f := .free "zip") rfl)
  have cm : (He.tupB K "PRIMES" (([2, 3, 5, 7, 11, 13, 17, 19, 23, 29] : List Int).map He.Dv.int) && fldB K "AtRest" "FractError" "steps" && tryB K [11] [] 11) = true := c.more
  simp only [Bool.and_eq_true] at cm
  have h_PRIMES : Con K mg "PRIMES" t_PRIMES := con_ints (He.glo_ok X G (cd.fact 38 (f := .glo "PRIMES") rfl)) cm.1.1
  obtain ⟨fd_AtRest_init, D_AtRest_init⟩ := cd.def_ 22 (d := d_AtRest_init) rfl
  have rf := fldB_ok cm.1.2 mc_AtRest mc_FractError
  have nf : PySem.W.findIn K (.ref (clK K 11)) "steps" = some none := rf.1.nf
  have e_AtRest : ∀ base : Heap, FldE PP w K mg base (clK K) 11 "steps" "AtRest" := fun base => ⟨_, _, _, fd_AtRest_init, rf.1, rf.2.1, rf.2.2, ok_AtRest_init D_AtRest_init rf.1, FunD.bindsN (ps := ["self", "steps"]) D_AtRest_init fun _ _ _ _ _ _ us hl => match us, hl with | [_, _], _ => rfl⟩
  have tt := tryB_ok cm.2
  obtain ⟨fd_law_take, D_law_take⟩ := cd.def_ 0 (d := d_law_take) rfl
  have m_law_take := He.glo_ok X G (cd.fact 11 (f := .glo "_law_take") rfl)
  obtain ⟨fd_law_machine, D_law_machine⟩ := cd.def_ 1 (d := d_law_machine) rfl
  have m_law_machine := He.glo_ok X G (cd.fact 12 (f := .glo "_law_machine") rfl)
  obtain ⟨fd_prime_of, D_prime_of⟩ := cd.def_ 2 (d := d_prime_of) rfl
  have m_prime_of := He.glo_ok X G (cd.fact 13 (f := .glo "prime_of") rfl)
  obtain ⟨fd_program_of, D_program_of⟩ := cd.def_ 3 (d := d_program_of) rfl
  have m_program_of := He.glo_ok X G (cd.fact 14 (f := .glo "program_of") rfl)
  obtain ⟨fd_law_stand, D_law_stand⟩ := cd.def_ 4 (d := d_law_stand) rfl
  have m_law_stand := He.glo_ok X G (cd.fact 15 (f := .glo "_law_stand") rfl)
  obtain ⟨fd_law_led, D_law_led⟩ := cd.def_ 5 (d := d_law_led) rfl
  have m_law_led := He.glo_ok X G (cd.fact 16 (f := .glo "_law_led") rfl)
  obtain ⟨fd_law_stands, D_law_stands⟩ := cd.def_ 6 (d := d_law_stands) rfl
  have m_law_stands := He.glo_ok X G (cd.fact 17 (f := .glo "_law_stands") rfl)
  obtain ⟨fd_law_pot, D_law_pot⟩ := cd.def_ 7 (d := d_law_pot) rfl
  have m_law_pot := He.glo_ok X G (cd.fact 18 (f := .glo "_law_pot") rfl)
  obtain ⟨fd_stand_powers, D_stand_powers⟩ := cd.def_ 8 (d := d_stand_powers) rfl
  have m_stand_powers := He.glo_ok X G (cd.fact 19 (f := .glo "stand_powers") rfl)
  obtain ⟨fd_law_cell_at, D_law_cell_at⟩ := cd.def_ 9 (d := d_law_cell_at) rfl
  have m_law_cell_at := He.glo_ok X G (cd.fact 20 (f := .glo "_law_cell_at") rfl)
  obtain ⟨fd_found_powers, D_found_powers⟩ := cd.def_ 10 (d := d_found_powers) rfl
  have m_found_powers := He.glo_ok X G (cd.fact 21 (f := .glo "found_powers") rfl)
  obtain ⟨fd_bottoms_of, D_bottoms_of⟩ := cd.def_ 11 (d := d_bottoms_of) rfl
  have m_bottoms_of := He.glo_ok X G (cd.fact 22 (f := .glo "bottoms_of") rfl)
  obtain ⟨fd_tops_of, D_tops_of⟩ := cd.def_ 12 (d := d_tops_of) rfl
  have m_tops_of := He.glo_ok X G (cd.fact 23 (f := .glo "tops_of") rfl)
  obtain ⟨fd_changes_of, D_changes_of⟩ := cd.def_ 13 (d := d_changes_of) rfl
  have m_changes_of := He.glo_ok X G (cd.fact 24 (f := .glo "changes_of") rfl)
  obtain ⟨fd_Ways_init, D_Ways_init⟩ := cd.def_ 14 (d := d_Ways_init) rfl
  obtain ⟨fd_Ways_first, D_Ways_first⟩ := cd.def_ 15 (d := d_Ways_first) rfl
  obtain ⟨fd_Ways_gone, D_Ways_gone⟩ := cd.def_ 16 (d := d_Ways_gone) rfl
  obtain ⟨fd_after, D_after⟩ := cd.def_ 17 (d := d_after) rfl
  have m_after := He.glo_ok X G (cd.fact 25 (f := .glo "after") rfl)
  obtain ⟨fd_step, D_step⟩ := cd.def_ 18 (d := d_step) rfl
  have m_step := He.glo_ok X G (cd.fact 26 (f := .glo "step") rfl)
  obtain ⟨fd_first_fit, D_first_fit⟩ := cd.def_ 19 (d := d_first_fit) rfl
  have m_first_fit := He.glo_ok X G (cd.fact 27 (f := .glo "first_fit") rfl)
  obtain ⟨fd_machine_after, D_machine_after⟩ := cd.def_ 20 (d := d_machine_after) rfl
  have m_machine_after := He.glo_ok X G (cd.fact 28 (f := .glo "machine_after") rfl)
  obtain ⟨fd_law, D_law⟩ := cd.def_ 21 (d := d_law) rfl
  have m_law := He.glo_ok X G (cd.fact 29 (f := .glo "law") rfl)
  have e := hfa.symm.trans m_law
  cases e
  obtain ⟨fd_told, D_told⟩ := cd.def_ 23 (d := d_told) rfl
  have m_told := He.glo_ok X G (cd.fact 39 (f := .glo "_law_rest_told") rfl)
  refine ⟨fd_law, (He.cT K ("law", none)).1, (He.cT K ("law", none)).2, fun s u => FunD.bindsA (ps := ["script"]) D_law (fun _ _ _ _ _ _ us hl => match us, hl with | [_], _ => rfl) s [u] rfl, ⟨cV.bare, cV.away, PySem.W.codeHd_of_K X cV.code⟩, fun base _ _ TB => ?_⟩
  have g_law_take := ok_law_take (w := w) (base := base) (cl := clK K) D_law_take m_law_take 
  have g_law_machine := ok_law_machine (w := w) (base := base) (cl := clK K) D_law_machine m_law_machine g_law_take z_range z_tuple
  have g_prime_of := ok_prime_of (w := w) (base := base) (cl := clK K) D_prime_of m_prime_of z_int z_len h_PRIMES
  have g_program_of := ok_program_of (w := w) (base := base) (cl := clK K) D_program_of m_program_of g_prime_of e_TooMany z_enumerate z_len z_tuple h_PRIMES
  have g_law_stand := ok_law_stand (w := w) (base := base) (cl := clK K) D_law_stand m_law_stand g_law_take z_len z_range z_tuple
  have g_law_led := ok_law_led (w := w) (base := base) (cl := clK K) D_law_led m_law_led 
  have g_law_stands := ok_law_stands (w := w) (base := base) (cl := clK K) D_law_stands m_law_stands g_law_led z_len
  have g_law_pot := ok_law_pot (w := w) (base := base) (cl := clK K) D_law_pot m_law_pot z_range
  have g_stand_powers := ok_stand_powers (w := w) (base := base) (cl := clK K) D_stand_powers m_stand_powers z_int z_len z_list z_tuple h_PRIMES
  have g_law_cell_at := ok_law_cell_at (w := w) (base := base) (cl := clK K) D_law_cell_at m_law_cell_at z_len
  have g_found_powers := ok_found_powers (w := w) (base := base) (cl := clK K) D_found_powers m_found_powers z_tuple h_PRIMES
  have g_bottoms_of := ok_bottoms_of (w := w) (base := base) (cl := clK K) D_bottoms_of m_bottoms_of g_found_powers
  have g_tops_of := ok_tops_of (w := w) (base := base) (cl := clK K) D_tops_of m_tops_of g_found_powers
  have g_changes_of := ok_changes_of (w := w) (base := base) (cl := clK K) D_changes_of m_changes_of g_tops_of g_bottoms_of z_tuple z_zip
  have g_Ways_init := ok_Ways_init (w := w) (mg := mg) (base := base) (cl := clK K) D_Ways_init mm_Ways_init mc_Ways g_bottoms_of g_changes_of c_Ways n_Ways_wants n_Ways_adds
  have g_Ways_first := ok_Ways_first (w := w) (mg := mg) (base := base) (cl := clK K) D_Ways_first mm_Ways_first c_Ways c_Ways n_Ways_wants z_all z_enumerate z_zip
  have g_Ways_gone := ok_Ways_gone (w := w) (mg := mg) (base := base) (cl := clK K) D_Ways_gone mm_Ways_gone c_Ways c_Ways n_Ways_adds z_tuple z_zip
  have g_after := ok_after (w := w) (base := base) (cl := clK K) D_after m_after g_Ways_init g_Ways_first g_Ways_gone (e_AtRest base) z_range
  have g_step := ok_step (w := w) (base := base) (cl := clK K) D_step m_step g_after
  have g_first_fit := ok_first_fit (w := w) (base := base) (cl := clK K) D_first_fit m_first_fit g_Ways_first g_Ways_init
  have g_machine_after := ok_machine_after (w := w) (base := base) (cl := clK K) D_machine_after m_machine_after (e_AtRest base) z_len z_list z_range z_tuple
  exact ok_law (w := w) (base := base) (cl := clK K) D_law m_law g_law_machine g_program_of g_law_stand g_law_stands g_law_pot g_stand_powers g_law_cell_at g_step g_after g_first_fit g_machine_after mc_AtRest z_len z_range m_told D_told (tt.i 11 (by decide)) nf (tt.m 11 (by decide)) TB
theorem walk (hL : ∀ (P : Addr) (ns : List Int), ns.length ≤ 63 → ∃ h', F_law_k75 P [.scr ns] [.tab P (codeF lamQ)] = .ok (.bl true) h') : PySem.Challenge.rw_wholefract_k75_whole_machine_and_program.Holds := by
  w_on; o_law
  refine HandSHeadRun.head_any (r := R) (q := qv) (H := hk) (ob := ob) (M := 3960) (loose := names) (kwd := []) ob_eq (by kernel_rfl) (fun s => by kernel_rfl) run (by rfl) (by rfl) (by rfl) (by rfl) (by first | assumption | decide +kernel) (by decide +kernel) ⟨rfl, rfl, rfl, rfl, rfl, by decide +kernel⟩ ?hw ?hc
  case hw => w_witness2
  case hc =>
    refine walk_ofV (l := PySem.Challenge.rw_wholefract_k75_whole_machine_and_program) (n := 63) (k := 10) (x := "script") (F := F_law_k75) rfl (by decide) rfl ⟨rfl, by decide, by decide⟩ (fun w mg fa h Y G e => ?_) hL
    obtain ⟨K, KX, c⟩ := Y
    have ⟨fd, cc, P, hb, t, ok⟩ := facts (w := w) KX G c e
    exact ⟨K, _, fd, cc, P, KX, hb, t, ok⟩
end K75
end
namespace Gd
open PySem PySem.Spec PyProof.Rows L2 Sm
theorem take_eq {h : Store} {n : Nat} {v far : Int} (p : potAt h n v) (f0 : 0 < far) (f1 : far < 2 ^ 64) : F_law_take [.loc n, .int far] h = .ok (.int (v % far)) (pst h n (v / far)) := by
  refine Out.wp_eq' (fn_wp rfl ?_)
  show (b_law_take [some (.loc n), some (.int far), none] h).wp _
  have d0 : far ≠ 0 := by omega
  have d1 : divB far = true := divB_s d0 (by omega)
  simp [b_law_take, q3_idxC p.1, d0, d1, fmod_p (Int.le_of_lt f0), fdiv_p (Int.le_of_lt f0), setP p, fnP]
theorem take_1 {h : Store} {n : Nat} {v far : Int} (hn : n < h.length) (hv : 0 ≤ v) (f0 : 0 < far) (f1 : far < 2 ^ 64) : F_law_take [.loc n, .int far] (pst h n v) = .ok (.int (v % far)) (pst h n (v / far)) := by
  rw [take_eq (potAt.old hn hv) f0 f1, pst_pst]
theorem take_2 {h l : Store} {n : Nat} {v far : Int} (hn : n < h.length) (hv : 0 ≤ v) (f0 : 0 < far) (f1 : far < 2 ^ 64) : F_law_take [.loc n, .int far] (pst h n v ++ l) = .ok (.int (v % far)) (pst h n (v / far) ++ l) := by
  rw [take_eq ((potAt.old hn hv).app l) f0 f1, pst_app2 hn]
theorem cell_eq {h : Store} {ns : List Int} {k : Int} (h0 : 0 ≤ k) : ∃ v : Int, F_law_cell_at [.scr ns, .int k] h = .ok (.int v) h := by
  by_cases hk : k < ns.length
  · have hk' : k.toNat < ns.length := by omega
    refine ⟨ns[k.toNat], Out.wp_eq' (fn_wp rfl ?_)⟩
    show (b_law_cell_at [some (.scr ns), some (.int k)] h).wp _
    simp [b_law_cell_at, hk, hk', atI_p h0, fnP]
  · refine ⟨0, Out.wp_eq' (fn_wp rfl ?_)⟩
    show (b_law_cell_at [some (.scr ns), some (.int k)] h).wp _
    simp [b_law_cell_at, hk, fnP]
theorem pot_wp {h : Store} {c : Int} : (F_law_pot [.int c] h).wp (fun t h' => t = .loc h.length ∧ ∃ v, 0 ≤ v ∧ h' = h ++ [.lst [.int v]]) (fun _ _ => False) := by
  refine fnK_wp rfl ?_
  show (b_law_pot [some (.int c), none, none, none] h).wp _
  by_cases hc : 1000000000000000000 ≤ c
  · simp [b_law_pot, fPow, hc, fnK]
  · simp (disch := first | omega | simp) [b_law_pot, fPow, hc, fnK, sFor, asR1_ok, so_seq]
    refine forLoop_wp _ (fun _ env h' => h' = h ∧ ∃ v : Int, 0 ≤ v ∧ env = [some (.int c), some (.int v), none, none]) ?_ ?_ ⟨rfl, 0, by decide, rfl⟩
    · rintro i x env h' hx ⟨rfl, v, hv, rfl⟩
      obtain ⟨rfl, hi⟩ := range_at hx
      refine ⟨by simp, _, b_one, ?_⟩
      simp (disch := first | omega | simp) [mulB_r, fmod_p]
      omega
    · rintro env h' ⟨rfl, v, hv, rfl⟩
      simp
      exact hv
theorem pot_ok {h : Store} {c : Int} {Q : T → Store → Prop} {X : Ex → Store → Prop} (q : ∀ v, 0 ≤ v → Q (.loc h.length) (h ++ [.lst [.int v]])) : (F_law_pot [.int c] h).wp Q X :=
  Out.wp_mono pot_wp (fun _ _ ⟨e, v, hv, e2⟩ => by rw [e, e2]; exact q v hv) fun _ _ z => z.elim
end Gd
namespace Gd
open PySem PySem.Spec PyProof.Rows L2 Sm
def isRow (many size : Int) (r : T) : Prop :=
  (∃ c t, 0 ≤ c ∧ c < many ∧ 0 ≤ t ∧ t ≤ size ∧ r = .tup [.str "add", .int c, .int t]) ∨ ∃ c t u, 0 ≤ c ∧ c < many ∧ 0 ≤ t ∧ t ≤ size ∧ 0 ≤ u ∧ u ≤ size ∧ r = .tup [.str "take", .int c, .int t, .int u]
theorem isRow.pu {many size : Int} {r : T} (h : isRow many size r) : r.pu = true := by
  obtain ⟨c, t, _, _, _, _, rfl⟩ | ⟨c, t, u, _, _, _, _, _, _, rfl⟩ := h <;> simp
theorem machine_wp {h : Store} {n : Nat} {v a b : Int} {Q : T → Store → Prop} {X : Ex → Store → Prop} (p : potAt h n v) (a0 : 0 < a) (a1 : a < 1000) (b0 : 0 < b) (b1 : b < 1000)
    (q : ∀ many rows w, 0 ≤ w → 1 ≤ many → many ≤ a → 1 ≤ rows.length → (rows.length : Int) ≤ b → (∀ r ∈ rows, isRow many rows.length r) → Q (.tup [.int many, .tup rows]) (pst h n w)) : (F_law_machine [.loc n, .int a, .int b] h).wp Q X := by
  refine fn_wp rfl ?_
  show (b_law_machine [some (.loc n), some (.int a), some (.int b), none, none, none, none, none] h).wp _
  have hn := p.lt
  have v1 : 0 ≤ v / a := Int.ediv_nonneg p.2 (by omega)
  have v2 : 0 ≤ v / a / b := Int.ediv_nonneg v1 (by omega)
  have m1 := Int.emod_nonneg v (show a ≠ 0 by omega)
  have m2 := Int.emod_lt_of_pos v a0
  have m3 := Int.emod_nonneg (v / a) (show b ≠ 0 by omega)
  have m4 := Int.emod_lt_of_pos (v / a) b0
  simp (disch := first | omega | assumption | simp) [b_law_machine, take_eq p, take_1, sFor, asR1_ok, so_seq]
  generalize hmany : 1 + v % a = many
  generalize hsize : 1 + v / a % b = size
  refine forLoop_wp _ (fun i env h' => ∃ w acc, 0 ≤ w ∧ h' = pst h n w ++ [.lst acc] ∧ acc.length = i ∧ (∀ r ∈ acc, isRow many size r) ∧
    env = [some (.loc n), none, none, some (.int many), some (.int size), some (.loc h.length), none, none]) ?_ ?_ ⟨v / a / b, [], v2, rfl, rfl, by simp, rfl⟩
  · rintro i x env h' hx ⟨w, acc, hw, rfl, hl, hr, rfl⟩
    obtain ⟨rfl, hi⟩ := range_at hx
    refine ⟨by simp, _, b_one, ?_⟩
    have q0 : potAt (pst h n w ++ [.lst acc]) n w := (p.pst hw).app _
    have w1 : 0 ≤ w / many := Int.ediv_nonneg hw (by omega)
    have w2 : 0 ≤ w / many / 2 := by omega
    have w3 : 0 ≤ w / many / 2 / (size + 1) := Int.ediv_nonneg w2 (by omega)
    have w4 : 0 ≤ w / many / 2 / (size + 1) / (size + 1) := Int.ediv_nonneg w3 (by omega)
    have k0 := Int.emod_nonneg w (show many ≠ 0 by omega)
    have k1 := Int.emod_lt_of_pos w (show 0 < many by omega)
    have k2 := Int.emod_nonneg (w / many / 2) (show size + 1 ≠ 0 by omega)
    have k3 := Int.emod_lt_of_pos (w / many / 2) (show 0 < size + 1 by omega)
    have k4 := Int.emod_nonneg (w / many / 2 / (size + 1)) (show size + 1 ≠ 0 by omega)
    have k5 := Int.emod_lt_of_pos (w / many / 2 / (size + 1)) (show 0 < size + 1 by omega)
    by_cases hz : w / many % 2 = 0
    · simp (disch := first | omega | assumption | simp) [take_2, hz, at_end, e_append]
      exact ⟨_, w3, _, ⟨rfl, rfl⟩, by simp [hl], fun r hr' => (List.mem_append.mp hr').elim (hr r) fun z => .inl ⟨_, _, k0, k1, k2, by omega, List.mem_singleton.mp z⟩⟩
    · simp (disch := first | omega | assumption | simp) [take_2, hz, at_end, e_append]
      exact ⟨_, w4, _, ⟨rfl, rfl⟩, by simp [hl], fun r hr' => (List.mem_append.mp hr').elim (hr r) fun z => .inr ⟨_, _, _, k0, k1, k2, by omega, k4, by omega, List.mem_singleton.mp z⟩⟩
  · rintro env h' ⟨w, acc, hw, rfl, hl, hr, rfl⟩
    have hp : pus acc = true := pus_iff.mpr fun r z => (hr r z).pu
    have hs : (acc.length : Int) = size := by rw [hl, Sm.rangeT_length]; omega
    simp [tup_loc (at_end (h := pst h n w) (c := .lst acc) (m := h.length) pst_len), fnP, hp]
    exact q many acc w hw (by omega) (by omega) (by omega) (by omega) (by rw [hs]; exact hr)
end Gd
namespace Gd
open PySem PySem.Spec PyProof.Rows L2 Sm
end Gd
namespace Gd
open PySem PySem.Spec PyProof.Rows L2 Sm
section
variable {h h1 : Store} {env : Env'} {a d : Addr} {e : Ex} {m : M T} {b : Bool}
end
end Gd
namespace Gd
open PySem PySem.Spec PyProof.Rows L2 Sm
def strip (p n : Nat) : Nat × Nat := if h : 1 < p ∧ 0 < n ∧ n % p = 0 then ((strip p (n / p)).1 + 1, (strip p (n / p)).2) else (0, n)
termination_by n
decreasing_by all_goals exact Nat.div_lt_self h.2.1 h.1
def stripAll : List Nat → Nat → List Nat × Nat
  | [], n => ([], n)
  | p :: ps, n => ((strip p n).1 :: (stripAll ps (strip p n).2).1, (stripAll ps (strip p n).2).2)
def PR : List Nat := [2, 3, 5, 7, 11, 13, 17, 19, 23, 29]
def tN (n : Nat) : T := .int (n : Int)
theorem strip_yes {p n : Nat} (h1 : 1 < p) (h2 : 0 < n) (h3 : n % p = 0) : strip p n = ((strip p (n / p)).1 + 1, (strip p (n / p)).2) := by rw [strip, dif_pos ⟨h1, h2, h3⟩]
theorem strip_no {p n : Nat} (h3 : n % p ≠ 0) : strip p n = (0, n) := by rw [strip, dif_neg fun z => h3 z.2.2]
theorem strip_pos {p : Nat} (h1 : 1 < p) : ∀ (n : Nat), 0 < n → 0 < (strip p n).2 := by
  intro n
  induction n using Nat.strongRecOn with
  | ind n ih =>
    intro h
    by_cases h3 : n % p = 0
    · rw [strip_yes h1 h h3]
      exact ih _ (Nat.div_lt_self h h1) (Nat.div_pos (Nat.le_of_dvd h (Nat.dvd_of_mod_eq_zero h3)) (by omega))
    · rw [strip_no h3]
      exact h
theorem strip_mul {p : Nat} (h1 : 1 < p) : ∀ (n : Nat), 0 < n → n = p ^ (strip p n).1 * (strip p n).2 := by
  intro n
  induction n using Nat.strongRecOn with
  | ind n ih =>
    intro h
    by_cases h3 : n % p = 0
    · have hd := Nat.dvd_of_mod_eq_zero h3
      have e := ih _ (Nat.div_lt_self h h1) (Nat.div_pos (Nat.le_of_dvd h hd) (by omega))
      rw [strip_yes h1 h h3]
      show n = p ^ ((strip p (n / p)).1 + 1) * (strip p (n / p)).2
      rw [Nat.pow_succ, Nat.mul_comm (p ^ _) p, Nat.mul_assoc, ← e]
      exact (Nat.mul_div_cancel' hd).symm
    · rw [strip_no h3]
      simp
noncomputable def stripBody : MS := (sSeq (sSet 2 (mC (.int 0)))
  (sSeq (sWhile (mTst (mBin fEq (mBin fMod (mVar 0) (mVar 3)) (mC (.int 0)))) []
  (sSeq (sSet 0 (mBin fFdiv (mVar 0) (mVar 3)))
  (sSet 2 (mBin fAdd (mVar 2) (mC (.int 1))))))
  (sExp (mMethL fAppend (mVar 1) (mCons (mVar 2) mNil)))))
theorem strip_step {n p m : Nat} {h : Store} {acc : List T} {o : Option T} {P : Pst} (n0 : 0 < n) (p1 : 1 < p) (p2 : p < 2 ^ 64) (hm : h.length = m) (ha : acc.length < 1000)
    (q : P.nx [some (tN (strip p n).2), some (.loc m), some (tN (strip p n).1), some (tN p)] (h ++ [.lst (acc ++ [tN (strip p n).1])])) : (stripBody [some (tN n), some (.loc m), o, some (tN p)] (h ++ [.lst acc])).wp P := by
  simp only [stripBody, q2_seq, q2_set, q1_C, bindE_ok, seq_nx, List.set_cons_succ, List.set_cons_zero, so_seq, sWhile, drop_nil, tN]
  refine whileL_wp (fun k env h' => ∃ (k1 e : Nat), k1 = k ∧ 0 < k1 ∧ h' = h ++ [.lst acc] ∧ env = [some (.int (k1 : Int)), some (.loc m), some (.int (e : Int)), some (.int (p : Int))] ∧ e + (strip p k1).1 = (strip p n).1 ∧ (strip p k1).2 = (strip p n).2) ?_ n ⟨n, 0, rfl, n0, rfl, rfl, Nat.zero_add _, rfl⟩
  rintro k env h' ⟨k1, e, rfl, k0, rfl, rfl, e1, e2⟩
  have pn : ¬ p = 0 := by omega
  have dv : divB (p : Int) = true := divB_s (by omega) (by omega)
  obtain ⟨r, hr⟩ : ∃ r, r = k1 % p := ⟨_, rfl⟩
  obtain ⟨d, hd⟩ : ∃ d, d = k1 / p := ⟨_, rfl⟩
  have em : ((k1 : Int).fmod (p : Int)) = (r : Int) := by rw [fmod_p (by omega), hr]; rfl
  have ed : ((k1 : Int).fdiv (p : Int)) = (d : Int) := by rw [fdiv_p (by omega), hd]; rfl
  by_cases hz : r = 0
  · simp [em, ed, hz, pn, dv]
    have hz' : k1 % p = 0 := by rw [← hr]; exact hz
    rw [strip_yes p1 k0 hz', ← hd] at e1 e2
    exact ⟨d, by rw [hd]; exact Nat.div_lt_self k0 p1, by rw [hd]; exact Nat.div_pos (Nat.le_of_dvd k0 (Nat.dvd_of_mod_eq_zero hz')) (by omega), e + 1, ⟨rfl, rfl⟩, by simp at e1; omega, e2⟩
  · have hz' : k1 % p ≠ 0 := by rw [← hr]; exact hz
    rw [strip_no hz'] at e1 e2
    simp [em, hz, pn, at_end hm]
    simp at e1 e2
    rw [e_append hm (by omega) rfl, e1, e2]
    exact q
theorem stripAll_len : ∀ (ps : List Nat) (n : Nat), (stripAll ps n).1.length = ps.length
  | [], _ => rfl
  | p :: ps, n => by simp [stripAll, stripAll_len ps]
theorem strip_loop {n m : Nat} {h : Store} {P : Pst} {ps : List Nat} (n0 : 0 < n) (hp : ∀ p ∈ ps, 1 < p ∧ p < 2 ^ 64) (hl : ps.length < 1000) (hm : h.length = m)
    (q : 0 < (stripAll ps n).2 → P.nx [some (tN (stripAll ps n).2), some (.loc m), none, none] (h ++ [.lst ((stripAll ps n).1.map tN)])) :
    (forLoop [] (.one 3) [2, 3] stripBody (ps.map tN) [some (tN n), some (.loc m), none, none] (h ++ [.lst []])).wp P := by
  refine forLoop_wp _ (fun i env h' => ∃ (k : Nat) (es : List Nat), 0 < k ∧ i ≤ ps.length ∧ es.length = i ∧ env = [some (tN k), some (.loc m), none, none] ∧ h' = h ++ [.lst (es.map tN)] ∧ es ++ (stripAll (ps.drop i) k).1 = (stripAll ps n).1 ∧ (stripAll (ps.drop i) k).2 = (stripAll ps n).2) ?_ ?_ ⟨n, [], n0, Nat.zero_le _, rfl, rfl, rfl, rfl, rfl⟩
  · rintro i x env h' hx ⟨k, es, k0, hi, hes, rfl, rfl, e1, e2⟩
    rw [List.getElem?_map, Option.map_eq_some_iff] at hx
    obtain ⟨p, hpi, rfl⟩ := hx
    have il : i < ps.length := (List.getElem?_eq_some_iff.mp hpi).1
    obtain ⟨p1, p2⟩ := hp p (List.mem_of_getElem? hpi)
    refine ⟨by simp, _, b_one, ?_⟩
    have dr : ps.drop i = p :: ps.drop (i + 1) := by rw [List.drop_eq_getElem_cons il]; congr 1; exact (List.getElem?_eq_some_iff.mp hpi).2
    rw [dr] at e1 e2
    simp only [stripAll] at e1 e2
    show (stripBody [some (tN k), some (.loc m), none, some (tN p)] _).wp _
    refine strip_step k0 p1 p2 hm (by rw [List.length_map]; omega) ?_
    exact ⟨(strip p k).2, es ++ [(strip p k).1], strip_pos p1 k k0, il, by simp [hes], rfl, by simp, by rw [← e1]; simp, e2⟩
  · rintro env h' ⟨k, es, k0, hi, hes, rfl, rfl, e1, e2⟩
    rw [List.length_map, List.drop_length] at e1 e2
    simp only [stripAll, List.append_nil] at e1 e2
    refine ⟨by simp, ?_⟩
    rw [e1, e2]
    exact q (by rw [← e2]; exact k0)
theorem PR_ok : ∀ p ∈ PR, 1 < p ∧ p < 2 ^ 64 := by decide
def fullT (n : Nat) : T := if (stripAll PR n).2 = 1 then .tup ((stripAll PR n).1.map tN) else .non
@[simp] theorem pus_tN {es : List Nat} : pus (es.map tN) = true := pus_iff.mpr fun x hx => by
  obtain ⟨n, _, rfl⟩ := List.mem_map.mp hx
  rfl
theorem found_eq {h : Store} {n : Nat} (n0 : 0 < n) : F_found_powers [tN n] h = .ok (fullT n) h := by
  refine Out.wp_eq' (fn_wp rfl ?_)
  show (b_found_powers [some (tN n), none, none, none] h).wp _
  have tp : t_PRIMES = .tup (PR.map tN) := rfl
  simp only [b_found_powers, q2_seq, q2_set, q1_cell, q1_lst, q1_nil, bind_ok, List.length_nil, Nat.zero_le, if_true, pus_nil, bindE_ok, seq_nx, List.set_cons_succ, List.set_cons_zero, sFor, q1_seqS, q1_C, tp, asS_tup, drop_cons, drop_nil, so_seq]
  refine strip_loop (ps := PR) n0 PR_ok (by decide) rfl fun r0 => ?_
  by_cases r1 : (stripAll PR n).2 = 1
  · simp [r1, tN, e_tup, fnP, fullT]
  · have r2 : ¬ ((stripAll PR n).2 : Int) = 1 := by omega
    simp [r1, r2, tN, e_tup, fnP, fullT]
theorem PR_pair : PR.Pairwise Nat.Coprime := by decide
end Gd
namespace Gd
open PySem PySem.Spec PyProof.Rows L2 Sm
def upto (t : T) (a b : Int) : Bool := match t with
  | .int i => decide (a ≤ i) && decide (i ≤ b)
  | _ => false
def full (n : Nat) : Bool := (stripAll PR n).2 == 1
def apart : List Nat → List Nat → Bool
  | x :: xs, y :: ys => (x == 0 || y == 0) && apart xs ys
  | _, _ => true
def fracB (t : T) : Bool := match t with
  | .tup [.int x, .int y] => upto (.int x) 1 1000000000000 && upto (.int y) 1 1000000000000 && full x.toNat && full y.toNat && decide (Nat.gcd x.toNat y.toNat = 1)
  | _ => false
end Gd
namespace Gd
open PySem PySem.Spec PyProof.Rows L2 Sm
def prodOf : List Nat → List Nat → Nat
  | p :: ps, e :: es => p ^ e * prodOf ps es
  | _, _ => 1
theorem strip_pow {p m : Nat} (h1 : 1 < p) (m0 : 0 < m) (hm : ¬ p ∣ m) : ∀ e : Nat, strip p (p ^ e * m) = (e, m) := by
  intro e
  induction e with
  | zero =>
    rw [Nat.pow_zero, Nat.one_mul]
    exact strip_no fun z => hm (Nat.dvd_of_mod_eq_zero z)
  | succ e ih =>
    have hd : p ^ (e + 1) * m = p * (p ^ e * m) := by rw [Nat.pow_succ, Nat.mul_comm (p ^ e) p, Nat.mul_assoc]
    have hp : 0 < p ^ e * m := Nat.mul_pos (Nat.pow_pos (by omega)) m0
    rw [hd, strip_yes h1 (Nat.mul_pos (by omega) hp) (Nat.mul_mod_right ..), Nat.mul_div_cancel_left _ (by omega), ih]
theorem prodOf_pos : ∀ {ps es : List Nat}, (∀ p ∈ ps, 1 < p) → 0 < prodOf ps es
  | [], _, _ => Nat.one_pos
  | p :: ps, [], _ => Nat.one_pos
  | p :: ps, e :: es, h => Nat.mul_pos (Nat.pow_pos (by have := h p (List.mem_cons_self ..); omega)) (prodOf_pos fun x hx => h x (List.mem_cons_of_mem _ hx))
theorem prodOf_cop : ∀ {ps es : List Nat} {q : Nat}, (∀ p ∈ ps, Nat.Coprime q p) → Nat.Coprime q (prodOf ps es)
  | [], _, q, _ => Nat.coprime_one_right q
  | p :: ps, [], q, _ => Nat.coprime_one_right q
  | p :: ps, e :: es, q, h => Nat.Coprime.mul_right (Nat.Coprime.pow_right _ (h p (List.mem_cons_self ..))) (prodOf_cop fun x hx => h x (List.mem_cons_of_mem _ hx))
theorem strip_prod : ∀ {ps es : List Nat}, (∀ p ∈ ps, 1 < p) → ps.Pairwise Nat.Coprime → es.length = ps.length → stripAll ps (prodOf ps es) = (es, 1)
  | [], [], _, _, _ => rfl
  | p :: ps, e :: es, h, hc, hl => by
    have p1 := h p (List.mem_cons_self ..)
    have hp := fun x hx => h x (List.mem_cons_of_mem _ hx)
    have cop : Nat.Coprime p (prodOf ps es) := prodOf_cop (List.pairwise_cons.mp hc).1
    have nd : ¬ p ∣ prodOf ps es := fun z => by
      have := Nat.Coprime.eq_one_of_dvd cop z
      omega
    have s : strip p (prodOf (p :: ps) (e :: es)) = (e, prodOf ps es) := strip_pow p1 (prodOf_pos hp) nd e
    simp only [stripAll, s, strip_prod hp (List.pairwise_cons.mp hc).2 (by simpa using hl)]
theorem asN_ok {e : Nat} (ee : e < 1000) {h' : Store} : asR1 [tN e] h' = .ok ⟨Sm.rangeT 0 (e : Int).toNat, []⟩ h' := asR1_ok (by omega) (by omega)
theorem sFor_of {src : M Src} {tg : Tgt} {kl : List Nat} {b : MS} {env : Env'} {h h1 : Store} {s : Src} (e : src env h = .ok s h1) : sFor src tg kl b env h = forLoop s.gs tg kl b s.items (dropE kl env) h1 := by
  unfold sFor
  rw [e, bindE_ok]
end Gd
namespace Gd
open PySem PySem.Spec PyProof.Rows L2 Sm
end Gd
namespace Gd
open PySem PySem.Spec PyProof.Rows L2 Sm
theorem range_of {r : M (List T)} {env : Env'} {h h1 : Store} {e : Nat} (er : r env h = .ok [tN e] h1) (ee : e < 1000) : mRange1 r env h = .ok ⟨Sm.rangeT 0 e, []⟩ h1 := by
  rw [q1_range1, er, bind_ok]
  have := asN_ok ee (h' := h1)
  rw [Int.toNat_natCast] at this
  exact this
end Gd
namespace Gd
open PySem PySem.Spec PyProof.Rows L2 Sm
end Gd
namespace Gd
open PySem PySem.Spec PyProof.Rows L2 Sm
def isFr (f : T) : Prop := ∃ a b : Nat, f = .tup [tN a, tN b] ∧ fracB f = true
theorem isFr.plain {f : T} (k : isFr f) : f.plain = true := by
  obtain ⟨a, b, rfl, _⟩ := k
  simp [tN]
end Gd
namespace Gd
open PySem PySem.Spec PyProof.Rows L2 Sm
abbrev iT (xs : List Int) : T := .tup (xs.map T.int)
def nI (es : List Nat) : List Int := es.map Int.ofNat
theorem tN_nI (es : List Nat) : es.map tN = (nI es).map T.int := by
  simp [nI, tN]
def zpT (xs ys : List Int) : List T := (xs.zip ys).map fun p => .tup [.int p.1, .int p.2]
theorem zw_zp : ∀ {xs ys : List Int}, List.zipWith pairT (xs.map T.int) (ys.map T.int) = zpT xs ys
  | [], _ => by simp [zpT]
  | _ :: _, [] => by simp [zpT]
  | x :: xs, y :: ys => by
    have := zw_zp (xs := xs) (ys := ys)
    simp only [List.map_cons, List.zipWith_cons_cons, this, zpT, List.zip_cons_cons]
    rfl
theorem src_zip {r : M (List T)} {env : Env'} {h h1 : Store} {xs ys : List Int} (er : r env h = .ok [iT xs, iT ys] h1) : mZip r env h = .ok ⟨zpT xs ys, []⟩ h1 := by
  unfold mZip
  rw [er]
  simp only [bind_ok, seqK, gdOf, lstOf, Option.map_some, List.append_nil, zw_zp]
theorem comp_zip {r : M (List T)} {env : Env'} {h h1 : Store} {xs ys : List Int} {tg : Tgt} {own : List Nat} {me : M T} (f : Int → Int → T) (es : mZip r env h = .ok ⟨zpT xs ys, []⟩ h1) (hl : xs.length ≤ 1000)
    (el : ∀ x y, ∃ env1, bindT tg (.tup [.int x, .int y]) (dropE own env) = some env1 ∧ me env1 h1 = .ok (f x y) h1) :
    mComp (mZip r) own tg mYes me env h = .ok ((xs.zip ys).map fun p => f p.1 p.2) h1 := by
  unfold mComp
  rw [es]
  show compLoop [] tg mYes me (dropE own env) (zpT xs ys) [] h1 = _
  have kc := compLoop_map (gs := []) (tg := tg) (me := me) (env := dropE own env) (h := h1) (zpT xs ys) (fun t => match t with | .tup [.int u, .int v] => f u v | _ => .non) (by simp) (by simp [zpT]; omega) fun z hz => by
    obtain ⟨p, hp, rfl⟩ := List.mem_map.mp hz
    obtain ⟨e, a, b⟩ := el p.1 p.2
    exact ⟨e, a, b⟩
  rw [kc]
  unfold zpT
  rw [List.map_map]
  rfl
def subL (xs ys : List Int) : List Int := (xs.zip ys).map fun p => p.1 - p.2
def fits (xs ws : List Int) : Bool := (xs.zip ws).all fun p => decide (p.2 ≤ p.1)
theorem zip_ints {f : Int → Int → Int} {xs ys : List Int} : ((xs.zip ys).map fun p => T.int (f p.1 p.2)) = ((xs.zip ys).map fun p => f p.1 p.2).map T.int := by
  rw [List.map_map]
  rfl
theorem subL_len {xs ys : List Int} : (subL xs ys).length = min xs.length ys.length := by simp [subL]
abbrev Fr := Nat × Nat
def frT (p : Fr) : T := .tup [tN p.1, tN p.2]
abbrev prT (fr : List Fr) : T := .tup (fr.map frT)
structure okFr (p : Fr) : Prop where
  a0 : 0 < p.1
  b0 : 0 < p.2
  fa : full p.1 = true
  fb : full p.2 = true
  am : p.1 ≤ 1000000000000
  bm : p.2 ≤ 1000000000000
  co : Nat.gcd p.1 p.2 = 1
def okP (fr : List Fr) : Prop := ∀ p ∈ fr, okFr p
def ex (n : Nat) : List Int := nI (stripAll PR n).1
theorem ex_len {n : Nat} : (ex n).length = 10 := by simp [ex, nI, stripAll_len, PR]
theorem full_ex {n : Nat} (f : full n = true) : fullT n = iT (ex n) := by
  have : (stripAll PR n).2 = 1 := by simpa [full] using f
  rw [fullT, if_pos this, tN_nI]
  rfl
def addF (p : Fr) : List Int := subL (ex p.1) (ex p.2)
theorem addF_len {p : Fr} : (addF p).length = 10 := by simp [addF, subL_len, ex_len]
abbrev topsT (fr : List Fr) : T := .lst (fr.map fun p => iT (ex p.1))
abbrev wantT (fr : List Fr) : T := .lst (fr.map fun p => iT (ex p.2))
abbrev addsT (fr : List Fr) : T := .lst (fr.map fun p => iT (addF p))
section
variable {h : Store} {fr : List Fr}
theorem pus_map {α : Type} {f : α → T} {l : List α} (k : ∀ x, (f x).pu = true) : pus (l.map f) = true := pus_iff.mpr fun t m => by
  obtain ⟨x, _, rfl⟩ := List.mem_map.mp m
  exact k x
theorem pu_iT {xs : List Int} : (iT xs).pu = true := by simp
theorem tops_eq (k : okP fr) (hl : fr.length ≤ 1000) : F_tops_of [prT fr] h = .ok (topsT fr) h := by
  refine Out.wp_eq (fn_wp rfl ?_)
  show (b_tops_of [some (prT fr), none, none] h).wp _
  have kc := compLoop_map (gs := []) (tg := .tup [1, 2]) (me := mCall F_found_powers (mCons (mVar 1) mNil)) (env := [some (prT fr), none, none]) (h := h) (fr.map frT) (fun t => match t with | .tup [.int u, .int v] => fullT u.toNat | _ => .non) (by simp) (by simp; omega) fun z hz => by
    obtain ⟨p, hp, rfl⟩ := List.mem_map.mp hz
    refine ⟨_, b_tup, ?_⟩
    have e := found_eq (h := h) (k p hp).a0
    simp only [tN] at e
    simp [setT, tN, e, frT]
  have em : ((fr.map frT).map fun t => match t with | .tup [.int u, .int v] => fullT u.toNat | _ => .non) = fr.map fun p => iT (ex p.1) := by
    rw [List.map_map]
    refine List.map_congr_left fun (p : Fr) hp => ?_
    show fullT (p.1 : Int).toNat = _
    rw [Int.toNat_natCast, full_ex (k p hp).fa]
  rw [em] at kc
  simp [b_tops_of, mComp, kc, fnP, pus_map (fun p : Fr => pu_iT (xs := ex p.1))]
theorem bottoms_eq (k : okP fr) (hl : fr.length ≤ 1000) : F_bottoms_of [prT fr] h = .ok (wantT fr) h := by
  refine Out.wp_eq (fn_wp rfl ?_)
  show (b_bottoms_of [some (prT fr), none, none] h).wp _
  have kc := compLoop_map (gs := []) (tg := .tup [1, 2]) (me := mCall F_found_powers (mCons (mVar 2) mNil)) (env := [some (prT fr), none, none]) (h := h) (fr.map frT) (fun t => match t with | .tup [.int u, .int v] => fullT v.toNat | _ => .non) (by simp) (by simp; omega) fun z hz => by
    obtain ⟨p, hp, rfl⟩ := List.mem_map.mp hz
    refine ⟨_, b_tup, ?_⟩
    have e := found_eq (h := h) (k p hp).b0
    simp only [tN] at e
    simp [setT, tN, e, frT]
  have em : ((fr.map frT).map fun t => match t with | .tup [.int u, .int v] => fullT v.toNat | _ => .non) = fr.map fun p => iT (ex p.2) := by
    rw [List.map_map]
    refine List.map_congr_left fun (p : Fr) hp => ?_
    show fullT (p.2 : Int).toNat = _
    rw [Int.toNat_natCast, full_ex (k p hp).fb]
  rw [em] at kc
  simp [b_bottoms_of, mComp, kc, fnP, pus_map (fun p : Fr => pu_iT (xs := ex p.2))]
end
end Gd
namespace Gd
open PySem PySem.Spec PyProof.Rows L2 Sm
section
variable {h : Store} {fr : List Fr}
theorem src_zipA {r : M (List T)} {env : Env'} {h h1 : Store} {xs ys : List T} (er : r env h = .ok [.lst xs, .lst ys] h1) : mZip r env h = .ok ⟨List.zipWith pairT xs ys, []⟩ h1 := by
  unfold mZip
  rw [er]
  simp only [bind_ok, seqK, gdOf, lstOf, Option.map_some, List.append_nil]
theorem zw_map {α : Type} {f g : α → T} : ∀ l : List α, List.zipWith pairT (l.map f) (l.map g) = l.map fun x => pairT (f x) (g x)
  | [] => rfl
  | x :: r => by simp only [List.map_cons, List.zipWith_cons_cons, zw_map r]
theorem getm {α : Type} {f : α → T} {l : List α} {i : Nat} {t : T} (e : (l.map f)[i]? = some t) : ∃ x, l[i]? = some x ∧ t = f x ∧ i < l.length := by
  rw [List.getElem?_map, Option.map_eq_some_iff] at e
  obtain ⟨x, a, b⟩ := e
  exact ⟨x, a, b.symm, (List.getElem?_eq_some_iff.mp a).1⟩
theorem take_snoc {α : Type} {l : List α} {i : Nat} {x : α} (e : l[i]? = some x) : l.take (i + 1) = l.take i ++ [x] := by
  rw [List.take_add_one, e]
  rfl
theorem sub_comp {env : Env'} {i j a b : Nat} {xs ys : List Int} (ea : env[a]? = some (some (iT xs))) (eb : env[b]? = some (some (iT ys))) (hl : xs.length ≤ 1000) (h1 : i < env.length) (h2 : j < env.length) (ne : i ≠ j) :
    mComp (mZip (mCons (mVar a) (mCons (mVar b) mNil))) [i, j] (.tup [i, j]) mYes (mBin fSub (mVar i) (mVar j)) env h = .ok ((subL xs ys).map T.int) h := by
  have es : mZip (mCons (mVar a) (mCons (mVar b) mNil)) env h = .ok ⟨zpT xs ys, []⟩ h := src_zip (by simp [ea, eb])
  rw [comp_zip (fun x y => .int (x - y)) es hl fun x y => ⟨_, b_tup, ?_⟩]
  · rw [zip_ints]
    rfl
  · have l1 : i < (dropE [i, j] env).length := by simpa [dropE] using h1
    have l2 : j < (dropE [i, j] env).length := by simpa [dropE] using h2
    simp only [setT, q1_bin, q1_var]
    rw [List.getElem?_set_ne (Ne.symm ne), List.getElem?_set_self l1]
    simp only [bind_ok]
    rw [List.getElem?_set_self (by simpa using l2)]
    rfl
theorem changes_eq (k : okP fr) (hl : fr.length ≤ 1000) : F_changes_of [prT fr] h = .ok (addsT fr) h := by
  refine Out.wp_eq (fn_wp rfl ?_)
  show (b_changes_of [some (prT fr), none, none, none, none, none] h).wp _
  simp only [b_changes_of, q2_seq, q2_set, q1_cell, q1_lst, q1_nil, bind_ok, List.length_nil, Nat.zero_le, if_true, pus_nil, bindE_ok, seq_nx, so_seq, List.set]
  rw [sFor_of (src_zipA (h1 := h ++ [.lst []]) (xs := fr.map fun p => iT (ex p.1)) (ys := fr.map fun p => iT (ex p.2)) (by simp [tops_eq k hl, bottoms_eq k hl]))]
  refine forLoop_wp _ (fun i env h' => h' = h ++ [.lst ((fr.take i).map fun p => iT (addF p))] ∧ env = [none, some (.loc h.length), none, none, none, none]) ?_ ?_ ⟨rfl, rfl⟩
  · rintro i x env h' hx ⟨rfl, rfl⟩
    rw [zw_map] at hx
    obtain ⟨p, hp, rfl, hi⟩ := getm hx
    refine ⟨by simp, _, b_tup, ?_⟩
    have sc : ∀ h0 : Store, mComp (mZip (mCons (mVar 3) (mCons (mVar 2) mNil))) [4, 5] (.tup [4, 5]) mYes (mBin fSub (mVar 4) (mVar 5)) [none, some (.loc h.length), some (iT (ex p.2)), some (iT (ex p.1)), none, none] h0 = .ok ((addF p).map T.int) h0 := fun h0 =>
      sub_comp (by rfl) (by rfl) (by rw [ex_len]; omega) (by simp) (by simp) (by simp)
    simp [setT, pairT, sc]
    rw [e_append rfl (by simp; omega) (by simp)]
    have tk : (fr.map fun p => iT (addF p)).take (i + 1) = (fr.map fun p => iT (addF p)).take i ++ [iT (addF p)] := take_snoc (by simp [hp])
    simp [tk]
  · rintro env h' ⟨rfl, rfl⟩
    rw [zw_map, List.length_map, List.take_length]
    simp [fnP, frz, pus_map (fun p : Fr => pu_iT (xs := addF p)), si_app]
end
end Gd
namespace Gd
open PySem PySem.Spec PyProof.Rows L2 Sm
section
variable {h h1 : Store} {fr : List Fr} {c n i j : Nat} {m mo mv : M T} {r : M (List T)} {env : Env'} {F : Fn} {nm f : Str} {fs : List (Str × T)}
@[simp] theorem q1_fld : mFld c f m env h = (m env h).bind fun a h1 => Out.ofO ((insOf c h1 a).bind fun p => p.2.lookup f) h1 := rfl
theorem insOf_at (e : h[n]? = some (.ins c fs)) (hc : c < 1000 := by decide) : insOf c h (.loc n) = some (n, fs) := by
  simp [insOf, e, hc]
def sW : Str := "wants"
def sA : Str := "adds"
def waysC (fr : List Fr) : Cell := .ins 0 [(sW, wantT fr), (sA, addsT fr)]
theorem put_adds {a b : T} : putT sA b [(sW, a)] = [(sW, a), (sA, b)] := by
  unfold putT
  rw [if_neg (by decide)]
  rfl
theorem init_eq (k : okP fr) (hl : fr.length ≤ 1000) : F_Ways_init [.loc h.length, prT fr] (h ++ [.ins 0 []]) = .ok .non (h ++ [waysC fr]) := by
  refine Out.wp_eq' (fnK_wp rfl ?_)
  show (b_Ways_init [some (.loc h.length), some (prT fr)] (h ++ [.ins 0 []])).wp _
  have e1 : ∀ fs : List (Str × T), insOf 0 (h ++ [.ins 0 fs]) (.loc h.length) = some (h.length, fs) := fun fs => insOf_at (by simp)
  have b1 : ∀ h0 : Store, F_bottoms_of [prT fr] h0 = .ok (wantT fr) h0 := fun h0 => bottoms_eq k hl
  have b2 : ∀ h0 : Store, F_changes_of [prT fr] h0 = .ok (addsT fr) h0 := fun h0 => changes_eq k hl
  have s1 : (h ++ [Cell.ins 0 []]).set h.length (.ins 0 (putT sW (wantT fr) [])) = h ++ [.ins 0 [(sW, wantT fr)]] := set_end rfl
  have s2 : (h ++ [Cell.ins 0 [(sW, wantT fr)]]).set h.length (.ins 0 (putT sA (addsT fr) [(sW, wantT fr)])) = h ++ [waysC fr] := by rw [put_adds]; exact set_end rfl
  have p1 : Sm.sFld 0 sW (mCall F_bottoms_of (mCons (mVar 1) mNil)) (mVar 0) [some (.loc h.length), some (prT fr)] (h ++ [.ins 0 []]) = .nx [some (.loc h.length), some (prT fr)] (h ++ [.ins 0 [(sW, wantT fr)]]) := by
    unfold Sm.sFld
    simp only [q1_call, q1_cons, q1_var, q1_nil, bind_ok, List.getElem?_cons_succ, List.getElem?_cons_zero, b1, bindE_ok, e1]
    rw [if_pos (by decide), s1]
  have p2 : Sm.sFld 0 sA (mCall F_changes_of (mCons (mVar 1) mNil)) (mVar 0) [some (.loc h.length), some (prT fr)] (h ++ [.ins 0 [(sW, wantT fr)]]) = .nx [some (.loc h.length), some (prT fr)] (h ++ [waysC fr]) := by
    unfold Sm.sFld
    simp only [q1_call, q1_cons, q1_var, q1_nil, bind_ok, List.getElem?_cons_succ, List.getElem?_cons_zero, b2, bindE_ok, e1]
    rw [if_pos (by simp), s2]
  unfold b_Ways_init
  rw [q2_seq]
  show ((Sm.sFld 0 sW _ _ _ _).seq (Sm.sFld 0 sA _ _)).wp _
  rw [p1, seq_nx, p2]
  exact ⟨rfl, rfl⟩
theorem ways_new (er : r env h = .ok [prT fr] h1) (k : okP fr) (hl : fr.length ≤ 1000) : mNew 0 F_Ways_init r env h = .ok (.loc h1.length) (h1 ++ [waysC fr]) := by
  unfold mNew
  rw [er]
  simp only [bind_ok]
  rw [init_eq k hl]
  rfl
theorem ways_wants (e : h[n]? = some (waysC fr)) : (insOf 0 h (.loc n)).bind (fun p => p.2.lookup sW) = some (wantT fr) := by
  rw [insOf_at e]
  rfl
theorem ways_adds (e : h[n]? = some (waysC fr)) : (insOf 0 h (.loc n)).bind (fun p => p.2.lookup sA) = some (addsT fr) := by
  rw [insOf_at e]
  rw [Option.bind_some, List.lookup_cons, show (sA == sW) = false by decide]
  simp
def firstL : List (List Int) → List Int → Option Nat
  | [], _ => none
  | w :: r, xs => if fits xs w then some 0 else (firstL r xs).map (· + 1)
def optT : Option Nat → T
  | some n => tN n
  | none => .non
def goneL (xs as : List Int) (k : Int) : List Int := (xs.zip as).map fun p => p.1 + k * p.2
def wantsL (fr : List Fr) : List (List Int) := fr.map fun p => ex p.2
theorem firstL_none : ∀ {ws : List (List Int)} {xs : List Int}, firstL ws xs = none ↔ ∀ w ∈ ws, fits xs w = false
  | [], xs => by simp [firstL]
  | w :: r, xs => by
    unfold firstL
    cases e : fits xs w with
    | true => simp [e]
    | false => simp [e, firstL_none (ws := r)]
theorem firstL_some : ∀ {ws : List (List Int)} {xs : List Int} {n : Nat}, firstL ws xs = some n ↔ (∃ w, ws[n]? = some w ∧ fits xs w = true) ∧ ∀ i w, i < n → ws[i]? = some w → fits xs w = false
  | [], xs, n => by simp [firstL]
  | w :: r, xs, n => by
    unfold firstL
    cases e : fits xs w with
    | true =>
      rw [if_pos rfl]
      constructor
      · intro h
        cases h
        exact ⟨⟨w, rfl, e⟩, fun i w h => absurd h (by omega)⟩
      · rintro ⟨_, h⟩
        cases n with
        | zero => rfl
        | succ n =>
          have := h 0 w (by omega) rfl
          rw [e] at this
          cases this
    | false =>
      rw [if_neg Bool.false_ne_true, Option.map_eq_some_iff]
      constructor
      · rintro ⟨m, h, rfl⟩
        obtain ⟨⟨u, a, b⟩, c⟩ := firstL_some.mp h
        refine ⟨⟨u, a, b⟩, fun i z hi hz => ?_⟩
        cases i with
        | zero => cases hz; exact e
        | succ i => exact c i z (by omega) hz
      · rintro ⟨⟨u, a, b⟩, c⟩
        cases n with
        | zero =>
          cases a
          rw [e] at b
          cases b
        | succ n => exact ⟨n, firstL_some.mpr ⟨⟨u, a, b⟩, fun i z hi hz => c (i + 1) z (by omega) hz⟩, rfl⟩
theorem comp_all {r : M (List T)} {env : Env'} {h h1 : Store} {xs ys : List Int} {tg : Tgt} {own : List Nat} {me : M T} (f : Int → Int → Bool) (es : mZip r env h = .ok ⟨zpT xs ys, []⟩ h1) (hl : xs.length ≤ 1000)
    (el : ∀ x y, ∃ env1, bindT tg (.tup [.int x, .int y]) (dropE own env) = some env1 ∧ me env1 h1 = .ok (.bl (f x y)) h1) :
    mCallF fAll (mCons (mFrz (mComp (mZip r) own tg mYes me)) mNil) env h = .ok (.bl ((xs.zip ys).all fun p => f p.1 p.2)) h1 := by
  simp only [q1_callF, q1_cons, q1_frz, q1_nil]
  rw [comp_zip (fun x y => .bl (f x y)) es hl el]
  simp only [bind_ok]
  rw [all_map (fun p : Int × Int => f p.1 p.2)]
  rfl
theorem enum_at {xs : List T} {i : Nat} {x : T} (e : (enumT 0 xs)[i]? = some x) : ∃ t, xs[i]? = some t ∧ x = .tup [tN i, t] := by
  rw [enumT_get, Option.map_eq_some_iff] at e
  obtain ⟨t, a, b⟩ := e
  refine ⟨t, a, ?_⟩
  rw [← b, Nat.zero_add]
  rfl
theorem src_enum {r : M (List T)} {env : Env'} {h h1 : Store} {xs : List T} (er : r env h = .ok [.lst xs] h1) : mEnum r env h = .ok ⟨enumT 0 xs, []⟩ h1 := by
  unfold mEnum
  rw [er]
  rfl
theorem src_enumT {r : M (List T)} {env : Env'} {h h1 : Store} {xs : List T} (er : r env h = .ok [.tup xs] h1) : mEnum r env h = .ok ⟨enumT 0 xs, []⟩ h1 := by
  unfold mEnum
  rw [er]
  rfl
theorem first_eq (e : h[n]? = some (waysC fr)) {xs : List Int} (hx : xs.length = 10) : F_Ways_first [.loc n, iT xs] h = .ok (optT (firstL (wantsL fr) xs)) h := by
  refine Out.wp_eq (fn_wp rfl ?_)
  show (b_Ways_first [some (.loc n), some (iT xs), none, none, none, none] h).wp _
  simp only [b_Ways_first, q2_seq, so_seq]
  rw [sFor_of (src_enum (h1 := h) (xs := fr.map fun p => iT (ex p.2)) (by simp only [q1_cons, q1_fld, q1_var, q1_nil, bind_ok, List.getElem?_cons_zero]; rw [show (("wants" : Str)) = sW from rfl, ways_wants e]; rfl))]
  refine forLoop_wp _ (fun i env h' => h' = h ∧ env = [none, some (iT xs), none, none, none, none] ∧ ∀ j w, j < i → (wantsL fr)[j]? = some w → fits xs w = false) ?_ ?_ ⟨rfl, rfl, fun j w hj => absurd hj (by omega)⟩
  · rintro i x env h' hx' ⟨rfl, rfl, ih⟩
    obtain ⟨t, ht, rfl⟩ := enum_at hx'
    obtain ⟨p, hp, rfl, hi⟩ := getm ht
    refine ⟨by simp, _, b_tup, ?_⟩
    have sc : mCallF fAll (mCons (mFrz (mComp (mZip (mCons (mVar 1) (mCons (mVar 3) mNil))) [4, 5] (.tup [4, 5]) mYes (mBin fGe (mVar 4) (mVar 5)))) mNil) [none, some (iT xs), some (tN i), some (iT (ex p.2)), none, none] h' = .ok (.bl (fits xs (ex p.2))) h' :=
      comp_all (fun x y => decide (y ≤ x)) (src_zip (by simp)) (by omega) fun x y => ⟨_, b_tup, by simp [setT]⟩
    have hw : (wantsL fr)[i]? = some (ex p.2) := by simp [wantsL, hp]
    simp only [setT, List.set, q2_if, q1_tru, sc, bind_ok, truF_bl, ofO_some, bindE_ok]
    cases ef : fits xs (ex p.2) with
    | true =>
      have : firstL (wantsL fr) xs = some i := firstL_some.mpr ⟨⟨_, hw, ef⟩, ih⟩
      simp [this, fnP, optT, tN]
    | false =>
      simp
      intro j w hj hw'
      by_cases q : j = i
      · subst q
        rw [hw] at hw'
        cases hw'
        exact ef
      · exact ih j w (by omega) hw'
  · rintro env h' ⟨rfl, rfl, ih⟩
    have : firstL (wantsL fr) xs = none := firstL_none.mpr fun w hm => by
      obtain ⟨j, hj⟩ := List.mem_iff_getElem?.mp hm
      refine ih j w ?_ hj
      have := (List.getElem?_eq_some_iff.mp hj).1
      rw [enumT_length]
      simpa [wantsL] using this
    simp [this, fnP, optT]
end
end Gd
namespace Gd
open PySem PySem.Spec PyProof.Rows L2 Sm
section
variable {h : Store}
end
theorem stripAll_mul : ∀ {ps : List Nat} {n : Nat}, (∀ p ∈ ps, 1 < p) → 0 < n → n = prodOf ps (stripAll ps n).1 * (stripAll ps n).2
  | [], n, _, _ => by simp [stripAll, prodOf]
  | p :: ps, n, hp, h0 => by
    have p1 := hp p (by simp)
    have m0 := strip_pos p1 n h0
    have e1 := strip_mul p1 n h0
    have e2 := stripAll_mul (ps := ps) (n := (strip p n).2) (fun q hq => hp q (List.mem_cons_of_mem _ hq)) m0
    show n = p ^ (strip p n).1 * prodOf ps _ * _
    rw [Nat.mul_assoc]
    show n = p ^ (strip p n).1 * (prodOf ps (stripAll ps (strip p n).2).1 * (stripAll ps (strip p n).2).2)
    rw [← e2]
    exact e1
end Gd
namespace Gd
open PySem PySem.Spec PyProof.Rows L2 Sm
section
variable {h h1 : Store} {fr : List Fr} {c n i j : Nat} {m mo mv : M T} {r : M (List T)} {env : Env'} {F : Fn} {nm f : Str} {fs : List (Str × T)}
theorem gone_eq (e : h[n]? = some (waysC fr)) {xs : List Int} {k : Nat} {q : Int} {p : Fr} (hx : xs.length = 10) (hp : fr[k]? = some p) (hq : q.natAbs < 2 ^ 64) : F_Ways_gone [.loc n, iT xs, tN k, .int q] h = .ok (iT (goneL xs (addF p) q)) h := by
  refine Out.wp_eq (fn_wp rfl ?_)
  show (b_Ways_gone [some (.loc n), some (iT xs), some (tN k), some (.int q), none, none] h).wp _
  have hk : k < fr.length := (List.getElem?_eq_some_iff.mp hp).1
  have sc : mComp (mZip (mCons (mVar 1) (mCons (mBin fIdx (mFld 0 "adds" (mVar 0)) (mVar 2)) mNil))) [4, 5] (.tup [4, 5]) mYes (mBin fAdd (mVar 4) (mBin fMul (mVar 3) (mVar 5))) [some (.loc n), some (iT xs), some (tN k), some (.int q), none, none] h = .ok ((goneL xs (addF p) q).map T.int) h := by
    rw [comp_zip (h1 := h) (xs := xs) (ys := addF p) (fun x y => .int (x + q * y)) (src_zip ?_) (by omega) fun x y => ⟨_, b_tup, by simp [setT, mulB_l hq]⟩, zip_ints (f := fun x y => x + q * y)]
    · rfl
    · simp only [q1_cons, q1_var, q1_bin, q1_fld, q1_nil, bind_ok, List.getElem?_cons_succ, List.getElem?_cons_zero]
      rw [show (("adds" : Str)) = sA from rfl, ways_adds e]
      simp only [ofO_some, bind_ok, tN, q3_idxL]
      rw [atI_p (by omega) (by simpa using hk)]
      simp [hp]
  simp [b_Ways_gone, sc, fnP]
end
end Gd
namespace Gd
open PySem PySem.Spec PyProof.Rows L2 Sm
section
variable {h : Store} {fr : List Fr}
end
end Gd
namespace Gd
open PySem PySem.Spec PyProof.Rows L2 Sm
section
variable {h : Store} {fr : List Fr} {env : Env'} {a d : Addr} {e : Ex} {n : Nat}
theorem ways_methL {mo : M T} {r : M (List T)} {xs : List T} {nm : Str} {F : Fn} (em : mo env h = .ok (.loc n) h) (k : h[n]? = some (waysC fr)) (hn : (List.lookup nm [(sW, wantT fr), (sA, addsT fr)]).isNone = true) (er : r env h = .ok xs h) : mMeth 0 nm F mo r env h = F (.loc n :: xs) h := by
  unfold mMeth
  rw [em]
  simp only [bind_ok, insOf_at k]
  rw [if_pos hn, er]
  rfl
def stepP (fr : List Fr) (xs : List Int) : List Int := match firstL (wantsL fr) xs with
  | none => xs
  | some k => goneL xs (addF (fr.getD k (1, 1))) 1
def runP (fr : List Fr) (xs : List Int) : Nat → List Int
  | 0 => xs
  | n + 1 => stepP fr (runP fr xs n)
theorem goneL_len {xs as : List Int} {k : Int} (hx : xs.length = 10) (ha : as.length = 10) : (goneL xs as k).length = 10 := by simp [goneL, hx, ha]
theorem stepP_len {xs : List Int} (hx : xs.length = 10) : (stepP fr xs).length = 10 := by
  unfold stepP
  split
  · exact hx
  · exact goneL_len hx addF_len
theorem runP_len {xs : List Int} (hx : xs.length = 10) : ∀ n, (runP fr xs n).length = 10
  | 0 => hx
  | n + 1 => stepP_len (runP_len hx n)
theorem firstL_lt {xs : List Int} {k : Nat} (q : firstL (wantsL fr) xs = some k) : ∃ p, fr[k]? = some p ∧ fits xs (ex p.2) = true := by
  obtain ⟨⟨w, e1, e2⟩, _⟩ := firstL_some.mp q
  rw [wantsL, List.getElem?_map, Option.map_eq_some_iff] at e1
  obtain ⟨p, hp, rfl⟩ := e1
  exact ⟨p, hp, e2⟩
theorem getD_of {k : Nat} {p d : Fr} (q : fr[k]? = some p) : fr.getD k d = p := by simp [List.getD_eq_getElem?_getD, q]
abbrev restP (fr : List Fr) (xs : List Int) (j : Nat) : Bool := (firstL (wantsL fr) (runP fr xs j)).isNone
theorem range_ofB {r : M (List T)} {env : Env'} {h1 : Store} {e : Nat} (er : r env h = .ok [tN e] h1) (ee : e < 10000) : mRange1 r env h = .ok ⟨Sm.rangeT 0 e, []⟩ h1 := by
  rw [q1_range1, er, bind_ok]
  have := asR1_ok (h := h1) (k := (e : Int)) (by omega) (by omega)
  rw [Int.toNat_natCast] at this
  exact this
theorem after_wp {xs : List Int} {n m : Nat} (k : okP fr) (hl : fr.length ≤ 1000) (hx : xs.length = 10) (hn : n < 10000) (m1 : m ≤ n) (m2 : ∀ j, j < m → restP fr xs j = false) (m3 : m = n ∨ restP fr xs m = true) :
    (F_after [prT fr, iT xs, tN n] h).wp (fun t h' => m = n ∧ t = iT (runP fr xs n) ∧ h' = h) (fun e h' => m < n ∧ e = .fld 11 "steps" (tN m) ∧ h' = h) := by
  refine fn_wp rfl ?_
  show (b_after [some (prT fr), some (iT xs), some (tN n), none, none, none] h).wp _
  have nw := ways_new (h1 := h) (env := [some (prT fr), some (iT xs), some (tN n), none, none, none]) (r := mCons (mVar 0) mNil) (h := h) (by simp) k hl
  unfold b_after
  rw [q2_seq, q2_set, nw, bindE_ok, seq_nx, q2_seq, so_seq]
  rw [sFor_of (range_ofB (h1 := h ++ [waysC fr]) (e := n) (by simp) (by omega))]
  have at_ : (h ++ [waysC fr])[h.length]? = some (waysC fr) := by simp
  refine forLoop_wp _ (fun i env h' => i ≤ m ∧ h' = h ++ [waysC fr] ∧ env = [none, some (iT (runP fr xs i)), none, some (.loc h.length), none, none]) ?_ ?_ ⟨by omega, rfl, by simp [runP]⟩
  · rintro i x env h' hx' ⟨hi, rfl, rfl⟩
    obtain ⟨rfl, hin⟩ := range_at hx'
    refine ⟨by simp, _, b_one, ?_⟩
    rw [Int.zero_add]
    have hxi := runP_len (fr := fr) hx i
    have f1 := first_eq at_ hxi
    have c1 : ∀ t u : Option T, mMeth 0 "first" F_Ways_first (mVar 3) (mCons (mVar 1) mNil) [none, some (iT (runP fr xs i)), none, some (.loc h.length), t, u] (h ++ [waysC fr]) = .ok (optT (firstL (wantsL fr) (runP fr xs i))) (h ++ [waysC fr]) := fun t u => by
      rw [ways_methL (xs := [iT (runP fr xs i)]) (n := h.length) (by simp) at_ rfl (by simp), f1]
    simp only [List.set, q2_seq, q2_set, c1, bindE_ok, seq_nx]
    cases q : firstL (wantsL fr) (runP fr xs i) with
    | none =>
      have im : m = i := by
        by_cases z : i < m
        · have := m2 i z
          rw [restP, q] at this
          cases this
        · omega
      subst im
      have mn : m < n := hin
      simp -implicitDefEqProofs [optT, sRaiseF, fnP, mn, Ex.pu, si_app, tN]
    | some k =>
      have im : i < m := by
        rcases m3 with z | z
        · omega
        · by_cases w : i < m
          · exact w
          · have : i = m := by omega
            rw [restP, ← this, q] at z
            cases z
      obtain ⟨p, hp, _⟩ := firstL_lt q
      have g1 := gone_eq (q := 1) at_ hxi hp (by decide)
      have nx : runP fr xs (i + 1) = goneL (runP fr xs i) (addF p) 1 := by
        show stepP fr (runP fr xs i) = _
        rw [stepP, q]
        simp only [getD_of hp]
      have c2 : ∀ t, mMeth 0 "gone" F_Ways_gone (mVar 3) (mCons (mVar 1) (mCons (mVar 5) (mCons (mC (.int 1)) mNil))) [none, some (iT (runP fr xs i)), none, some (.loc h.length), t, some (tN k)] (h ++ [waysC fr]) = .ok (iT (runP fr xs (i + 1))) (h ++ [waysC fr]) := fun t => by
        rw [ways_methL (xs := [iT (runP fr xs i), tN k, .int 1]) (n := h.length) (by simp) at_ rfl (by simp), g1, nx]
      simp only [optT, q2_if, q1_tst, q1_bin, q1_var, q1_C, List.getElem?_cons_succ, List.getElem?_cons_zero, bind_ok]
      rw [show fIs (tN k) .non (h ++ [waysC fr]) = some (.bl false) by simp [tN]]
      simp only [ofO_some, bind_ok, asB_bl, bindE_ok, Bool.false_eq_true, if_false, q2_nil, seq_nx, q2_set, c2]
      exact ⟨im, rfl, rfl⟩
  · rintro env h' ⟨hi, rfl, rfl⟩
    rw [Sm.rangeT_length] at hi ⊢
    have e : m = n := by omega
    subst e
    simp -implicitDefEqProofs [fnP, si_app]
theorem step_wp {xs : List Int} (k : okP fr) (hl : fr.length ≤ 1000) (hx : xs.length = 10) :
    (F_step [prT fr, iT xs] h).wp (fun t h' => (firstL (wantsL fr) xs).isNone = false ∧ t = iT (stepP fr xs) ∧ h' = h) (fun e h' => (firstL (wantsL fr) xs).isNone = true ∧ e = .fld 11 "steps" (tN 0) ∧ h' = h) := by
  refine fn_wp rfl ?_
  show (b_step [some (prT fr), some (iT xs)] h).wp _
  simp only [b_step, q2_ret, q1_call, q1_cons, q1_var, q1_C, q1_nil, List.getElem?_cons_succ, List.getElem?_cons_zero, bind_ok]
  rw [so_bindE]
  cases q : (firstL (wantsL fr) xs).isNone with
  | true =>
    refine Out.wp_mono (after_wp (n := 1) (m := 0) k hl hx (by omega) (by omega) (fun j hj => absurd hj (by omega)) (.inr q)) (fun t h' z => ?_) fun e h' z => ?_
    · exact absurd z.1 (by omega)
    · obtain ⟨_, rfl, rfl⟩ := z
      simp [fnP, Ex.pu, tN]
  | false =>
    refine Out.wp_mono (after_wp (n := 1) (m := 1) k hl hx (by omega) (by omega) (fun j hj => ?_) (.inl rfl)) (fun t h' z => ?_) fun e h' z => ?_
    · rw [show j = 0 by omega]
      exact q
    · obtain ⟨_, rfl, rfl⟩ := z
      simp [fnP, runP]
    · exact absurd z.1 (by omega)
theorem first_fit_eq {xs : List Int} (k : okP fr) (hl : fr.length ≤ 1000) (hx : xs.length = 10) : F_first_fit [prT fr, iT xs] h = .ok (optT (firstL (wantsL fr) xs)) h := by
  refine Out.wp_eq (fn_wp rfl ?_)
  show (b_first_fit [some (prT fr), some (iT xs)] h).wp _
  have nw := ways_new (h1 := h) (env := [some (prT fr), some (iT xs)]) (r := mCons (mVar 0) mNil) (h := h) (by simp) k hl
  have at_ : (h ++ [waysC fr])[h.length]? = some (waysC fr) := by simp
  have f1 := first_eq at_ hx
  have po : (optT (firstL (wantsL fr) xs)).pu = true := by cases firstL (wantsL fr) xs <;> rfl
  have c1 : mMeth 0 "first" F_Ways_first (mNew 0 F_Ways_init (mCons (mVar 0) mNil)) (mCons (mVar 1) mNil) [some (prT fr), some (iT xs)] h = .ok (optT (firstL (wantsL fr) xs)) (h ++ [waysC fr]) := by
    unfold mMeth
    rw [nw]
    simp only [bind_ok, insOf_at at_]
    rw [if_pos (by rfl)]
    simp only [q1_cons, q1_var, q1_nil, List.getElem?_cons_succ, List.getElem?_cons_zero, bind_ok]
    exact f1
  simp only [b_first_fit, q2_ret, c1, bindE_ok]
  simp -implicitDefEqProofs [fnP, po, si_app]
theorem ex_of {n : Nat} (es : List Nat) (hl : es.length = PR.length) (e : prodOf PR es = n) : ex n = nI es ∧ full n = true := by
  have z := strip_prod (ps := PR) (es := es) (fun p hp => (PR_ok p hp).1) PR_pair hl
  rw [e] at z
  simp [full, ex, z]
end
end Gd
namespace Gd
open PySem PySem.Spec PyProof.Rows L2 Sm
section
variable {h : Store} {fr : List Fr} {xs : List Int} {n m : Nat}
def numP (fr : List Fr) (xs : List Int) (j : Nat) : Option Nat := firstL (wantsL fr) (runP fr xs j)
theorem numP_rest {j : Nat} : restP fr xs j = (numP fr xs j).isNone := rfl
theorem run_up {j k : Nat} {p : Fr} (q : numP fr xs j = some k) (hp : fr[k]? = some p) : runP fr xs (j + 1) = goneL (runP fr xs j) (addF p) 1 := by
  show stepP fr (runP fr xs j) = _
  rw [stepP, show firstL (wantsL fr) (runP fr xs j) = some k from q]
  simp only [getD_of hp]
end
end Gd
namespace Gd
open PySem PySem.Spec PyProof.Rows L2 Sm
abbrev Tri := Int × Int × Int
def z3 : List Int → List Int → List Int → List Tri
  | x :: xs, w :: ws, a :: as => (x, w, a) :: z3 xs ws as
  | _, _, _ => []
def fitA (t : Int) (z : Tri) : Prop := z.2.1 ≤ z.1 + t * z.2.2
theorem fits_z3 {t : Int} : ∀ {xs ws as : List Int}, xs.length = as.length → (fits (goneL xs as t) ws = true ↔ ∀ z ∈ z3 xs ws as, fitA t z)
  | [], ws, [], _ => by simp [goneL, fits, z3]
  | x :: xs, [], a :: as, _ => by simp [goneL, fits, z3]
  | x :: xs, w :: ws, a :: as, h => by
    have ih := fits_z3 (t := t) (xs := xs) (ws := ws) (as := as) (by simpa using h)
    simp only [goneL, fits, z3, List.zip_cons_cons, List.map_cons, List.all_cons, Bool.and_eq_true, decide_eq_true_eq, List.forall_mem_cons] at ih ⊢
    rw [ih]
    rfl
theorem div_lt_fit {t x w a : Int} (ha : a < 0) : t < (x - w) / (0 - a) + 1 ↔ w ≤ x + t * a := by
  have e : t * (0 - a) = -(t * a) := by rw [Int.mul_sub, Int.mul_zero, Int.zero_sub]
  have := Int.le_ediv_iff_mul_le (a := t) (b := x - w) (c := 0 - a) (by omega)
  rw [e] at this
  omega
theorem div_ge_fit {t x w a : Int} (ha : 0 < a) : 0 - (x - w) / a ≤ t ↔ w ≤ x + t * a := by
  have e : (0 - t) * a = -(t * a) := by rw [Int.sub_mul, Int.zero_mul, Int.zero_sub]
  have := Int.le_ediv_iff_mul_le (a := 0 - t) (b := x - w) (c := a) ha
  rw [e] at this
  omega
def ltO (t : Int) (f : Option Int) : Prop := ∀ q, f = some q → t < q
def leO (t : Int) (f : Option Int) : Prop := ∀ q, f = some q → t ≤ q
@[simp] theorem ltO_none {t : Int} : ltO t none := fun _ h => by cases h
@[simp] theorem ltO_some {t q : Int} : ltO t (some q) ↔ t < q := ⟨fun h => h q rfl, fun h _ e => by cases e; exact h⟩
@[simp] theorem leO_none {t : Int} : leO t none := fun _ h => by cases h
@[simp] theorem leO_some {t q : Int} : leO t (some q) ↔ t ≤ q := ⟨fun h => h q rfl, fun h _ e => by cases e; exact h⟩
def minO (o : Int) : Option Int → Int
  | none => o
  | some q => if o < q then o else q
structure LastK (B : Int) (l : List Tri) (f : Option Int) : Prop where
  fit : ∀ t, ltO t f ↔ ∀ z ∈ l, z.2.2 < 0 → fitA t z
  low : ∀ q, f = some q → q ≤ B + 1
theorem LastK.nil {B : Int} : LastK B [] none := ⟨fun t => by simp, fun q h => by cases h⟩
theorem LastK.step {B : Int} {l : List Tri} {f : Option Int} {z : Tri} (k : LastK B l f) (hz : z.2.2 < 0) (B0 : 0 ≤ B) (b : z.1 - z.2.1 ≤ B) : LastK B (l ++ [z]) (some (minO ((z.1 - z.2.1) / (0 - z.2.2) + 1) f)) := by
  have d := fun t => div_lt_fit (t := t) (x := z.1) (w := z.2.1) hz
  have lo : (z.1 - z.2.1) / (0 - z.2.2) ≤ B := by
    have z1 : B * 1 ≤ B * (0 - z.2.2) := Int.mul_le_mul_of_nonneg_left (by omega) (by omega)
    exact Int.ediv_le_of_le_mul (c := 0 - z.2.2) (by omega) (by omega)
  generalize (z.1 - z.2.1) / (0 - z.2.2) = o at d lo
  have key : ∀ t, (∀ y ∈ l ++ [z], y.2.2 < 0 → fitA t y) ↔ (ltO t f ∧ t < o + 1) := fun t => by
    rw [k.fit, d t]
    simp only [List.mem_append, List.mem_singleton]
    constructor
    · exact fun h => ⟨fun y m c => h y (.inl m) c, h z (.inr rfl) hz⟩
    · rintro ⟨h1, h2⟩ y (m | rfl) c
      · exact h1 y m c
      · exact h2
  cases f with
  | none =>
    refine ⟨fun t => ?_, fun q e => ?_⟩
    · rw [key]
      simp [minO]
    · simp only [minO, Option.some.injEq] at e
      omega
  | some q =>
    have := k.low q rfl
    refine ⟨fun t => ?_, fun r e => ?_⟩
    · rw [key]
      simp only [ltO_some, minO]
      split <;> omega
    · simp only [minO, Option.some.injEq] at e
      split at e <;> omega
structure ComeK (B : Int) (l : List Tri) (least : Int) (most : Option Int) : Prop where
  fit : ∀ t, 0 ≤ t → ((least ≤ t ∧ leO t most) ↔ ∀ z ∈ l, fitA t z)
  lo : 0 ≤ least
  hi : least ≤ B
theorem ComeK.nil {B : Int} (B0 : 0 ≤ B) : ComeK B [] 0 none := ⟨fun t ht => by simp [ht], by omega, B0⟩
theorem fit_snoc {l : List Tri} {z : Tri} {t : Int} : (∀ y ∈ l ++ [z], fitA t y) ↔ ((∀ y ∈ l, fitA t y) ∧ fitA t z) := by
  simp only [List.mem_append, List.mem_singleton]
  exact ⟨fun h => ⟨fun y m => h y (.inl m), h z (.inr rfl)⟩, fun h y m => m.elim (h.1 y) fun e => by rw [e]; exact h.2⟩
theorem ComeK.pos {B : Int} {l : List Tri} {least : Int} {most : Option Int} {z : Tri} (k : ComeK B l least most) (hz : 0 < z.2.2) (B0 : 0 ≤ B) (b : z.2.1 - z.1 ≤ B) :
    ComeK B (l ++ [z]) (if 0 - (z.1 - z.2.1) / z.2.2 > least then 0 - (z.1 - z.2.1) / z.2.2 else least) most := by
  have d := fun t => div_ge_fit (t := t) (x := z.1) (w := z.2.1) hz
  have lo : 0 - (z.1 - z.2.1) / z.2.2 ≤ B := by
    have := (Int.le_ediv_iff_mul_le (a := -B) (b := z.1 - z.2.1) (c := z.2.2) hz).mpr (by
      have : B * 1 ≤ B * z.2.2 := Int.mul_le_mul_of_nonneg_left (by omega) (by omega)
      rw [Int.neg_mul]
      omega)
    omega
  generalize 0 - (z.1 - z.2.1) / z.2.2 = o at d lo
  have := k.lo
  have := k.hi
  refine ⟨fun t ht => ?_, by split <;> omega, by split <;> omega⟩
  rw [fit_snoc, ← k.fit t ht, fitA, ← d t]
  generalize leO t most = A
  split
  · constructor
    · rintro ⟨p, q⟩
      exact ⟨⟨by omega, q⟩, p⟩
    · rintro ⟨⟨p, q⟩, r⟩
      exact ⟨r, q⟩
  · constructor
    · rintro ⟨p, q⟩
      exact ⟨⟨p, q⟩, by omega⟩
    · rintro ⟨⟨p, q⟩, r⟩
      exact ⟨p, q⟩
theorem ComeK.zero {B : Int} {l : List Tri} {least : Int} {most : Option Int} {z : Tri} (k : ComeK B l least most) (hz : z.2.2 = 0) (b : z.2.1 ≤ z.1) : ComeK B (l ++ [z]) least most := by
  refine ⟨fun t ht => ?_, k.lo, k.hi⟩
  rw [fit_snoc, ← k.fit t ht]
  have : fitA t z := by
    unfold fitA
    rw [hz, Int.mul_zero]
    omega
  exact ⟨fun q => ⟨q, this⟩, fun q => q.1⟩
def ComeR (B : Int) (l : List Tri) : Option Int → Prop
  | none => ∀ t, 0 ≤ t → ¬ ∀ z ∈ l, fitA t z
  | some q => 0 ≤ q ∧ q ≤ B ∧ (∀ z ∈ l, fitA q z) ∧ ∀ t, 0 ≤ t → t < q → ¬ ∀ z ∈ l, fitA t z
theorem ComeK.no {B : Int} {l : List Tri} {least q : Int} (k : ComeK B l least (some q)) (c : q < least) : ComeR B l none := fun t ht h => by
  have := (k.fit t ht).mpr h
  simp only [leO_some] at this
  omega
theorem ComeR.never {B : Int} {l : List Tri} {z : Tri} (m : z ∈ l) (hz : z.2.2 = 0) (b : z.1 < z.2.1) : ComeR B l none := fun t _ h => by
  have := h z m
  unfold fitA at this
  rw [hz, Int.mul_zero] at this
  omega
section
variable {h : Store} {fr : List Fr} {n k : Nat} {p p2 : Fr} {xs : List Int}
end
end Gd
namespace Gd
open PySem PySem.Spec PyProof.Rows L2 Sm
structure okB (B : Int) (z : Tri) : Prop where
  b0 : 0 ≤ B
  lo : z.1 - z.2.1 ≤ B
  hi : z.2.1 - z.1 ≤ B
  a0 : -1000 < z.2.2
  a1 : z.2.2 < 1000
section
variable {h : Store} {fr : List Fr} {n k j : Nat} {p p2 : Fr} {xs : List Int} {B : Int}
end
end Gd
namespace Gd
open PySem PySem.Spec PyProof.Rows L2 Sm
def goodA (fr : List Fr) (xs : List Int) (p : Fr) (j : Nat) (t : Int) : Prop := fits (goneL xs (addF p) t) (ex p.2) = true ∧ ∀ i q, i < j → fr[i]? = some q → fits (goneL xs (addF p) t) (ex q.2) = false
structure StrK (B : Int) (fr : List Fr) (xs : List Int) (p : Fr) (j : Nat) (f : Option Int) : Prop where
  fit : ∀ t, 0 ≤ t → ltO t f → goodA fr xs p j t
  no : ∀ q, f = some q → 0 ≤ q ∧ q ≤ B + 1 ∧ ¬ goodA fr xs p j q
section
variable {h : Store} {fr : List Fr} {n k j : Nat} {p p2 : Fr} {xs : List Int} {f g : Option Int} {B : Int}
theorem goodA_up (hp2 : fr[j]? = some p2) {t : Int} : goodA fr xs p (j + 1) t ↔ goodA fr xs p j t ∧ fits (goneL xs (addF p) t) (ex p2.2) = false := by
  constructor
  · rintro ⟨a, b⟩
    exact ⟨⟨a, fun i q hi hq => b i q (by omega) hq⟩, b j p2 (by omega) hp2⟩
  · rintro ⟨⟨a, b⟩, c⟩
    refine ⟨a, fun i q hi hq => ?_⟩
    by_cases z : i = j
    · subst z
      rw [hp2] at hq
      cases hq
      exact c
    · exact b i q (by omega) hq
theorem StrK.start (hx : xs.length = 10) (f0 : fits xs (ex p.2) = true) (kf : LastK B (z3 xs (ex p.2) (addF p)) f) : StrK B fr xs p 0 f := by
  have ff := fun t => fits_z3 (t := t) (xs := xs) (ws := ex p.2) (as := addF p) (by rw [hx, addF_len])
  have g0 : goneL xs (addF p) 0 = xs := by
    unfold goneL
    simp only [Int.zero_mul, Int.add_zero]
    exact List.map_fst_zip (by rw [hx, addF_len]; omega)
  have a0 : ∀ z ∈ z3 xs (ex p.2) (addF p), fitA 0 z := (ff 0).mp (by rw [g0]; exact f0)
  have key : ∀ t, 0 ≤ t → (goodA fr xs p 0 t ↔ ltO t f) := fun t ht => by
    rw [kf.fit]
    unfold goodA
    rw [ff]
    constructor
    · exact fun a z m _ => a.1 z m
    · refine fun a => ⟨fun z m => ?_, fun i q hi => absurd hi (by omega)⟩
      by_cases c : z.2.2 < 0
      · exact a z m c
      · have := a0 z m
        unfold fitA at this ⊢
        have : 0 ≤ t * z.2.2 := Int.mul_nonneg ht (by omega)
        omega
  refine ⟨fun t ht l => (key t ht).mpr l, fun q e => ?_⟩
  have q0 : 0 ≤ q := by
    have : ltO 0 f := (kf.fit 0).mpr fun z m _ => a0 z m
    have := this q e
    omega
  refine ⟨q0, kf.low q e, fun a => ?_⟩
  have := (key q q0).mp a q e
  omega
theorem StrK.same (hx : xs.length = 10) (s : StrK B fr xs p j f) (hp2 : fr[j]? = some p2) (r : ComeR B (z3 xs (ex p2.2) (addF p)) g) (c : ∀ q, g = some q → ∃ r, f = some r ∧ r ≤ q) : StrK B fr xs p (j + 1) f := by
  have ff := fun t => fits_z3 (t := t) (xs := xs) (ws := ex p2.2) (as := addF p) (by rw [hx, addF_len])
  refine ⟨fun t ht l => (goodA_up hp2).mpr ⟨s.fit t ht l, ?_⟩, fun q e => ⟨(s.no q e).1, (s.no q e).2.1, fun a => (s.no q e).2.2 ((goodA_up hp2).mp a).1⟩⟩
  cases e : fits (goneL xs (addF p) t) (ex p2.2) with
  | false => rfl
  | true =>
    exfalso
    have m := (ff t).mp e
    cases g with
    | none => exact r t ht m
    | some q =>
      obtain ⟨u, rfl, u1⟩ := c q rfl
      have := l u rfl
      exact r.2.2.2 t ht (by omega) m
structure StrR (B : Int) (fr : List Fr) (xs : List Int) (p : Fr) (k : Nat) (f : Option Int) : Prop where
  fit : ∀ t, 0 ≤ t → ltO t f → firstL (wantsL fr) (goneL xs (addF p) t) = some k
  no : ∀ q, f = some q → 0 ≤ q ∧ q ≤ B + 1 ∧ firstL (wantsL fr) (goneL xs (addF p) q) ≠ some k
end
end Gd
namespace Gd
open PySem PySem.Spec PyProof.Rows L2 Sm
section
variable {h : Store} {fr : List Fr} {n k j : Nat} {p p2 : Fr} {xs : List Int} {f g : Option Int} {B : Int}
end
end Gd
namespace Gd
open PySem PySem.Spec PyProof.Rows L2 Sm
section
variable {h : Store} {fr : List Fr} {n k j d m M : Nat} {p : Fr} {xs : List Int} {es : List Nat} {f : Option Int} {B : Int}
theorem run_add : ∀ {b : Nat}, runP fr xs (d + b) = runP fr (runP fr xs d) b
  | 0 => rfl
  | b + 1 => by
    show stepP fr (runP fr xs (d + b)) = stepP fr (runP fr (runP fr xs d) b)
    rw [run_add (b := b)]
end
end Gd
namespace Gd
open PySem PySem.Spec PyProof.Rows L2 Sm
section
variable {h : Store} {fr : List Fr} {n k j d m M : Nat} {p : Fr} {xs : List Int} {es : List Nat} {t : T} {pr li ma : T}
end
end Gd
namespace Gd
open PySem PySem.Spec PyProof.Rows L2 Sm
def lnF (f : Nat → Int) : List Int := (List.range 10).map f
def lnN (e : Nat → Nat) : List Nat := (List.range 10).map e
def upd {α : Type} (f : Nat → α) (p : Nat) (v : α) : Nat → α := fun i => if i = p then v else f i
@[simp] theorem lnF_len {f : Nat → Int} : (lnF f).length = 10 := rfl
@[simp] theorem lnN_len {f : Nat → Nat} : (lnN f).length = 10 := rfl
theorem lnF_at {f : Nat → Int} {i : Nat} (hi : i < 10) : (lnF f)[i]? = some (f i) := by
  unfold lnF
  rw [List.getElem?_map, List.getElem?_range hi]
  rfl
theorem lnF_ext {f g : Nat → Int} (k : ∀ i, i < 10 → f i = g i) : lnF f = lnF g := List.map_congr_left fun i hi => k i (List.mem_range.mp hi)
theorem zip_lnF {f g : Nat → Int} : (lnF f).zip (lnF g) = (List.range 10).map fun i => (f i, g i) := by
  unfold lnF
  rw [List.zip_map', ]
theorem goneL_ln {f g : Nat → Int} {k : Int} : goneL (lnF f) (lnF g) k = lnF fun i => f i + k * g i := by
  unfold goneL
  rw [zip_lnF, List.map_map]
  rfl
theorem subL_ln {f g : Nat → Int} : subL (lnF f) (lnF g) = lnF fun i => f i - g i := by
  unfold subL
  rw [zip_lnF, List.map_map]
  rfl
theorem fits_ln {f g : Nat → Int} : fits (lnF f) (lnF g) = true ↔ ∀ i, i < 10 → g i ≤ f i := by
  unfold fits
  rw [zip_lnF, List.all_map, List.all_eq_true]
  constructor
  · intro c i hi
    have := c i (List.mem_range.mpr hi)
    simpa using this
  · intro c i hi
    simpa using c i (List.mem_range.mp hi)
end Gd
namespace Gd
open PySem PySem.Spec PyProof.Rows L2 Sm
section
variable {h : Store} {l : List (Nat × Int)}
end
end Gd
namespace Gd
open PySem PySem.Spec PyProof.Rows L2 Sm
section
variable {a b c m n : Nat} (ha : a < 10) (hb : b < 10) (hc : c < 10) (ab : a ≠ b) (ac : a ≠ c) (bc : b ≠ c)
include ha hb hc ab ac bc
end
section
variable {b n : Nat} (hb : b < 10)
include hb
end
end Gd
namespace Gd
open PySem PySem.Spec PyProof.Rows L2 Sm
section
variable {a b c x y k u q : Nat} {h : Store} {w : Int} {Q : T → Store → Prop} {X : Ex → Store → Prop}
end
end Gd
namespace Gd
open PySem PySem.Spec PyProof.Rows L2 Sm
section
variable {h : Store} {n m k a b : Nat} {v : Int} {t u e : Nat → Nat} {Q : T → Store → Prop} {X : Ex → Store → Prop}
end
end Gd
namespace Gd
open PySem PySem.Spec PyProof.Rows L2 Sm
section
variable {h : Store} {n m k a b : Nat} {v : Int} {t u e : Nat → Nat} {Q : T → Store → Prop} {X : Ex → Store → Prop}
end
end Gd
namespace Gd
open PySem PySem.Spec PyProof.Rows L2 Sm
def St (h : Store) (n : Nat) (w : Int) (fr : List Fr) (l : Store) : Store := pst h n w ++ [Cell.lst (fr.map frT)] ++ l
section
variable {h l l1 l2 : Store} {n m k a b p v : Nat} {w w' : Int} {t u e : Nat → Nat} {fr fr' : List Fr} {c c' : Cell} {env : Env'} {Q : T → Store → Prop} {X : Ex → Store → Prop}
end
end Gd
namespace Gd
open PySem PySem.Spec PyProof.Rows L2 Sm
section
variable {h H l : Store} {n m k a b p v wide : Nat} {w w' : Int} {t u e W : Nat → Nat} {fr fr' : List Fr} {env : Env'} {Q : T → Store → Prop} {X : Ex → Store → Prop}
end
end Gd
namespace Gd
open PySem PySem.Spec PyProof.Rows L2 Sm
section
variable {h H l : Store} {n m k wide most : Nat} {w w' v : Int} {W : Nat → Nat} {fr fr' : List Fr} {env : Env'} {Q : T → Store → Prop} {X : Ex → Store → Prop}
end
end Gd
namespace Gd
open PySem PySem.Spec PyProof.Rows L2 Sm
section
variable {h : Store} {fr : List Fr}
section
variable {a b : List Fr}
end
end
end Gd
namespace Gd
open PySem PySem.Spec PyProof.Rows L2 Sm
section
variable {h h1 : Store} {fr : List Fr} {xs ys : List Int} {n m : Nat} {env : Env'} {Q : T → Store → Prop} {X : Ex → Store → Prop}
end
end Gd
namespace Gd
open PySem PySem.Spec PyProof.Rows L2 Sm
section
variable {h h1 : Store} {fr : List Fr} {xs ys : List Int} {n m : Nat} {env : Env'} {Q : T → Store → Prop} {X : Ex → Store → Prop}
end
end Gd
namespace Gd
open PySem PySem.Spec PyProof.Rows L2 Sm
section
variable {h : Store} {fr : List Fr} {A B : List Nat}
theorem rep_one {i e : Nat} (he : e < 1000) : fMul (.lst [tN i]) (tN e) h = some (.lst ((List.replicate e i).map tN)) := by
  show (if (e : Int) < 100000 ∧ -100000 < (e : Int) ∧ [tN i].length ≤ 100 then some (T.lst (List.replicate (e : Int).toNat [tN i]).flatten) else none) = _
  rw [if_pos ⟨by omega, by omega, by simp⟩, Int.toNat_natCast]
  congr 2
  rw [List.map_replicate]
  clear he
  induction e with
  | zero => rfl
  | succ e ih => rw [List.replicate_succ, List.replicate_succ, List.flatten_cons, ih]; rfl
section
variable {n : Nat} {st la be ba : Int} {P : Pst} {h0 : Store}
end
end
end Gd
namespace Gd
open PySem PySem.Spec PyProof.Rows L2 Sm
section
variable {h : Store} {fr : List Fr} {xs e : List Int} {n m k i : Nat} {p : Fr}
end
end Gd
namespace Gd
open PySem PySem.Spec PyProof.Rows L2 Sm
def outK (w x a : List Int) : Bool := (List.range 10).any fun i => decide (x.getD i 0 < w.getD i 0) && decide (a.getD i 0 = 0)
def allK (fr : List Fr) (x : Nat → List Int) (u : Nat → Nat) (len : Nat) (a : List Int) : Bool := (List.range len).all fun k => (List.range (u k)).all fun q => outK (ex (fr.getD q (1, 1)).2) (x k) a
def loopA (fr : List Fr) (x : Nat → List Int) (u : Nat → Nat) (len : Nat) : Option (List Int) :=
  if ((subL (x len) (x 0)).all fun d => decide (0 ≤ d)) && allK fr x u len (subL (x len) (x 0)) then some (subL (x len) (x 0)) else none
section
variable {h h1 : Store} {fr : List Fr} {xs ys : List Int} {n m : Nat} {env : Env'} {Q : T → Store → Prop} {X : Ex → Store → Prop} {x : Nat → List Int} {u : Nat → Nat} {len : Nat} {a : List Int}
theorem addedLen (hx : ∀ k, (x k).length = 10) : (subL (x len) (x 0)).length = 10 := by rw [subL_len, hx, hx]; rfl
end
end Gd
namespace Gd
open PySem PySem.Spec PyProof.Rows L2 Sm
section
variable {h h1 : Store} {fr : List Fr} {xs ys : List Int} {n m : Nat} {env : Env'} {Q : T → Store → Prop} {X : Ex → Store → Prop} {x : Nat → List Int} {u : Nat → Nat} {len : Nat} {a : List Int}
end
end Gd
namespace Gd
open PySem PySem.Spec PyProof.Rows L2 Sm
section
variable {h h1 : Store} {fr : List Fr} {xs ys : List Int} {n m : Nat} {env : Env'} {Q : T → Store → Prop} {X : Ex → Store → Prop} {x : Nat → List Int} {u : Nat → Nat} {len : Nat} {a : List Int}
section
variable {R U W : T}
end
section
variable {R U W : T}
end
end
end Gd
namespace Gd
open PySem PySem.Spec PyProof.Rows L2 Sm
section
variable {h h1 : Store} {fr : List Fr} {xs ys : List Int} {n m : Nat} {env : Env'} {Q : T → Store → Prop} {X : Ex → Store → Prop} {x : Nat → List Int} {u : Nat → Nat} {len : Nat} {a : List Int}
def uP (fr : List Fr) (xs : List Int) (j : Nat) : Nat := (numP fr xs j).getD 0
end
end Gd
namespace Gd
open PySem PySem.Spec PyProof.Rows L2 Sm
section
variable {h h1 : Store} {fr : List Fr} {xs ys : List Int} {n m : Nat} {env : Env'} {Q : T → Store → Prop} {X : Ex → Store → Prop} {x : Nat → List Int} {u : Nat → Nat} {len : Nat} {a : List Int}
theorem rangeC_at {c : Int} {N i : Nat} {t : T} (e : (rangeC 0 c N)[i]? = some t) : t = .int ((i : Int) * c) ∧ i < N := by
  unfold rangeC at e
  rw [List.getElem?_map, Option.map_eq_some_iff] at e
  obtain ⟨j, hj, rfl⟩ := e
  have hi : i < N := by
    have := (List.getElem?_eq_some_iff.mp hj).1
    simpa using this
  rw [List.getElem?_range hi] at hj
  cases hj
  exact ⟨by rw [Int.zero_add], hi⟩
theorem even6 : mRange3 (mCons (mC (.int 0)) (mCons (mC (.int 6)) (mCons (mC (.int 2)) mNil))) env h = .ok ⟨rangeC 0 2 3, []⟩ h := range3_ev (i := 0) (j := 6) (c := 2) (by simp) (by decide) rfl
theorem loopA_len (hx : ∀ k, (x k).length = 10) (e : loopA fr x u len = some a) : a.length = 10 := by
  unfold loopA at e
  split at e
  · cases e
    exact addedLen hx
  · cases e
end
end Gd
namespace Gd
open PySem PySem.Spec PyProof.Rows L2 Sm
section
variable {fr : List Fr} {y a : List Int} {n m c r : Nat} {x : Nat → List Int} {u : Nat → Nat} {len : Nat}
theorem as_lnF {l : List Int} (hl : l.length = 10) : l = lnF fun i => l.getD i 0 := by
  unfold lnF
  refine (List.ext_getElem? fun i => ?_)
  rw [List.getElem?_map]
  by_cases z : i < 10
  · rw [List.getElem?_range z, List.getElem?_eq_getElem (by omega), Option.map_some, List.getD_eq_getElem?_getD, List.getElem?_eq_getElem (by omega)]
    rfl
  · rw [List.getElem?_eq_none (by omega), List.getElem?_eq_none (by simp; omega)]
    rfl
theorem loopA_inv (e : loopA fr x u len = some a) : a = subL (x len) (x 0) ∧ (∀ d ∈ a, 0 ≤ d) ∧ ∀ k q, k < len → q < u k → outK (ex (fr.getD q (1, 1)).2) (x k) a = true := by
  unfold loopA at e
  split at e
  · rename_i z
    rw [Bool.and_eq_true] at z
    cases e
    refine ⟨rfl, fun d hd => by simpa using List.all_eq_true.mp z.1 d hd, fun k q hk hq => ?_⟩
    have z2 := z.2
    unfold allK at z2
    exact List.all_eq_true.mp (List.all_eq_true.mp z2 k (List.mem_range.mpr hk)) q (List.mem_range.mpr hq)
  · cases e
theorem goneL_two {as bs : List Int} {r s : Int} (hy : y.length = 10) (ha : as.length = 10) (hb : bs.length = 10) : goneL (goneL y as r) bs s = goneL (goneL y bs s) as r := by
  rw [as_lnF hy, as_lnF ha, as_lnF hb, goneL_ln, goneL_ln, goneL_ln, goneL_ln]
  refine lnF_ext fun i _ => ?_
  omega
theorem goneL_up {as : List Int} {r s : Int} (hy : y.length = 10) (ha : as.length = 10) : goneL (goneL y as r) as s = goneL y as (r + s) := by
  rw [as_lnF hy, as_lnF ha, goneL_ln, goneL_ln, goneL_ln]
  refine lnF_ext fun i _ => ?_
  rw [Int.add_mul]
  omega
theorem goneL_0 {as : List Int} (hy : y.length = 10) (ha : as.length = 10) : goneL y as 0 = y := by
  conv => rhs; rw [as_lnF hy]
  rw [as_lnF hy, as_lnF ha, goneL_ln]
  refine lnF_ext fun i _ => ?_
  have e := as_lnF hy
  rw [Int.zero_mul, Int.add_zero, ← e]
theorem goneL_sub {z : List Int} (hy : y.length = 10) (hz : z.length = 10) : goneL y (subL z y) 1 = z := by
  rw [as_lnF hy, as_lnF hz, subL_ln, goneL_ln]
  refine lnF_ext fun i _ => ?_
  omega
theorem fits_at {xs ws : List Int} (hx : xs.length = 10) (hw : ws.length = 10) : fits xs ws = true ↔ ∀ i, i < 10 → ws.getD i 0 ≤ xs.getD i 0 := by
  rw [as_lnF hx, as_lnF hw, fits_ln, ← as_lnF hx, ← as_lnF hw]
theorem goneL_at {xs as : List Int} {r : Int} {i : Nat} (hx : xs.length = 10) (ha : as.length = 10) (hi : i < 10) : (goneL xs as r).getD i 0 = xs.getD i 0 + r * as.getD i 0 := by
  rw [as_lnF hx, as_lnF ha, goneL_ln, List.getD_eq_getElem?_getD, lnF_at hi, ← as_lnF hx, ← as_lnF ha]
  rfl
theorem first_later {xs : List Int} {k : Nat} (hx : xs.length = 10) (ha : a.length = 10) (pos : ∀ d ∈ a, 0 ≤ d) (r : Nat) (q : firstL (wantsL fr) xs = some k)
    (out : ∀ q, q < k → outK (ex (fr.getD q (1, 1)).2) xs a = true) : firstL (wantsL fr) (goneL xs a r) = some k := by
  obtain ⟨⟨w, hw, fw⟩, _⟩ := firstL_some.mp q
  have gl : (goneL xs a r).length = 10 := goneL_len hx ha
  have at0 : ∀ i, i < 10 → 0 ≤ a.getD i 0 := fun i hi => by
    refine pos _ ?_
    rw [List.getD_eq_getElem?_getD, List.getElem?_eq_getElem (by omega)]
    exact List.getElem_mem _
  have wl : ∀ {j : Nat} {w : List Int}, (wantsL fr)[j]? = some w → ∃ p, fr[j]? = some p ∧ w = ex p.2 := fun e => by
    rw [wantsL, List.getElem?_map, Option.map_eq_some_iff] at e
    obtain ⟨p, hp, e⟩ := e
    exact ⟨p, hp, e.symm⟩
  refine firstL_some.mpr ⟨⟨w, hw, ?_⟩, fun j v hj hv => ?_⟩
  · obtain ⟨p, hp, rfl⟩ := wl hw
    rw [fits_at hx ex_len] at fw
    rw [fits_at gl ex_len]
    intro i hi
    have b1 := fw i hi
    have b2 : 0 ≤ (r : Int) * a.getD i 0 := Int.mul_nonneg (by omega) (at0 i hi)
    rw [goneL_at hx ha hi]
    omega
  · obtain ⟨p, hp, rfl⟩ := wl hv
    have o := out j hj
    rw [getD_of hp] at o
    obtain ⟨i, hi, e⟩ := List.any_eq_true.mp o
    have hi := List.mem_range.mp hi
    rw [Bool.and_eq_true, decide_eq_true_eq, decide_eq_true_eq] at e
    rw [← Bool.not_eq_true, fits_at gl ex_len]
    intro all
    have b1 := all i hi
    rw [goneL_at hx ha hi, e.2, Int.mul_zero] at b1
    omega
theorem runP_1 {k : Nat} {p : Fr} (q : firstL (wantsL fr) y = some k) (hp : fr[k]? = some p) : stepP fr y = goneL y (addF p) 1 := by
  unfold stepP
  rw [q]
  simp only [getD_of hp]
theorem round_on (hy : y.length = 10) (rest : ∀ k, k < c → restP fr y k = false) (e : loopA fr (runP fr y) (uP fr y) c = some a) (r : Nat) : ∀ k, k ≤ c → runP fr (goneL y a r) k = goneL (runP fr y k) a r ∧ (k < c → numP fr (goneL y a r) k = numP fr y k) := by
  obtain ⟨ea, pos, out⟩ := loopA_inv e
  have al := loopA_len (fun k => runP_len hy k) e
  have num : ∀ k, k < c → runP fr (goneL y a r) k = goneL (runP fr y k) a r → numP fr (goneL y a r) k = numP fr y k := fun k hk ek => by
    have rk := rest k hk
    rw [numP_rest] at rk
    cases q : numP fr y k with
    | none => rw [q] at rk; cases rk
    | some i =>
      unfold numP at q ⊢
      rw [ek]
      refine first_later (runP_len hy k) al pos r q fun j hj => out k j hk ?_
      unfold uP numP
      rw [q]
      exact hj
  intro k
  induction k with
  | zero => exact fun hk => ⟨rfl, fun h => num 0 h rfl⟩
  | succ k ih =>
    intro hk
    obtain ⟨e1, e2⟩ := ih (by omega)
    have e2 := e2 (by omega)
    have rk := rest k (by omega)
    rw [numP_rest] at rk
    have es : runP fr (goneL y a r) (k + 1) = goneL (runP fr y (k + 1)) a r := by
      cases q : numP fr y k with
      | none => rw [q] at rk; cases rk
      | some i =>
        obtain ⟨p, hp, _⟩ := firstL_lt q
        rw [run_up q hp, run_up (e2.trans q) hp, e1]
        exact goneL_two (runP_len hy k) al addF_len
    exact ⟨es, fun h => num (k + 1) h es⟩
theorem round_end (hy : y.length = 10) (e : loopA fr (runP fr y) (uP fr y) c = some a) : runP fr y c = goneL y a 1 := by
  obtain ⟨ea, _, _⟩ := loopA_inv e
  rw [ea]
  exact (goneL_sub hy (runP_len hy c)).symm
theorem rounds_on (hy : y.length = 10) (rest : ∀ k, k < c → restP fr y k = false) (e : loopA fr (runP fr y) (uP fr y) c = some a) : ∀ r, runP fr y (r * c) = goneL y a r
  | 0 => by
    rw [Nat.zero_mul]
    exact (goneL_0 hy (loopA_len (fun k => runP_len hy k) e)).symm
  | r + 1 => by
    have al := loopA_len (fun k => runP_len hy k) e
    rw [Nat.succ_mul, run_add, rounds_on hy rest e r, (round_on hy rest e r c (Nat.le_refl _)).1, round_end hy e, goneL_up hy al, Int.add_comm]
    rfl
theorem far_run (hy : y.length = 10) (c0 : 0 < c) (rest : ∀ k, k < c → restP fr y k = false) (e : loopA fr (runP fr y) (uP fr y) c = some a) (n : Nat) : runP fr y n = runP fr (goneL y a (n / c : Nat)) (n % c) ∧ runP fr y n = goneL (runP fr y (n % c)) a (n / c : Nat) ∧ numP fr y n = numP fr y (n % c) ∧ restP fr y n = false := by
  have lt := Nat.mod_lt n c0
  have e1 := rounds_on hy rest e (n / c)
  have e2 := round_on hy rest e (n / c) (n % c) (by omega)
  have en : n / c * c + n % c = n := Nat.div_add_mod' n c
  have er : runP fr y n = runP fr (goneL y a (n / c : Nat)) (n % c) := by
    conv => lhs; rw [← en]
    rw [run_add, e1]
  have nu : numP fr y n = numP fr y (n % c) := by
    rw [← e2.2 lt]
    unfold numP
    rw [er]
  refine ⟨er, er.trans e2.1, nu, ?_⟩
  have := rest _ lt
  rw [numP_rest] at this ⊢
  rw [nu]
  exact this
end
end Gd
namespace Gd
open PySem PySem.Spec PyProof.Rows L2 Sm
structure Rw where
  add : Bool
  c : Nat
  t : Nat
  u : Nat
def rwT (q : Rw) : T := if q.add then .tup [.str "add", tN q.c, tN q.t] else .tup [.str "take", tN q.c, tN q.t, tN q.u]
def okR (many size : Nat) (q : Rw) : Prop := q.c < many ∧ q.t ≤ size ∧ q.u ≤ size
theorem mrows_of {many : Int} {size : Nat} : ∀ {rows : List T}, (∀ r ∈ rows, isRow many size r) → ∃ rs : List Rw, rows = rs.map rwT ∧ ∀ q ∈ rs, okR many.toNat size q
  | [], _ => ⟨[], rfl, fun _ h => absurd h (by simp)⟩
  | r :: l, h => by
    obtain ⟨rs, e, k⟩ := mrows_of (fun x hx => h x (List.mem_cons_of_mem _ hx))
    have one : ∃ q, r = rwT q ∧ okR many.toNat size q := by
      obtain ⟨c, t, a, b, c0, d, rfl⟩ | ⟨c, t, u, a, b, c0, d, f, g, rfl⟩ := h r (by simp)
      · refine ⟨⟨true, c.toNat, t.toNat, 0⟩, ?_, by show c.toNat < many.toNat; omega, by show t.toNat ≤ size; omega, by show 0 ≤ size; omega⟩
        simp [rwT, tN]
        omega
      · refine ⟨⟨false, c.toNat, t.toNat, u.toNat⟩, ?_, by show c.toNat < many.toNat; omega, by show t.toNat ≤ size; omega, by show u.toNat ≤ size; omega⟩
        simp [rwT, tN]
        omega
    obtain ⟨q, e1, k1⟩ := one
    exact ⟨q :: rs, by rw [e, e1]; rfl, fun x hx => (List.mem_cons.mp hx).elim (fun z => by rw [z]; exact k1) (k x)⟩
abbrev Sd := Nat × List Int
def sdT (s : Sd) : T := .tup [tN s.1, iT s.2]
def stepR (q : Rw) (vs : List Int) : Sd := if q.add then (q.t, vs.set q.c (vs.getD q.c 0 + 1)) else if 0 < vs.getD q.c 0 then (q.t, vs.set q.c (vs.getD q.c 0 - 1)) else (q.u, vs)
def stepS (rs : List Rw) (s : Sd) : Sd := match rs[s.1]? with
  | some q => stepR q s.2
  | none => s
def okS (many size : Nat) (s : Sd) : Prop := s.1 ≤ size ∧ s.2.length = many ∧ ∀ v ∈ s.2, 0 ≤ v
def runS (rs : List Rw) (s : Sd) : Nat → Sd
  | 0 => s
  | n + 1 => stepS rs (runS rs s n)
theorem getD_mem {vs : List Int} {c : Nat} (h : c < vs.length) : vs.getD c 0 ∈ vs := by
  rw [List.getD_eq_getElem?_getD, List.getElem?_eq_getElem h]
  exact List.getElem_mem h
theorem ok_step {rs : List Rw} {many : Nat} {s : Sd} (hr : ∀ q ∈ rs, okR many rs.length q) (k : okS many rs.length s) : okS many rs.length (stepS rs s) := by
  unfold stepS
  cases e : rs[s.1]? with
  | none => exact k
  | some q =>
    obtain ⟨k1, k2, k3⟩ := k
    obtain ⟨r1, r2, r3⟩ := hr q (List.mem_of_getElem? e)
    have pos : 0 ≤ s.2.getD q.c 0 := k3 _ (getD_mem (by omega))
    have st : ∀ w : Int, 0 ≤ w → ∀ v ∈ s.2.set q.c w, 0 ≤ v := fun w hw v hv => (List.mem_or_eq_of_mem_set hv).elim (k3 v) fun z => by rw [z]; exact hw
    show okS many rs.length (stepR q s.2)
    unfold stepR
    split
    · exact ⟨r2, by simpa using k2, st _ (by omega)⟩
    · split
      · exact ⟨r2, by simpa using k2, st _ (by omega)⟩
      · exact ⟨r3, k2, k3⟩
theorem ok_run {rs : List Rw} {many : Nat} {s : Sd} (hr : ∀ q ∈ rs, okR many rs.length q) (k : okS many rs.length s) : ∀ n, okS many rs.length (runS rs s n)
  | 0 => k
  | n + 1 => ok_step hr (ok_run hr k n)
theorem stop_at (f : Nat → Nat) (N : Nat) : ∀ many : Nat, ∃ m, m ≤ many ∧ (∀ k, k < m → f k ≠ N) ∧ (m = many ∨ f m = N)
  | 0 => ⟨0, Nat.le_refl _, fun k h => absurd h (by omega), .inl rfl⟩
  | n + 1 => by
    obtain ⟨m, a, b, c⟩ := stop_at f N n
    rcases c with rfl | c
    · by_cases h : f m = N
      · exact ⟨m, by omega, b, .inr h⟩
      · refine ⟨m + 1, Nat.le_refl _, fun k hk => ?_, .inl rfl⟩
        by_cases e : k = m
        · rw [e]; exact h
        · exact b k (by omega)
    · exact ⟨m, by omega, b, .inr c⟩
abbrev mcT (many : Nat) (rs : List Rw) : T := .tup [tN many, .tup (rs.map rwT)]
section
variable {h : Store} {rs : List Rw} {many : Nat}
theorem ints_at {vs : List Int} {c : Nat} (hc : c < vs.length) : atI (vs.map T.int) (c : Int) = some (.int (vs.getD c 0)) := by
  rw [atI_p (by omega) (by simpa using hc)]
  simp [List.getD_eq_getElem?_getD, List.getElem?_eq_getElem hc]
theorem row_at {s : Sd} {q : Rw} (e : rs[s.1]? = some q) : atI (rs.map rwT) (s.1 : Int) = some (rwT q) := by
  have := (List.getElem?_eq_some_iff.mp e).1
  rw [atI_p (by omega) (by simpa using this)]
  simp [e]
theorem set_cut {vs : List Int} {c : Nat} {w : Int} (hc : c < vs.length) : vs.set c w = vs.take c ++ [w] ++ vs.drop (c + 1) := by
  rw [List.set_eq_take_append_cons_drop, if_pos hc]
  simp
theorem led_eq {s : Sd} {q : Rw} (e : rs[s.1]? = some q) (hq : okR many rs.length q) (k : okS many rs.length s) (hm : many < 1000) : F_law_led [mcT many rs, sdT s] h = .ok (sdT (stepS rs s)) h := by
  refine Out.wp_eq (fn_wp rfl ?_)
  show (b_law_led [some (mcT many rs), some (sdT s), none, none, none, none] h).wp _
  obtain ⟨k1, k2, k3⟩ := k
  obtain ⟨r1, r2, r3⟩ := hq
  have ra := row_at e
  have ia : atI (s.2.map T.int) (q.c : Int) = some (.int (s.2.getD q.c 0)) := ints_at (by omega)
  have pos : 0 ≤ s.2.getD q.c 0 := k3 _ (getD_mem (by omega))
  have st : stepS rs s = stepR q s.2 := by unfold stepS; rw [e]
  have pk : ∃ (A D : List T) (B : Int → List T), cutT (s.2.map T.int) none (some (q.c : Int)) = A ∧ cutT (s.2.map T.int) (some ((q.c : Int) + 1)) none = D ∧
      (∀ (w : Int) (h0 : Store), fAdd (.tup A) (.tup [.int w]) h0 = some (.tup (B w))) ∧ ∀ (w : Int) (h0 : Store), fAdd (.tup (B w)) (.tup D) h0 = some (iT (s.2.set q.c w)) := by
    refine ⟨(s.2.take q.c).map T.int, (s.2.drop (q.c + 1)).map T.int, fun w => (s.2.take q.c ++ [w]).map T.int, ?_, ?_, fun w h0 => ?_, fun w h0 => ?_⟩
    · rw [cut_to (by omega)]
      simp
    · rw [cut_from (by omega), show ((q.c : Int) + 1).toNat = q.c + 1 by omega]
      simp
    · rw [add_tup (by simp; omega)]
      simp
    · rw [add_tup (by simp; omega), set_cut (by omega)]
      simp
  obtain ⟨A, D, B, c1, c2, cat, cat2⟩ := pk
  generalize hv : s.2.getD q.c 0 = v at ia pos
  have pi : ∀ w : Int, pus ((s.2.set q.c w).map T.int) = true := fun w => pus_ints
  generalize hset : (fun w => s.2.set q.c w) = S
  have cat3 : ∀ (w : Int) (h0 : Store), fAdd (.tup (B w)) (.tup D) h0 = some (iT (S w)) := fun w h0 => by rw [← hset]; exact cat2 w h0
  have st2 : ∀ w : Int, s.2.set q.c w = S w := fun w => by rw [← hset]
  have ne : ¬ (("take" : Str) = "add") := by decide
  have hg : s.2[q.c]?.getD 0 = v := by rw [← hv, List.getD_eq_getElem?_getD]
  cases ha : q.add with
  | true =>
    have rt : rwT q = .tup [.str "add", tN q.c, tN q.t] := by simp [rwT, ha]
    rw [rt] at ra
    simp only [tN] at ra
    simp -implicitDefEqProofs [b_law_led, sdT, setT, tN, ra, ia, c1, c2, cat, cat3, fnP, st, stepR, ha, hg, st2]
  | false =>
    have rt : rwT q = .tup [.str "take", tN q.c, tN q.t, tN q.u] := by simp [rwT, ha]
    rw [rt] at ra
    simp only [tN] at ra
    by_cases hz : v = 0
    · subst hz
      simp -implicitDefEqProofs [b_law_led, sdT, setT, tN, ra, ia, fnP, st, stepR, ha, hg, ne]
    · have hp : 0 < v := by omega
      simp -implicitDefEqProofs [b_law_led, sdT, setT, tN, ra, ia, c1, c2, cat, cat3, fnP, st, stepR, ha, hg, st2, ne, hz, hp]
theorem stands_eq {s : Sd} {n m : Nat} (hr : ∀ q ∈ rs, okR many rs.length q) (k : okS many rs.length s) (hm : many < 1000) (hn : n < 1000) (m1 : m ≤ n) (m2 : ∀ j, j < m → (runS rs s j).1 ≠ rs.length) (m3 : m = n ∨ (runS rs s m).1 = rs.length) :
    F_law_stands [mcT many rs, sdT s, tN n] h = .ok (.lst ((List.range (m + 1)).map fun j => sdT (runS rs s j))) h := by
  refine Out.wp_eq (fn_wp rfl ?_)
  show (b_law_stands [some (mcT many rs), some (sdT s), some (tN n), none] h).wp _
  have ps : ∀ s : Sd, (sdT s).pu = true := fun s => by simp [sdT, tN]
  have up : ∀ j, (List.range (j + 1 + 1)).map (fun j => sdT (runS rs s j)) = (List.range (j + 1)).map (fun j => sdT (runS rs s j)) ++ [sdT (runS rs s (j + 1))] := fun j => by
    rw [List.range_succ, List.map_append]
    rfl
  have le : ∀ j, ((List.range (j + 1)).map fun j => sdT (runS rs s j)).length = j + 1 := fun j => by simp
  have la : ∀ j, atI ((List.range (j + 1)).map fun j => sdT (runS rs s j)) (-1) = some (sdT (runS rs s j)) := fun j => by
    have e : ixN (j + 1) (-1) = some j := by
      unfold ixN
      rw [if_neg (by omega), if_pos (by omega)]
      congr 1
      omega
    unfold atI
    rw [le, e]
    simp
  have st : (b_law_stands [some (mcT many rs), some (sdT s), some (tN n), none] h) = ((sWhile (mAndT (mTst (mBin fLe (mCallF fLen (mCons (mVar 3) mNil)) (mVar 2))) (mTst (mBin fLt (mBin fIdx (mBin fIdx (mVar 3) (mUn fNeg (mC (.int 1)))) (mC (.int 0))) (mCallF fLen (mCons (mBin fIdx (mVar 0) (mC (.int 1))) mNil))))) [1]
      (sExp (mMethL fAppend (mVar 3) (mCons (mCall F_law_led (mCons (mVar 0) (mCons (mBin fIdx (mVar 3) (mUn fNeg (mC (.int 1)))) mNil))) mNil)))) [some (mcT many rs), some (sdT s), some (tN n), some (.loc h.length)] (h ++ [.lst [sdT s]])).seq (sRet (mVar 3)) := by
    simp -implicitDefEqProofs [b_law_stands, ps]
  rw [st, so_seq]
  show (whileL _ _ _ _ _).wp _
  refine whileL_wp (fun x env h' => ∃ j, x = m - j ∧ j ≤ m ∧ h' = h ++ [.lst ((List.range (j + 1)).map fun j => sdT (runS rs s j))] ∧ env = [some (mcT many rs), none, some (tN n), some (.loc h.length)]) ?_ (m - 0) ⟨0, rfl, Nat.zero_le _, rfl, rfl⟩
  rintro x env h' ⟨j, rfl, hj, rfl, rfl⟩
  have kj := ok_run hr k j
  generalize hL : (List.range (j + 1)).map (fun j => sdT (runS rs s j)) = L
  have lL : L.length = j + 1 := by rw [← hL]; exact le j
  have aL : atI L (-1) = some (sdT (runS rs s j)) := by rw [← hL]; exact la j
  have g1 : (h ++ [Cell.lst L])[h.length]? = some (.lst L) := by simp
  have n1 : fLen [.loc h.length] (h ++ [.lst L]) = some (.int ((j : Int) + 1)) := by rw [e_len rfl, lL]; rfl
  have x1 : fIdx (.loc h.length) (.int (-1)) (h ++ [.lst L]) = some (sdT (runS rs s j)) := by rw [e_idx rfl, aL]
  have lo : lstOf (h ++ [.lst L]) (.loc h.length) = some L := by simp
  by_cases c1 : j < m
  · have c2 := m2 j c1
    have c3 : (runS rs s j).1 < rs.length := by have := kj.1; omega
    obtain ⟨q, hq⟩ : ∃ q, rs[(runS rs s j).1]? = some q := ⟨rs[(runS rs s j).1], List.getElem?_eq_getElem c3⟩
    have ld := led_eq (h := h ++ [.lst L]) hq (hr q (List.mem_of_getElem? hq)) kj hm
    have ap := e_append (h := h) (m := h.length) (xs := L) (y := sdT (stepS rs (runS rs s j))) rfl (by omega) (ps _)
    have c4 : (j : Int) + 1 ≤ (n : Int) := by omega
    have c5 : (((runS rs s j).1 : Nat) : Int) < (rs.length : Int) := by omega
    simp only [sdT, tN] at x1
    simp -implicitDefEqProofs [tN, n1, x1, c4, c5]
    simp only [sdT, tN] at ld ap
    simp -implicitDefEqProofs [ld, ap]
    refine ⟨m - (j + 1), by omega, j + 1, rfl, by omega, ?_⟩
    rw [up, hL]
    rfl
  · have jm : j = m := by omega
    subst jm
    simp only [sdT, tN] at x1
    rcases m3 with rfl | m3
    · have c4 : ¬ (j : Int) + 1 ≤ (j : Int) := by omega
      have pl : pus L = true := by rw [← hL]; exact pus_map fun j => ps _
      simp -implicitDefEqProofs [tN, n1, c4, fnP, frz, pl, si_app]
      exact hL.symm
    · have c5 : ¬ (((runS rs s j).1 : Nat) : Int) < (rs.length : Int) := by omega
      have pl : pus L = true := by rw [← hL]; exact pus_map fun j => ps _
      by_cases c4 : (j : Int) + 1 ≤ (n : Int)
      · simp -implicitDefEqProofs [tN, n1, x1, c4, c5, fnP, frz, pl, si_app]
        exact hL.symm
      · simp -implicitDefEqProofs [tN, n1, c4, fnP, frz, pl, si_app]
        exact hL.symm
end
end Gd
namespace Gd
open PySem PySem.Spec PyProof.Rows L2 Sm
theorem stand2_wp {h : Store} {n : Nat} {v many : Int} {rows : List T} {Q : T → Store → Prop} {X : Ex → Store → Prop} (p : potAt h n v) (m0 : 0 ≤ many) (m1 : many < 1000) (hl : rows.length < 1000)
    (q : ∀ (s : Sd) w, 0 ≤ w → okS many.toNat rows.length s → Q (sdT s) (pst h n w)) : (F_law_stand [.loc n, .tup [.int many, .tup rows]] h).wp Q X := by
  refine fn_wp rfl ?_
  show (b_law_stand [some (.loc n), some (.tup [.int many, .tup rows]), none] h).wp _
  have hn := p.lt
  have v1 : 0 ≤ v / (rows.length + 1) := Int.ediv_nonneg p.2 (by omega)
  have k0 := Int.emod_nonneg v (show (rows.length : Int) + 1 ≠ 0 by omega)
  have k1 := Int.emod_lt_of_pos v (show 0 < (rows.length : Int) + 1 by omega)
  simp -implicitDefEqProofs (disch := first | omega | assumption | simp) [b_law_stand, take_eq p, mComp, asR1_ok]
  simp only [so_bindE, wp_bind]
  refine compLoop_wp _ (fun i acc h' => ∃ (w : Int) (ns : List Int), 0 ≤ w ∧ acc = ns.map T.int ∧ ns.length = i ∧ h' = pst h n w ∧ ∀ x ∈ ns, 0 ≤ x) ?_ ?_ (by rw [Sm.rangeT_length]; omega) ⟨_, [], v1, rfl, rfl, rfl, by simp⟩
  · rintro i x acc h' hx ha ⟨w, ns, hw, rfl, hl2, rfl, hp⟩
    obtain ⟨rfl, hi⟩ := range_at hx
    have w1 : 0 ≤ w / 5 := by omega
    refine ⟨by simp, _, b_one, ?_⟩
    simp -implicitDefEqProofs (disch := first | omega | assumption | simp) [take_1]
    refine ⟨_, w1, ns ++ [w % 5], by simp, by simp [hl2], rfl, fun x hx => ?_⟩
    rcases List.mem_append.mp hx with old | new
    · exact hp x old
    · have := List.mem_singleton.mp new
      omega
  · rintro acc h' ⟨w, ns, hw, rfl, hl2, rfl, hp⟩
    rw [Sm.rangeT_length] at hl2
    simp [fnP]
    have := q ((v % (rows.length + 1)).toNat, ns) w hw ⟨by show (v % (rows.length + 1)).toNat ≤ rows.length; omega, hl2, hp⟩
    have e : ((v % (rows.length + 1)).toNat : Int) = v % (rows.length + 1) := by omega
    simp only [sdT, tN, e] at this
    exact this
section
variable {h : Store} {rs : List Rw} {many : Nat}
theorem mafter_wp {s : Sd} {n m : Nat} (hr : ∀ q ∈ rs, okR many rs.length q) (k : okS many rs.length s) (hm : many < 1000) (hn : n < 1000) (m1 : m ≤ n) (m2 : ∀ j, j < m → (runS rs s j).1 ≠ rs.length) (m3 : m = n ∨ (runS rs s m).1 = rs.length) :
    (F_machine_after [mcT many rs, sdT s, tN n] h).wp (fun t h' => m = n ∧ t = sdT (runS rs s n) ∧ h' = h) (fun e h' => m < n ∧ e = .fld 11 "steps" (tN m) ∧ h' = h) := by
  refine fn_wp rfl ?_
  show (b_machine_after [some (mcT many rs), some (sdT s), some (tN n), none, none, none, none, none] h).wp _
  have pi : ∀ vs : List Int, pus (vs.map T.int) = true := fun vs => pus_ints
  simp -implicitDefEqProofs only [b_machine_after, sdT, q2_seq, q2_set, q2_asg, q1_var, q1_bin, q1_C, q1_cell, q1_newA, q1_cons, q1_nil, List.getElem?_cons_zero, List.getElem?_cons_succ, bind_ok, bindE_ok, q3_idx, atI_1, ofO_some, seq_nx, List.set, b_tup, setT, List.length_cons, List.length_nil, if_true, list_tup, pi, so_seq]
  rw [sFor_of (range_of (h1 := h ++ [.lst (s.2.map T.int)]) (e := n) (by simp) (by omega))]
  refine forLoop_wp _ (fun i env h' => i ≤ m ∧ h' = h ++ [.lst ((runS rs s i).2.map T.int)] ∧ env = [none, none, none, some (.tup (rs.map rwT)), some (tN (runS rs s i).1), some (.loc h.length), none, none]) ?_ ?_ ⟨Nat.zero_le _, rfl, rfl⟩
  · rintro i x env h' hx ⟨hi, rfl, rfl⟩
    obtain ⟨rfl, hin⟩ := range_at hx
    refine ⟨by simp, _, b_one, ?_⟩
    rw [Int.zero_add]
    have kj := ok_run hr k i
    by_cases c1 : i < m
    · have c2 := m2 i c1
      have c3 : (runS rs s i).1 < rs.length := by have := kj.1; omega
      obtain ⟨q, hq⟩ : ∃ q, rs[(runS rs s i).1]? = some q := ⟨rs[(runS rs s i).1], List.getElem?_eq_getElem c3⟩
      have next : runS rs s (i + 1) = stepR q (runS rs s i).2 := by
        show stepS rs (runS rs s i) = _
        unfold stepS
        rw [hq]
      rw [next]
      generalize runS rs s i = t at kj c2 c3 hq
      obtain ⟨k1, k2, k3⟩ := kj
      obtain ⟨r1, r2, r3⟩ := hr q (List.mem_of_getElem? hq)
      have ra := row_at hq
      have ia : atI (t.2.map T.int) (q.c : Int) = some (.int (t.2.getD q.c 0)) := ints_at (by omega)
      have pos : 0 ≤ t.2.getD q.c 0 := k3 _ (getD_mem (by omega))
      have c4 : ¬ ((t.1 : Nat) : Int) = (rs.length : Int) := by omega
      have ix : fIdx (.loc h.length) (.int (q.c : Int)) (h ++ [.lst (t.2.map T.int)]) = some (.int (t.2.getD q.c 0)) := by rw [e_idx rfl, ia]
      have es : ∀ (w : Int) (env : Env'), setC (h ++ [.lst (t.2.map T.int)]) h.length (q.c : Int) (.int w) env = .nx env (h ++ [.lst ((t.2.set q.c w).map T.int)]) := fun w env => by
        rw [e_set rfl (by omega) (by simp; omega) rfl]
        simp
      have ne : ¬ (("take" : Str) = "add") := by decide
      generalize hv : t.2.getD q.c 0 = v at ia pos ix
      have st2 : stepR q t.2 = if q.add then (q.t, t.2.set q.c (v + 1)) else if 0 < v then (q.t, t.2.set q.c (v - 1)) else (q.u, t.2) := by unfold stepR; rw [hv]
      have hset : ∃ S : Int → List Int, ∀ w, t.2.set q.c w = S w := ⟨_, fun w => rfl⟩
      obtain ⟨S, hS⟩ := hset
      simp only [hS] at es st2
      have c5 : i + 1 ≤ m := c1
      cases ha : q.add with
      | true =>
        have rt : rwT q = .tup [.str "add", tN q.c, tN q.t] := by simp [rwT, ha]
        rw [rt] at ra
        simp only [tN] at ra
        simp -implicitDefEqProofs [tN, c4, ra, ix, es, st2, ha, c5]
      | false =>
        have rt : rwT q = .tup [.str "take", tN q.c, tN q.t, tN q.u] := by simp [rwT, ha]
        rw [rt] at ra
        simp only [tN] at ra
        by_cases hz : 0 < v
        · simp -implicitDefEqProofs [tN, c4, ra, ix, es, st2, ha, c5, ne, hz]
        · simp -implicitDefEqProofs [tN, c4, ra, ix, es, st2, ha, c5, ne, hz]
    · have im : i = m := by omega
      subst im
      have c2 : (runS rs s i).1 = rs.length := by
        rcases m3 with e | e
        · omega
        · exact e
      have c4 : (((runS rs s i).1 : Nat) : Int) = (rs.length : Int) := by omega
      have mn : i < n := hin
      simp -implicitDefEqProofs [tN, c4, sRaiseF, fnP, mn, Ex.pu, si_app]
  · rintro env h' ⟨hi, rfl, rfl⟩
    rw [Sm.rangeT_length] at hi ⊢
    have e : m = n := by omega
    subst e
    simp -implicitDefEqProofs [fnP, e_tup, sdT, tN, si_app]
end
end Gd
namespace Gd
open PySem PySem.Spec PyProof.Rows L2 Sm
end Gd
namespace Gd
open PySem PySem.Spec PyProof.Rows L2 Sm
end Gd
namespace Gd
open PySem PySem.Spec PyProof.Rows L2 Sm
theorem full_of {n : Nat} (es : List Nat) (hl : es.length = PR.length) (e : prodOf PR es = n) : full n = true := by
  have := strip_prod (ps := PR) (es := es) (fun p hp => (PR_ok p hp).1) PR_pair hl
  rw [e] at this
  simp [full, this]
end Gd
namespace Gd
open PySem PySem.Spec PyProof.Rows L2 Sm
def pr (i : Nat) : Nat := PR.getD i 1
theorem t_PR : t_PRIMES = .tup (PR.map tN) := rfl
theorem pr_at {i : Nat} (hi : i < 10) : atI (PR.map tN) (i : Int) = some (tN (pr i)) := by
  have hl : i < PR.length := hi
  rw [atI_p (by omega) (by simpa using hl)]
  simp [pr, List.getD_eq_getElem?_getD, List.getElem?_eq_getElem hl]
theorem pr_small : ∀ i, i < 10 → 1 < pr i ∧ pr i ≤ 29 := by decide
theorem pr_cop : ∀ i, i < 10 → ∀ j, j < 10 → i ≠ j → Nat.gcd (pr i) (pr j) = 1 := by decide
theorem full_mul {a b : Nat} (fa : full a = true) (fb : full b = true) (a0 : 0 < a) (b0 : 0 < b) : full (a * b) = true := by
  have qa : (stripAll PR a).2 = 1 := by simpa [full] using fa
  have qb : (stripAll PR b).2 = 1 := by simpa [full] using fb
  have ea := stripAll_mul (ps := PR) (fun p hp => (PR_ok p hp).1) a0
  have eb := stripAll_mul (ps := PR) (fun p hp => (PR_ok p hp).1) b0
  rw [qa, Nat.mul_one] at ea
  rw [qb, Nat.mul_one] at eb
  have la := stripAll_len PR a
  have lb := stripAll_len PR b
  have key : ∀ (ps xs ys : List Nat), xs.length = ps.length → ys.length = ps.length → prodOf ps (List.zipWith (· + ·) xs ys) = prodOf ps xs * prodOf ps ys := by
    intro ps
    induction ps with
    | nil => intro xs ys _ _; simp [prodOf]
    | cons p ps ih =>
      intro xs ys hx hy
      cases xs with
      | nil => simp at hx
      | cons x xs =>
        cases ys with
        | nil => simp at hy
        | cons y ys =>
          simp only [List.zipWith_cons_cons, prodOf]
          rw [ih xs ys (by simpa using hx) (by simpa using hy), Nat.pow_add]
          simp only [Nat.mul_assoc, Nat.mul_left_comm]
  refine full_of (List.zipWith (· + ·) (stripAll PR a).1 (stripAll PR b).1) (by rw [List.length_zipWith, la, lb]; rfl) ?_
  rw [key _ _ _ la lb, ← ea, ← eb]
theorem full_pr : ∀ i, i < 10 → full (pr i) = true := by
  intro i hi
  have key : ∀ i, i < 10 → prodOf PR ((List.range 10).map fun j => if j = i then 1 else 0) = pr i := by decide
  exact full_of _ (by simp [PR]) (key i hi)
theorem full_one : full 1 = true := full_of [0, 0, 0, 0, 0, 0, 0, 0, 0, 0] rfl (by decide)
def fac (k x : Nat) : Prop := x = 1 ∨ ∃ i, i < 10 ∧ i ≠ k ∧ x = pr i
theorem fac_ok {k x : Nat} (h : fac k x) (hk : k < 10) : 0 < x ∧ x ≤ 29 ∧ full x = true ∧ Nat.gcd x (pr k) = 1 := by
  rcases h with rfl | ⟨i, hi, ne, rfl⟩
  · exact ⟨by omega, by omega, full_one, Nat.gcd_one_left _⟩
  · have := pr_small i hi
    exact ⟨by omega, this.2, full_pr i hi, pr_cop i hi k hk ne⟩
theorem okFr_top {k x y : Nat} (hk : k < 10) (hx : fac k x) (hy : fac k y) : okFr (x * y, pr k) := by
  obtain ⟨x0, x1, x2, x3⟩ := fac_ok hx hk
  obtain ⟨y0, y1, y2, y3⟩ := fac_ok hy hk
  have pk := pr_small k hk
  have b : x * y ≤ 29 * 29 := Nat.mul_le_mul x1 y1
  exact ⟨Nat.mul_pos x0 y0, by show 0 < pr k; omega, full_mul x2 y2 x0 y0, full_pr k hk, by show x * y ≤ _; omega, by show pr k ≤ _; omega, Nat.Coprime.mul_left x3 y3⟩
theorem okFr_bot {j k x : Nat} (hj : j < 10) (hk : k < 10) (hx : fac k x) (hx2 : fac j x) : okFr (x, pr k * pr j) := by
  obtain ⟨x0, x1, x2, x3⟩ := fac_ok hx hk
  have x4 := (fac_ok hx2 hj).2.2.2
  have pk := pr_small k hk
  have pj := pr_small j hj
  have b : pr k * pr j ≤ 29 * 29 := Nat.mul_le_mul pk.2 pj.2
  exact ⟨x0, Nat.mul_pos (by omega) (by omega), x2, full_mul (full_pr k hk) (full_pr j hj) (by omega) (by omega), by show x ≤ _; omega, by show pr k * pr j ≤ _; omega, Nat.Coprime.mul_right x3 x4⟩
def ow (M k s : Nat) : Nat := pr (M + 2 * k + s)
def ah (M N t s : Nat) : Nat := if t = N then 1 else pr (M + 2 * t + 1 - s)
def rowFr (M N : Nat) (q : Rw) (k s : Nat) : List Fr := if q.add then [(pr q.c * ah M N q.t s, ow M k s)] else [(ah M N q.t s, ow M k s * pr q.c), (ah M N q.u s, ow M k s)]
def rowsFr (M N : Nat) (rs : List Rw) (i : Nat) : List Fr := (List.range i).flatMap fun k => [0, 1].flatMap fun s => rowFr M N (rs.getD k ⟨true, 0, 0, 0⟩) k s
theorem rowsFr_succ {M N : Nat} {rs : List Rw} {i : Nat} {q : Rw} (e : rs[i]? = some q) : rowsFr M N rs (i + 1) = rowsFr M N rs i ++ [0, 1].flatMap fun s => rowFr M N q i s := by
  unfold rowsFr
  rw [List.range_succ, List.flatMap_append]
  simp [List.getD_eq_getElem?_getD, e]
theorem fac_ah {M N t s k : Nat} (hs : s < 2) (ht : t ≤ N) (h : M + 2 * N ≤ 10) (ne : M + 2 * t + 1 - s ≠ k) : fac k (ah M N t s) := by
  unfold ah
  split
  · exact .inl rfl
  · exact .inr ⟨M + 2 * t + 1 - s, by omega, ne, rfl⟩
theorem ok_row {M N : Nat} {q : Rw} {k s : Nat} (hq : okR M N q) (hk : k < N) (hs : s < 2) (h : M + 2 * N ≤ 10) : ∀ p ∈ rowFr M N q k s, okFr p := by
  obtain ⟨r1, r2, r3⟩ := hq
  have f1 : ∀ t, t ≤ N → fac (M + 2 * k + s) (ah M N t s) := fun t ht => fac_ah hs ht h (by omega)
  have f2 : ∀ t, t ≤ N → fac q.c (ah M N t s) := fun t ht => fac_ah hs ht h (by omega)
  have f3 : fac (M + 2 * k + s) (pr q.c) := .inr ⟨q.c, by omega, by omega, rfl⟩
  unfold rowFr ow
  cases q.add with
  | true =>
    intro p hp
    rw [if_pos rfl, List.mem_singleton] at hp
    subst hp
    exact okFr_top (by omega) f3 (f1 _ r2)
  | false =>
    intro p hp
    rw [if_neg Bool.false_ne_true] at hp
    rcases List.mem_cons.mp hp with rfl | hp
    · exact okFr_bot (by omega) (by omega) (f1 _ r2) (f2 _ r2)
    · rw [List.mem_singleton.mp hp]
      have := okFr_top (k := M + 2 * k + s) (x := ah M N q.u s) (y := 1) (by omega) (f1 _ r3) (.inl rfl)
      rwa [Nat.mul_one] at this
theorem ok_rows {M : Nat} {rs : List Rw} (hr : ∀ q ∈ rs, okR M rs.length q) (h : M + 2 * rs.length ≤ 10) : ∀ i, i ≤ rs.length → okP (rowsFr M rs.length rs i) := by
  intro i hi p hp
  unfold rowsFr at hp
  obtain ⟨k, hk, hp⟩ := List.mem_flatMap.mp hp
  obtain ⟨s, hs, hp⟩ := List.mem_flatMap.mp hp
  rw [List.mem_range] at hk
  have hs : s < 2 := by simp only [List.mem_cons, or_false, List.not_mem_nil] at hs; omega
  have hk2 : k < rs.length := by omega
  rw [List.getD_eq_getElem?_getD, List.getElem?_eq_getElem hk2] at hp
  exact ok_row (hr _ (List.getElem_mem hk2)) hk2 hs h p hp
theorem row_len {M N : Nat} {q : Rw} {k s : Nat} : 1 ≤ (rowFr M N q k s).length ∧ (rowFr M N q k s).length ≤ 2 := by
  unfold rowFr
  split <;> simp
theorem rows_len {M N : Nat} {rs : List Rw} : ∀ i, i ≤ (rowsFr M N rs i).length ∧ (rowsFr M N rs i).length ≤ 4 * i
  | 0 => by simp [rowsFr]
  | i + 1 => by
    obtain ⟨a, b⟩ := rows_len (M := M) (N := N) (rs := rs) i
    have e : rowsFr M N rs (i + 1) = rowsFr M N rs i ++ (rowFr M N (rs.getD i ⟨true, 0, 0, 0⟩) i 0 ++ rowFr M N (rs.getD i ⟨true, 0, 0, 0⟩) i 1) := by
      unfold rowsFr
      rw [List.range_succ, List.flatMap_append]
      simp
    have r0 := row_len (M := M) (N := N) (q := rs.getD i ⟨true, 0, 0, 0⟩) (k := i) (s := 0)
    have r1 := row_len (M := M) (N := N) (q := rs.getD i ⟨true, 0, 0, 0⟩) (k := i) (s := 1)
    rw [e, List.length_append, List.length_append]
    omega
section
variable {h : Store} {rs : List Rw} {M : Nat}
theorem prime_eq {t : Nat} {b : Bool} (ht : t ≤ rs.length) (hM : M + 2 * rs.length ≤ 10) : F_prime_of [mcT M rs, tN t, .bl b] h = .ok (tN (if t = rs.length then 1 else pr (M + 2 * t + if b then 1 else 0))) h := by
  refine Out.wp_eq (fn_wp rfl ?_)
  show (b_prime_of [some (mcT M rs), some (tN t), some (.bl b), none, none] h).wp _
  by_cases c : t = rs.length
  · have c2 : ((t : Nat) : Int) = (rs.length : Int) := by omega
    simp -implicitDefEqProofs [b_prime_of, setT, tN, c, c2, fnP]
  · have c2 : ¬ ((t : Nat) : Int) = (rs.length : Int) := by omega
    have pa := pr_at (i := M + 2 * t + if b then 1 else 0) (by split <;> omega)
    have ei : ((M + 2 * t + if b then 1 else 0 : Nat) : Int) = (M : Int) + 2 * (t : Int) + if b then 1 else 0 := by split <;> omega
    rw [ei] at pa
    have mu : mulB 2 (t : Int) = true := mulB_l (by decide)
    have ix : fIdx t_PRIMES (.int ((M : Int) + 2 * (t : Int) + if b then 1 else 0)) h = some (tN (pr (M + 2 * t + if b then 1 else 0))) := by
      rw [t_PR]
      exact pa
    have ib : fInt [.bl b] h = some (.int (if b then 1 else 0)) := rfl
    simp -implicitDefEqProofs only [b_prime_of, q2_seq, q2_asg, q2_if, q2_ret, q2_nil, q1_var, q1_bin, q1_tst, q1_C, q1_callF, q1_cons, q1_nil, List.getElem?_cons_zero, List.getElem?_cons_succ, bind_ok, bindE_ok, b_tup, List.length_cons, List.length_nil, if_true, seq_nx, setT, List.set, tN, q3_len, List.length_map, ofO_some, q3_eq, c2, decide_false, asB_bl, Bool.false_eq_true, if_false, q3_mul, mu, q3_add, ib, ix]
    simp [fnP, c, tN]
theorem prime_ow {k : Nat} {b : Bool} (hk : k < rs.length) (hM : M + 2 * rs.length ≤ 10) : F_prime_of [mcT M rs, tN k, .bl b] h = .ok (tN (ow M k (if b then 1 else 0))) h := by
  rw [prime_eq (by omega) hM, if_neg (by omega)]
  rfl
theorem prime_ah {t : Nat} {b : Bool} (ht : t ≤ rs.length) (hM : M + 2 * rs.length ≤ 10) : F_prime_of [mcT M rs, tN t, .bl (!b)] h = .ok (tN (ah M rs.length t (if b then 1 else 0))) h := by
  rw [prime_eq ht hM]
  unfold ah
  cases b <;> simp
def frsT (fr : List Fr) : List T := fr.map frT
theorem rowsT_pu {fr : List Fr} : pus (frsT fr) = true := pus_map fun p => by simp [frT, tN]
theorem rowsT_app {a b : List Fr} : frsT (a ++ b) = frsT a ++ frsT b := List.map_append
theorem rowsT_len {a : List Fr} : (frsT a).length = a.length := List.length_map ..
theorem prog_step {q : Rw} {i : Nat} {b : Bool} {fr : List Fr} {x1 x2 x4 x6 : Option T} (hq : okR M rs.length q) (hi : i < rs.length) (hM : M + 2 * rs.length ≤ 10) (hl : fr.length < 100) :
    ∃ y4 y6, (sSeq (sSet 6 (mCall F_prime_of (mCons (mVar 0) (mCons (mVar 5) (mCons (mVar 8) mNil)))))
  (sSeq (sSet 4 (mCall F_prime_of (mCons (mVar 0) (mCons (mBin fIdx (mVar 7) (mC (.int 2))) (mCons (mNotV (mVar 8)) mNil)))))
  (sIf (mTst (mBin fEq (mBin fIdx (mVar 7) (mC (.int 0))) (mC (.str "add"))))
  (sExp (mMethL fAppend (mVar 3) (mCons (mTup (mCons (mBin fMul (mBin fIdx (mC t_PRIMES) (mBin fIdx (mVar 7) (mC (.int 1)))) (mVar 4)) (mCons (mVar 6) mNil))) mNil)))
  (sSeq (sExp (mMethL fAppend (mVar 3) (mCons (mTup (mCons (mVar 4) (mCons (mBin fMul (mVar 6) (mBin fIdx (mC t_PRIMES) (mBin fIdx (mVar 7) (mC (.int 1))))) mNil))) mNil)))
  (sExp (mMethL fAppend (mVar 3) (mCons (mTup (mCons (mCall F_prime_of (mCons (mVar 0) (mCons (mBin fIdx (mVar 7) (mC (.int 3))) (mCons (mNotV (mVar 8)) mNil)))) (mCons (mVar 6) mNil))) mNil))))))) [some (mcT M rs), x1, x2, some (.loc h.length), x4, some (tN i), x6, some (rwT q), some (.bl b)] (h ++ [.lst (frsT fr)]) =
      .nx [some (mcT M rs), x1, x2, some (.loc h.length), y4, some (tN i), y6, some (rwT q), some (.bl b)] (h ++ [.lst (frsT (fr ++ rowFr M rs.length q i (if b then 1 else 0)))]) := by
  obtain ⟨r1, r2, r3⟩ := hq
  generalize hs : (if b then 1 else 0) = s
  have s2 : s < 2 := by rw [← hs]; split <;> omega
  have po := fun h0 => prime_ow (h := h0) (b := b) hi hM
  have pa := fun h0 => prime_ah (h := h0) (b := b) r2 hM
  have pu := fun h0 => prime_ah (h := h0) (b := b) r3 hM
  rw [hs] at po pa pu
  have pc : ∀ h0 : Store, fIdx t_PRIMES (tN q.c) h0 = some (tN (pr q.c)) := fun h0 => by
    rw [t_PR]
    exact pr_at (by omega)
  have m1 : mulB (pr q.c : Int) (ah M rs.length q.t s : Int) = true := mulB_l (by have := (pr_small q.c (by omega)).2; omega)
  have m2 : mulB (ow M i s : Int) (pr q.c : Int) = true := mulB_r (by have := (pr_small q.c (by omega)).2; omega)
  have ne : ¬ (("take" : Str) = "add") := by decide
  have ap := fun (xs : List Fr) (p : Fr) (hx : xs.length < 1000) => e_append (h := h) (m := h.length) (xs := frsT xs) (y := frT p) rfl (by rw [rowsT_len]; omega) (by simp [frT, tN])
  have one : ∀ (xs : List Fr) (p : Fr), frsT xs ++ [frT p] = frsT (xs ++ [p]) := fun xs p => by rw [rowsT_app]; rfl
  have lo : ∀ xs : List T, lstOf (h ++ [.lst xs]) (.loc h.length) = some xs := fun xs => by simp
  cases ha : q.add with
  | true =>
    have rt : rwT q = .tup [.str "add", tN q.c, tN q.t] := by simp [rwT, ha]
    have rf : rowFr M rs.length q i s = [(pr q.c * ah M rs.length q.t s, ow M i s)] := by simp [rowFr, ha]
    have ap1 := ap fr (pr q.c * ah M rs.length q.t s, ow M i s) (by omega)
    rw [one] at ap1
    have ef : frT (pr q.c * ah M rs.length q.t s, ow M i s) = .tup [.int ((pr q.c : Int) * (ah M rs.length q.t s : Int)), tN (ow M i s)] := by simp [frT, tN]
    rw [ef] at ap1
    have pm : ∀ h0 : Store, fMul (tN (pr q.c)) (tN (ah M rs.length q.t s)) h0 = some (.int ((pr q.c : Int) * (ah M rs.length q.t s : Int))) := fun h0 => by
      show (if mulB _ _ = true then _ else _) = _
      rw [if_pos m1]
    rw [rt, rf]
    refine ⟨some (tN (ah M rs.length q.t s)), some (tN (ow M i s)), ?_⟩
    simp -implicitDefEqProofs only [q2_seq, q2_set, q2_if, q2_exp, q1_call, q1_cons, q1_nil, q1_var, q1_bin, q1_C, q1_tst, q1_notV, q1_meth, q1_tup, List.getElem?_cons_zero, List.getElem?_cons_succ, bind_ok, bindE_ok, seq_nx, List.set, po, pa, q3_idx, atI_0, atI_1, atI_2, ofO_some, asB_bl, q3_eqS, decide_true, if_true, lo, pc, pm, List.length_cons, List.length_nil, Nat.reduceAdd, Nat.reduceLeDiff, ap1]
  | false =>
    have rt : rwT q = .tup [.str "take", tN q.c, tN q.t, tN q.u] := by simp [rwT, ha]
    have rf : rowFr M rs.length q i s = [(ah M rs.length q.t s, ow M i s * pr q.c), (ah M rs.length q.u s, ow M i s)] := by simp [rowFr, ha]
    have ap1 := ap fr (ah M rs.length q.t s, ow M i s * pr q.c) (by omega)
    have ap2 := ap (fr ++ [(ah M rs.length q.t s, ow M i s * pr q.c)]) (ah M rs.length q.u s, ow M i s) (by simp; omega)
    rw [one] at ap1 ap2
    have ef : frT (ah M rs.length q.t s, ow M i s * pr q.c) = .tup [tN (ah M rs.length q.t s), .int ((ow M i s : Int) * (pr q.c : Int))] := by simp [frT, tN]
    have ef2 : frT (ah M rs.length q.u s, ow M i s) = .tup [tN (ah M rs.length q.u s), tN (ow M i s)] := rfl
    rw [ef] at ap1
    rw [ef2] at ap2
    have pm : ∀ h0 : Store, fMul (tN (ow M i s)) (tN (pr q.c)) h0 = some (.int ((ow M i s : Int) * (pr q.c : Int))) := fun h0 => by
      show (if mulB _ _ = true then _ else _) = _
      rw [if_pos m2]
    have cat : fr ++ [(ah M rs.length q.t s, ow M i s * pr q.c), (ah M rs.length q.u s, ow M i s)] = fr ++ [(ah M rs.length q.t s, ow M i s * pr q.c)] ++ [(ah M rs.length q.u s, ow M i s)] := by simp
    rw [rt, rf, cat]
    refine ⟨some (tN (ah M rs.length q.t s)), some (tN (ow M i s)), ?_⟩
    simp -implicitDefEqProofs only [q2_seq, q2_set, q2_if, q2_exp, q1_call, q1_cons, q1_nil, q1_var, q1_bin, q1_C, q1_tst, q1_notV, q1_meth, q1_tup, List.getElem?_cons_zero, List.getElem?_cons_succ, bind_ok, bindE_ok, seq_nx, List.set, po, pa, pu, q3_idx, atI_0, atI_1, atI_2, atI_3, ofO_some, asB_bl, q3_eqS, ne, decide_false, Bool.false_eq_true, if_false, if_true, lo, pc, pm, List.length_cons, List.length_nil, Nat.reduceAdd, Nat.reduceLeDiff, ap1, ap2]
theorem prog_eq (hr : ∀ q ∈ rs, okR M rs.length q) (hM : M + 2 * rs.length ≤ 10) : F_program_of [mcT M rs] h = .ok (prT (rowsFr M rs.length rs rs.length)) h := by
  refine Out.wp_eq (fn_wp rfl ?_)
  show (b_program_of [some (mcT M rs), none, none, none, none, none, none, none, none] h).wp _
  have c : ¬ (10 : Int) < (M : Int) + 2 * (rs.length : Int) := by omega
  have mu : mulB 2 (rs.length : Int) = true := mulB_l (by decide)
  have lp : fLen [t_PRIMES] h = some (.int 10) := rfl
  have pre : ∀ k : MS, ((sSeq (sAsg (.tup [1, 2]) (mVar 0)) (sSeq (sIf (mTst (mBin fGt (mBin fAdd (mVar 1) (mBin fMul (mC (.int 2)) (mCallF fLen (mCons (mVar 2) mNil)))) (mCallF fLen (mCons (mC t_PRIMES) mNil)))) (sRaise (.txt 12)) sNil) (sSeq (sSet 3 (mCell (mLst mNil))) k))) [some (mcT M rs), none, none, none, none, none, none, none, none] h) = k [some (mcT M rs), some (tN M), some (.tup (rs.map rwT)), some (.loc h.length), none, none, none, none, none] (h ++ [.lst []]) := fun k => by
    simp -implicitDefEqProofs [setT, tN, mu, lp, c]
  unfold b_program_of
  rw [pre, q2_seq, so_seq]
  rw [sFor_of (src_enumT (h1 := h ++ [.lst []]) (xs := rs.map rwT) (by simp))]
  refine forLoop_wp _ (fun i env h' => h' = h ++ [.lst (frsT (rowsFr M rs.length rs i))] ∧ env = [some (mcT M rs), none, none, some (.loc h.length), none, none, none, none, none]) ?_ ?_ ⟨rfl, rfl⟩
  · rintro i x env h' hx ⟨rfl, rfl⟩
    obtain ⟨t, ht, rfl⟩ := enum_at hx
    obtain ⟨q, hq, rfl, hi⟩ := getm ht
    have okq := hr q (List.mem_of_getElem? hq)
    refine ⟨by simp, _, b_tup, ?_⟩
    simp only [setT, List.set]
    rw [sFor_of (show mSeq (mFrz (mLst (mCons (mC (.bl false)) (mCons (mC (.bl true)) mNil)))) _ _ = .ok ⟨[.bl false, .bl true], []⟩ _ by simp; rfl)]
    refine forLoop_wp _ (fun j env h' => ∃ x4 x6, h' = h ++ [.lst (frsT (rowsFr M rs.length rs i ++ ([0, 1].take j).flatMap fun s => rowFr M rs.length q i s))] ∧ env = [some (mcT M rs), none, none, some (.loc h.length), x4, some (tN i), x6, some (rwT q), none]) ?_ ?_ ⟨none, none, by simp, rfl⟩
    · rintro j x env h' hx ⟨x4, x6, rfl, rfl⟩
      have hb : ∃ b : Bool, x = .bl b ∧ (if b then 1 else 0) = j ∧ j < 2 := by
        rcases j with _ | _ | j
        · cases hx; exact ⟨false, rfl, rfl, by omega⟩
        · cases hx; exact ⟨true, rfl, rfl, by omega⟩
        · simp at hx
      obtain ⟨b, rfl, bj, j2⟩ := hb
      refine ⟨by simp, _, b_one, ?_⟩
      have ll : (rowsFr M rs.length rs i ++ ([0, 1].take j).flatMap fun s => rowFr M rs.length q i s).length < 100 := by
        have a := (rows_len (M := M) (N := rs.length) (rs := rs) i).2
        have r0 := (row_len (M := M) (N := rs.length) (q := q) (k := i) (s := 0)).2
        rcases j with _ | _ | j
        · simp; omega
        · simp; omega
        · omega
      obtain ⟨y4, y6, e⟩ := prog_step (h := h) (b := b) (x1 := none) (x2 := none) (x4 := x4) (x6 := x6) okq hi hM ll
      rw [bj] at e
      simp only [List.set]
      rw [e]
      refine ⟨none, none, ?_, rfl⟩
      rcases j with _ | _ | j
      · simp
      · simp
      · omega
    · rintro env h' ⟨x4, x6, rfl, rfl⟩
      refine ⟨by simp, ?_, rfl⟩
      rw [rowsFr_succ hq]
      rfl
  · rintro env h' ⟨rfl, rfl⟩
    rw [enumT_length, List.length_map]
    refine ⟨by simp, ?_⟩
    have pu2 : pus (frsT (rowsFr M rs.length rs rs.length)) = true := rowsT_pu
    simp -implicitDefEqProofs [fnP, e_tup, pu2, si_app]
    rfl
end
theorem machine_as {many : Int} {rows : List T} (m1 : 1 ≤ many) (hr : ∀ r ∈ rows, isRow many rows.length r) : ∃ (M : Nat) (rs : List Rw), T.tup [.int many, .tup rows] = mcT M rs ∧ (∀ q ∈ rs, okR M rs.length q) ∧ rs.length = rows.length ∧ (M : Int) = many := by
  obtain ⟨rs, rfl, ok⟩ := mrows_of hr
  rw [List.length_map] at ok
  refine ⟨many.toNat, rs, ?_, ok, by simp, by omega⟩
  show _ = T.tup [T.int _, _]
  congr 2
  congr 1
  omega
end Gd
namespace Gd
open PySem PySem.Spec PyProof.Rows L2 Sm
def evL (i : Nat) : List Int := nI ((List.range 10).map fun k => if k = i then 1 else 0)
def ev2 (i j : Nat) : List Int := nI ((List.range 10).map fun k => (if k = i then 1 else 0) + (if k = j then 1 else 0))
def powS (M N : Nat) (s : Sd) (b : Nat) : List Int := (List.range 10).map fun i => if s.1 < N ∧ i = M + 2 * s.1 + b then 1 else if i < M then s.2.getD i 0 else 0
def ahI (M N t s : Nat) : Nat := if t = N then 10 else M + 2 * t + 1 - s
section
variable {fr : List Fr} {xs ys : List Int} {M N i j k b : Nat} {s : Sd} {rs : List Rw} {q : Rw} {v : Int}
theorem powS_len : (powS M N s b).length = 10 := by simp [powS]
theorem evL_at (hk : k < 10) : (evL i).getD k 0 = if k = i then 1 else 0 := by
  unfold evL nI
  rw [List.getD_eq_getElem?_getD, List.map_map, List.getElem?_map, List.getElem?_range hk]
  show ((if k = i then 1 else 0 : Nat) : Int) = _
  split <;> rfl
theorem ev2_at (hk : k < 10) : (ev2 i j).getD k 0 = (if k = i then 1 else 0) + (if k = j then 1 else 0) := by
  unfold ev2 nI
  rw [List.getD_eq_getElem?_getD, List.map_map, List.getElem?_map, List.getElem?_range hk]
  show (((if k = i then 1 else 0) + (if k = j then 1 else 0) : Nat) : Int) = _
  split <;> split <;> rfl
theorem powS_at (hi : i < 10) : (powS M N s b).getD i 0 = if s.1 < N ∧ i = M + 2 * s.1 + b then 1 else if i < M then s.2.getD i 0 else 0 := by
  unfold powS
  rw [List.getD_eq_getElem?_getD, List.getElem?_map, List.getElem?_range hi]
  rfl
theorem ext10 (hx : xs.length = 10) (hy : ys.length = 10) (h : ∀ i, i < 10 → xs.getD i 0 = ys.getD i 0) : xs = ys := by
  rw [as_lnF hx, as_lnF hy]
  exact lnF_ext fun i hi => h i hi
theorem subL_at (hx : xs.length = 10) (hy : ys.length = 10) (hi : i < 10) : (subL xs ys).getD i 0 = xs.getD i 0 - ys.getD i 0 := by
  rw [as_lnF hx, as_lnF hy, subL_ln, List.getD_eq_getElem?_getD, lnF_at hi, ← as_lnF hx, ← as_lnF hy]
  rfl
theorem pr_prod : ∀ i, i < 11 → prodOf PR ((List.range 10).map fun k => if k = i then 1 else 0) = pr i := by decide +kernel
theorem pr_prod2 : ∀ i, i < 11 → ∀ j, j < 11 → prodOf PR ((List.range 10).map fun k => (if k = i then 1 else 0) + (if k = j then 1 else 0)) = pr i * pr j := by decide +kernel
theorem ex_pr (hi : i < 11) : ex (pr i) = evL i := (ex_of _ (by simp [PR]) (pr_prod i hi)).1
theorem ex_pr2 (hi : i < 11) (hj : j < 11) : ex (pr i * pr j) = ev2 i j := (ex_of _ (by simp [PR]) (pr_prod2 i hi j hj)).1
theorem ah_pr {t : Nat} : ah M N t b = pr (ahI M N t b) := by
  unfold ah ahI
  split
  · rfl
  · rfl
def pfit (xs : List Int) (p : Fr) : Bool := fits xs (ex p.2)
theorem first_find : (∀ k, firstL (wantsL fr) xs = some k → ∃ p, fr[k]? = some p ∧ fr.find? (pfit xs) = some p) ∧ (firstL (wantsL fr) xs = none → fr.find? (pfit xs) = none) := by
  refine ⟨fun k e => ?_, fun e => ?_⟩
  · obtain ⟨p, hp, fp⟩ := firstL_lt e
    obtain ⟨_, no⟩ := firstL_some.mp e
    refine ⟨p, hp, ?_⟩
    rw [List.find?_eq_some_iff_getElem]
    obtain ⟨kl, ke⟩ := List.getElem?_eq_some_iff.mp hp
    refine ⟨fp, k, kl, ke, fun j hj => ?_⟩
    have := no j (ex fr[j].2) hj (by unfold wantsL; rw [List.getElem?_map, List.getElem?_eq_getElem (by omega)]; rfl)
    unfold pfit
    rw [this]
    rfl
  · rw [List.find?_eq_none]
    intro p hp
    have := firstL_none.mp e (ex p.2) (List.mem_map.mpr ⟨p, hp, rfl⟩)
    unfold pfit
    rw [this]
    exact Bool.false_ne_true
theorem step_find {p : Fr} (e : fr.find? (pfit xs) = some p) : (firstL (wantsL fr) xs).isNone = false ∧ stepP fr xs = goneL xs (addF p) 1 := by
  cases q : firstL (wantsL fr) xs with
  | none => rw [first_find.2 q] at e; cases e
  | some k =>
    obtain ⟨p', hp, f⟩ := first_find.1 k q
    rw [e] at f
    cases f
    exact ⟨rfl, runP_1 q hp⟩
theorem step_rest (e : fr.find? (pfit xs) = none) : (firstL (wantsL fr) xs).isNone = true ∧ stepP fr xs = xs := by
  cases q : firstL (wantsL fr) xs with
  | none =>
    refine ⟨rfl, ?_⟩
    unfold stepP
    rw [q]
  | some k =>
    obtain ⟨p', hp, f⟩ := first_find.1 k q
    rw [e] at f
    cases f
theorem findSome_only {α : Type} {f : Nat → Option α} {a : Nat} {y : α} : ∀ {l : List Nat}, a ∈ l → f a = some y → (∀ x ∈ l, x ≠ a → f x = none) → l.findSome? f = some y
  | [], h, _, _ => absurd h (by simp)
  | x :: l, h, e, no => by
    rw [List.findSome?_cons]
    by_cases c : x = a
    · subst c
      rw [e]
    · rw [no x (List.mem_cons_self ..) c]
      refine findSome_only ((List.mem_cons.mp h).resolve_left fun z => c z.symm) e fun z hz => no z (List.mem_cons_of_mem _ hz)
theorem no_fit {p : Fr} {o : Nat} (ho : o < 10) (hx : xs.length = 10) (h0 : xs.getD o 0 = 0) (h1 : (ex p.2).getD o 0 = 1) : pfit xs p = false := by
  cases e : pfit xs p with
  | false => rfl
  | true =>
    have := (fits_at hx ex_len).mp e o ho
    omega
theorem row_none {σ : Nat} (hq : okR M N q) (hk : k < N) (hσ : σ < 2) (hM : M + 2 * N ≤ 10) (hx : xs.length = 10) (h0 : xs.getD (M + 2 * k + σ) 0 = 0) : (rowFr M N q k σ).find? (pfit xs) = none := by
  have qc := hq.1
  have e1 : (ex (ow M k σ)).getD (M + 2 * k + σ) 0 = 1 := by
    unfold ow
    rw [ex_pr (by omega), evL_at (by omega), if_pos rfl]
  have e2 : (ex (ow M k σ * pr q.c)).getD (M + 2 * k + σ) 0 = 1 := by
    unfold ow
    rw [ex_pr2 (by omega) (by omega), ev2_at (by omega), if_pos rfl, if_neg (by omega)]
    rfl
  unfold rowFr
  split
  · rw [List.find?_cons, no_fit (by omega) hx h0 e1]
    rfl
  · rw [List.find?_cons, no_fit (by omega) hx h0 e2, List.find?_cons, no_fit (by omega) hx h0 e1]
    rfl
theorem row_some (hq : okR M N q) (hs : s.1 < N) (hb : b < 2) (hM : M + 2 * N ≤ 10) (hl : s.2.length = M) (pos : ∀ v ∈ s.2, 0 ≤ v) :
    ∃ p, (rowFr M N q s.1 b).find? (pfit (powS M N s b)) = some p ∧ goneL (powS M N s b) (addF p) 1 = powS M N (stepR q s.2) (1 - b) := by
  obtain ⟨qc, qt, qu⟩ := hq
  have at0 : ∀ c : Nat, c < M → 0 ≤ s.2.getD c 0 := fun c hc => pos _ (getD_mem (by omega))
  have ht : ahI M N q.t b < 11 := by unfold ahI; split <;> omega
  have hu : ahI M N q.u b < 11 := by unfold ahI; split <;> omega
  have o11 : M + 2 * s.1 + b < 11 := by omega
  unfold rowFr
  by_cases ad : q.add = true
  · rw [if_pos ad]
    refine ⟨_, by
      rw [List.find?_cons]
      have : pfit (powS M N s b) (pr q.c * ah M N q.t b, ow M s.1 b) = true := by
        refine (fits_at powS_len ex_len).mpr fun i hi => ?_
        show (ex (pr (M + 2 * s.1 + b))).getD i 0 ≤ _
        rw [ex_pr o11, evL_at hi, powS_at hi]
        by_cases z : i = M + 2 * s.1 + b
        · rw [if_pos z, if_pos ⟨hs, z⟩]
          exact Int.le_refl 1
        · rw [if_neg z, if_neg (fun w => z w.2)]
          split
          · exact at0 i (by assumption)
          · exact Int.le_refl 0
      rw [this], ?_⟩
    refine ext10 (goneL_len powS_len addF_len) powS_len fun i hi => ?_
    rw [goneL_at powS_len addF_len hi]
    unfold addF
    rw [subL_at ex_len ex_len hi, ah_pr]
    show _ + 1 * ((ex (pr q.c * pr (ahI M N q.t b))).getD i 0 - (ex (pr (M + 2 * s.1 + b))).getD i 0) = _
    rw [ex_pr2 (by omega) ht, ex_pr o11, ev2_at hi, evL_at hi, powS_at hi, powS_at hi]
    have st : stepR q s.2 = (q.t, s.2.set q.c (s.2.getD q.c 0 + 1)) := by unfold stepR; rw [if_pos ad]
    rw [st]
    unfold ahI
    by_cases c1 : i < M
    · have n1 : ¬ (i = M + 2 * s.1 + b) := by omega
      have n2 : ¬ (i = M + 2 * q.t + (1 - b)) := by omega
      have n3 : ¬ (i = if q.t = N then 10 else M + 2 * q.t + 1 - b) := by split <;> omega
      simp only [n1, n2, n3, and_false, if_false, if_pos c1]
      by_cases c2 : i = q.c
      · subst c2
        rw [if_pos rfl, List.getD_eq_getElem?_getD (l := s.2.set _ _), List.getElem?_set_self (by omega)]
        simp
      · rw [if_neg c2, List.getD_eq_getElem?_getD (l := s.2.set _ _), List.getElem?_set_ne (fun z => c2 z.symm), ← List.getD_eq_getElem?_getD]
        simp
    · have n1 : ¬ (i = q.c) := by omega
      simp only [n1, if_neg c1, if_false]
      by_cases c2 : q.t = N
      · have : ¬ q.t < N := by omega
        simp only [if_pos c2, this, false_and, if_false]
        have : ¬ (i = 10) := by omega
        simp only [this, if_false]
        by_cases c3 : i = M + 2 * s.1 + b
        · simp [c3, hs]
        · simp [c3]
      · have lt : q.t < N := by omega
        have ee : M + 2 * q.t + 1 - b = M + 2 * q.t + (1 - b) := by omega
        simp only [if_neg c2, lt, true_and, ee]
        by_cases c3 : i = M + 2 * s.1 + b
        · by_cases c4 : i = M + 2 * q.t + (1 - b)
          · simp [← c3, ← c4, hs]
          · simp [c3, hs] at c4 ⊢
            simp [c4]
        · by_cases c4 : i = M + 2 * q.t + (1 - b)
          · simp [c3, ← c4]
          · simp [c3, c4]
  · rw [if_neg ad]
    by_cases vp : 0 < s.2.getD q.c 0
    · refine ⟨_, by
        rw [List.find?_cons]
        have : pfit (powS M N s b) (ah M N q.t b, ow M s.1 b * pr q.c) = true := by
          refine (fits_at powS_len ex_len).mpr fun i hi => ?_
          show (ex (pr (M + 2 * s.1 + b) * pr q.c)).getD i 0 ≤ _
          rw [ex_pr2 o11 (by omega), ev2_at hi, powS_at hi]
          by_cases z : i = M + 2 * s.1 + b
          · rw [if_pos z, if_neg (by omega), if_pos ⟨hs, z⟩]
            decide
          · have nz : ¬ (s.1 < N ∧ i = M + 2 * s.1 + b) := fun w => z w.2
            rw [if_neg z, if_neg nz]
            by_cases z2 : i = q.c
            · rw [if_pos z2, if_pos (by omega), z2]
              omega
            · rw [if_neg z2]
              split
              · have := at0 i (by assumption)
                omega
              · decide
        rw [this], ?_⟩
      refine ext10 (goneL_len powS_len addF_len) powS_len fun i hi => ?_
      rw [goneL_at powS_len addF_len hi]
      unfold addF
      rw [subL_at ex_len ex_len hi, ah_pr]
      show _ + 1 * ((ex (pr (ahI M N q.t b))).getD i 0 - (ex (pr (M + 2 * s.1 + b) * pr q.c)).getD i 0) = _
      rw [ex_pr ht, ex_pr2 o11 (by omega), ev2_at hi, evL_at hi, powS_at hi, powS_at hi]
      have st : stepR q s.2 = (q.t, s.2.set q.c (s.2.getD q.c 0 - 1)) := by unfold stepR; rw [if_neg ad, if_pos vp]
      rw [st]
      unfold ahI
      by_cases c1 : i < M
      · have n1 : ¬ (i = M + 2 * s.1 + b) := by omega
        have n2 : ¬ (i = M + 2 * q.t + (1 - b)) := by omega
        have n3 : ¬ (i = if q.t = N then 10 else M + 2 * q.t + 1 - b) := by split <;> omega
        simp only [n1, n2, n3, and_false, if_false, if_pos c1]
        by_cases c2 : i = q.c
        · subst c2
          rw [if_pos rfl, List.getD_eq_getElem?_getD (l := s.2.set _ _), List.getElem?_set_self (by omega)]
          simp
          omega
        · rw [if_neg c2, List.getD_eq_getElem?_getD (l := s.2.set _ _), List.getElem?_set_ne (fun z => c2 z.symm), ← List.getD_eq_getElem?_getD]
          simp
      · have n1 : ¬ (i = q.c) := by omega
        simp only [n1, if_neg c1, if_false]
        by_cases c2 : q.t = N
        · have : ¬ q.t < N := by omega
          simp only [if_pos c2, this, false_and, if_false]
          have : ¬ (i = 10) := by omega
          simp only [this, if_false]
          by_cases c3 : i = M + 2 * s.1 + b
          · simp [c3, hs]
          · simp [c3]
        · have lt : q.t < N := by omega
          have ee : M + 2 * q.t + 1 - b = M + 2 * q.t + (1 - b) := by omega
          simp only [if_neg c2, lt, true_and, ee]
          by_cases c3 : i = M + 2 * s.1 + b
          · by_cases c4 : i = M + 2 * q.t + (1 - b)
            · simp [← c3, ← c4, hs]
            · simp [c3, hs] at c4 ⊢
              simp [c4]
          · by_cases c4 : i = M + 2 * q.t + (1 - b)
            · simp [c3, ← c4]
            · simp [c3, c4]
    · have v0 : s.2.getD q.c 0 = 0 := by
        have := at0 q.c qc
        omega
      have nf : pfit (powS M N s b) (ah M N q.t b, ow M s.1 b * pr q.c) = false := by
        refine no_fit (o := q.c) (by omega) powS_len ?_ ?_
        · rw [powS_at (by omega), if_neg (by omega), if_pos qc, v0]
        · show (ex (pr (M + 2 * s.1 + b) * pr q.c)).getD q.c 0 = 1
          rw [ex_pr2 o11 (by omega), ev2_at (by omega), if_neg (by omega), if_pos rfl]
          rfl
      refine ⟨_, by
        rw [List.find?_cons, nf, List.find?_cons]
        have : pfit (powS M N s b) (ah M N q.u b, ow M s.1 b) = true := by
          refine (fits_at powS_len ex_len).mpr fun i hi => ?_
          show (ex (pr (M + 2 * s.1 + b))).getD i 0 ≤ _
          rw [ex_pr o11, evL_at hi, powS_at hi]
          by_cases z : i = M + 2 * s.1 + b
          · rw [if_pos z, if_pos ⟨hs, z⟩]
            exact Int.le_refl 1
          · rw [if_neg z, if_neg (fun w => z w.2)]
            split
            · exact at0 i (by assumption)
            · exact Int.le_refl 0
        rw [this], ?_⟩
      refine ext10 (goneL_len powS_len addF_len) powS_len fun i hi => ?_
      rw [goneL_at powS_len addF_len hi]
      unfold addF
      rw [subL_at ex_len ex_len hi, ah_pr]
      show _ + 1 * ((ex (pr (ahI M N q.u b))).getD i 0 - (ex (pr (M + 2 * s.1 + b))).getD i 0) = _
      rw [ex_pr hu, ex_pr o11, evL_at hi, evL_at hi, powS_at hi, powS_at hi]
      have st : stepR q s.2 = (q.u, s.2) := by unfold stepR; rw [if_neg ad, if_neg vp]
      rw [st]
      unfold ahI
      by_cases c1 : i < M
      · have n1 : ¬ (i = M + 2 * s.1 + b) := by omega
        have n2 : ¬ (i = M + 2 * q.u + (1 - b)) := by omega
        have n3 : ¬ (i = if q.u = N then 10 else M + 2 * q.u + 1 - b) := by split <;> omega
        simp only [n1, n2, n3, and_false, if_false, if_pos c1]
        simp
      · simp only [if_neg c1]
        by_cases c2 : q.u = N
        · have : ¬ q.u < N := by omega
          simp only [if_pos c2, this, false_and, if_false]
          have : ¬ (i = 10) := by omega
          simp only [this, if_false]
          by_cases c3 : i = M + 2 * s.1 + b
          · simp [c3, hs]
          · simp [c3]
        · have lt : q.u < N := by omega
          have ee : M + 2 * q.u + 1 - b = M + 2 * q.u + (1 - b) := by omega
          simp only [if_neg c2, lt, true_and, ee]
          by_cases c3 : i = M + 2 * s.1 + b
          · by_cases c4 : i = M + 2 * q.u + (1 - b)
            · simp [← c3, ← c4, hs]
            · simp [c3, hs] at c4 ⊢
              simp [c4]
          · by_cases c4 : i = M + 2 * q.u + (1 - b)
            · simp [c3, ← c4]
            · simp [c3, c4]
end
end Gd
namespace Gd
open PySem PySem.Spec PyProof.Rows L2 Sm
abbrev mpr (M : Nat) (rs : List Rw) : List Fr := rowsFr M rs.length rs rs.length
section
variable {h : Store} {fr : List Fr} {xs ys : List Int} {M N i j k b n m : Nat} {s : Sd} {rs : List Rw} {q : Rw} {v : Int}
theorem find_rows {f : Fr → Bool} : (mpr M rs).find? f = (List.range rs.length).findSome? fun k => ([0, 1] : List Nat).findSome? fun σ => (rowFr M rs.length (rs.getD k ⟨true, 0, 0, 0⟩) k σ).find? f := by
  show ((List.range rs.length).flatMap _).find? f = _
  rw [List.find?_flatMap]
  congr 1
  funext k
  rw [List.find?_flatMap]
theorem row_getD (hk : k < rs.length) : rs.getD k ⟨true, 0, 0, 0⟩ = rs[k] := by
  rw [List.getD_eq_getElem?_getD, List.getElem?_eq_getElem hk]
  rfl
theorem sim_step (hr : ∀ q ∈ rs, okR M rs.length q) (hM : M + 2 * rs.length ≤ 10) (ok : okS M rs.length s) (hb : b < 2) (hs : s.1 < rs.length) :
    (firstL (wantsL (mpr M rs)) (powS M rs.length s b)).isNone = false ∧ stepP (mpr M rs) (powS M rs.length s b) = powS M rs.length (stepS rs s) (1 - b) := by
  have hq := hr rs[s.1] (List.getElem_mem hs)
  obtain ⟨p, e1, e2⟩ := row_some (b := b) hq hs hb hM ok.2.1 ok.2.2
  have no : ∀ k σ, k < rs.length → σ < 2 → ¬ (k = s.1 ∧ σ = b) → (rowFr M rs.length (rs.getD k ⟨true, 0, 0, 0⟩) k σ).find? (pfit (powS M rs.length s b)) = none := fun k σ hk hσ ne => by
    rw [row_getD hk]
    refine row_none (hr _ (List.getElem_mem hk)) hk hσ hM powS_len ?_
    rw [powS_at (by omega), if_neg (by omega), if_neg (by omega)]
  have f : (mpr M rs).find? (pfit (powS M rs.length s b)) = some p := by
    rw [find_rows]
    refine findSome_only (a := s.1) (List.mem_range.mpr hs) ?_ fun k hk ne => ?_
    · refine findSome_only (a := b) (by
        simp only [List.mem_cons, List.not_mem_nil, or_false]
        omega) ?_ fun σ hσ ne => no s.1 σ hs ?_ fun z => ne z.2
      · rw [row_getD hs]
        exact e1
      · simp only [List.mem_cons, List.not_mem_nil, or_false] at hσ
        omega
    · rw [List.findSome?_eq_none_iff]
      intro σ hσ
      simp only [List.mem_cons, List.not_mem_nil, or_false] at hσ
      exact no k σ (List.mem_range.mp hk) (by omega) fun z => ne z.1
  obtain ⟨a1, a2⟩ := step_find f
  refine ⟨a1, ?_⟩
  rw [a2, e2]
  unfold stepS
  rw [List.getElem?_eq_getElem hs]
theorem sim_rest (hr : ∀ q ∈ rs, okR M rs.length q) (hM : M + 2 * rs.length ≤ 10) (hs : s.1 = rs.length) :
    (firstL (wantsL (mpr M rs)) (powS M rs.length s b)).isNone = true ∧ stepP (mpr M rs) (powS M rs.length s b) = powS M rs.length s b := by
  refine step_rest ?_
  rw [find_rows, List.findSome?_eq_none_iff]
  intro k hk
  rw [List.findSome?_eq_none_iff]
  intro σ hσ
  have hk := List.mem_range.mp hk
  simp only [List.mem_cons, List.not_mem_nil, or_false] at hσ
  rw [row_getD hk]
  refine row_none (hr _ (List.getElem_mem hk)) hk (by omega) hM powS_len ?_
  rw [powS_at (by omega), if_neg (by omega), if_neg (by omega)]
theorem powS_end {c : Nat} (hs : s.1 = N) : powS M N s b = powS M N s c := by
  refine ext10 powS_len powS_len fun i hi => ?_
  have z : ∀ c : Nat, ¬ (s.1 < N ∧ i = M + 2 * s.1 + c) := fun c w => by omega
  rw [powS_at hi, powS_at hi, if_neg (z b), if_neg (z c)]
theorem sim_run (hr : ∀ q ∈ rs, okR M rs.length q) (hM : M + 2 * rs.length ≤ 10) (ok : okS M rs.length s) : ∀ j, runP (mpr M rs) (powS M rs.length s b) j = powS M rs.length (runS rs s j) ((b + j) % 2) ∨ (2 ≤ b)
  | 0 => by
    by_cases c : 2 ≤ b
    · exact .inr c
    · refine .inl ?_
      show powS M rs.length s b = powS M rs.length s ((b + 0) % 2)
      rw [Nat.add_zero, Nat.mod_eq_of_lt (by omega)]
  | j + 1 => by
    rcases sim_run hr hM ok j with ih | c
    · by_cases c : 2 ≤ b
      · exact .inr c
      refine .inl ?_
      show stepP (mpr M rs) (runP (mpr M rs) (powS M rs.length s b) j) = powS M rs.length (stepS rs (runS rs s j)) _
      rw [ih]
      have okj := ok_run hr ok j
      by_cases e : (runS rs s j).1 < rs.length
      · rw [(sim_step hr hM okj (Nat.mod_lt _ (by decide)) e).2]
        congr 1
        omega
      · have e2 : (runS rs s j).1 = rs.length := by have := okj.1; omega
        rw [(sim_rest hr hM e2).2]
        have : stepS rs (runS rs s j) = runS rs s j := by
          unfold stepS
          rw [List.getElem?_eq_none (by omega)]
        rw [this]
        exact powS_end e2
    · exact .inr c
theorem sim_r (hr : ∀ q ∈ rs, okR M rs.length q) (hM : M + 2 * rs.length ≤ 10) (ok : okS M rs.length s) (hb : b < 2) : runP (mpr M rs) (powS M rs.length s b) j = powS M rs.length (runS rs s j) ((b + j) % 2) :=
  (sim_run hr hM ok j).resolve_right (by omega)
theorem sim_is (hr : ∀ q ∈ rs, okR M rs.length q) (hM : M + 2 * rs.length ≤ 10) (ok : okS M rs.length s) (hb : b < 2) : restP (mpr M rs) (powS M rs.length s b) j = decide ((runS rs s j).1 = rs.length) := by
  show (firstL (wantsL (mpr M rs)) (runP (mpr M rs) (powS M rs.length s b) j)).isNone = _
  rw [sim_r hr hM ok hb]
  have okj := ok_run hr ok j
  by_cases e : (runS rs s j).1 < rs.length
  · rw [(sim_step hr hM okj (Nat.mod_lt _ (by decide)) e).1, decide_eq_false (by omega)]
  · have e2 : (runS rs s j).1 = rs.length := by have := okj.1; omega
    rw [(sim_rest hr hM e2).1, decide_eq_true e2]
theorem stand_eq {c : Bool} (hM : M + 2 * rs.length ≤ 10) (ok : okS M rs.length s) : F_stand_powers [mcT M rs, sdT s, .bl c] h = .ok (iT (powS M rs.length s (if c then 1 else 0))) h := by
  obtain ⟨at_, vs⟩ := s
  obtain ⟨k1, k2, k3⟩ := ok
  have k1 : at_ ≤ rs.length := k1
  have k2 : vs.length = M := k2
  refine Out.wp_eq (fn_wp rfl ?_)
  show (b_stand_powers [some (mcT M rs), some (sdT (at_, vs)), some (.bl c), none, none, none, none, none] h).wp _
  have bd1 : bindT (.tup [3, 4]) (mcT M rs) [some (mcT M rs), some (sdT (at_, vs)), some (.bl c), none, none, none, none, none] = some [some (mcT M rs), some (sdT (at_, vs)), some (.bl c), some (tN M), some (.tup (rs.map rwT)), none, none, none] := rfl
  have bd2 : bindT (.tup [5, 6]) (sdT (at_, vs)) [some (mcT M rs), some (sdT (at_, vs)), some (.bl c), some (tN M), some (.tup (rs.map rwT)), none, none, none] = some [some (mcT M rs), some (sdT (at_, vs)), some (.bl c), some (tN M), some (.tup (rs.map rwT)), some (tN at_), some (iT vs), none] := rfl
  have lp : fLen [t_PRIMES] h = some (.int 10) := rfl
  have sb : fSub (.int 10) (tN M) h = some (.int (10 - (M : Int))) := rfl
  have rp : fMul (.lst [.int 0]) (.int (10 - (M : Int))) h = some (.lst (List.replicate (10 - M) (.int 0))) := by
    rw [mul_one (by omega) (by omega)]
    congr 3
    omega
  have li : fList [iT vs] h = some (vs.map T.int) := rfl
  have ct : fCat (.lst (vs.map T.int)) (.lst (List.replicate (10 - M) (.int 0))) h = some ((vs ++ List.replicate (10 - M) 0).map T.int) := by
    rw [cat_lst (by simp; omega), List.map_append, List.map_replicate]
  have w0 : (vs ++ List.replicate (10 - M) (0 : Int)).length = 10 := by simp; omega
  obtain ⟨W, eW⟩ : ∃ W, W = vs ++ List.replicate (10 - M) (0 : Int) := ⟨_, rfl⟩
  rw [← eW] at ct w0
  have Wat : ∀ i, i < 10 → W.getD i 0 = if i < M then vs.getD i 0 else 0 := fun i hi => by
    rw [eW, List.getD_eq_getElem?_getD]
    by_cases z : i < M
    · rw [if_pos z, List.getElem?_append_left (by omega), ← List.getD_eq_getElem?_getD]
    · rw [if_neg z, List.getElem?_append_right (by omega), List.getElem?_replicate]
      split <;> rfl
  have puW : pus (W.map T.int) = true := pus_ints
  have ll : ∀ S : Store, fLen [.tup (rs.map rwT)] S = some (tN rs.length) := fun S => by simp [tN]
  have lt : ∀ S : Store, fLt (tN at_) (tN rs.length) S = some (.bl (decide (at_ < rs.length))) := fun S => by
    show some (T.bl (decide ((at_ : Int) < (rs.length : Int)))) = _
    congr 2
    rw [decide_eq_decide]
    omega
  have i1 : ∀ {α : Type} (u v : α), (if 0 + 1 ≤ 10000 then u else v) = u := fun u v => if_pos (by decide)
  have tp : ∀ V : List Int, fTuple [.loc h.length] (h ++ [.lst (V.map T.int)]) = some (iT V) := fun V => e_tup rfl
  unfold b_stand_powers
  simp -implicitDefEqProofs only [q2_seq, q2_asg, q1_var, List.getElem?_cons_zero, List.getElem?_cons_succ, bindE_ok, bd1, bd2, seq_nx, q2_set, q1_cell, q1_new2, q1_frz, q1_newA, q1_cons, q1_nil, q1_C, q1_bin, q1_lst, q1_callF, bind_ok, li, lp, sb, rp, ct, List.length_cons, List.length_nil, i1, ofO_some, puW, if_true, List.set, q2_if, q1_tst, ll, lt, asB_bl]
  by_cases e : at_ < rs.length
  · rw [decide_eq_true e]
    obtain ⟨b, hb, eb⟩ : ∃ b : Nat, b < 2 ∧ b = if c then 1 else 0 := ⟨_, by split <;> omega, rfl⟩
    have fi : ∀ S : Store, fInt [.bl c] S = some (tN b) := fun S => by
      rw [eb]
      cases c <;> rfl
    have mu : ∀ S : Store, fMul (.int 2) (tN at_) S = some (tN (2 * at_)) := fun S => by
      show fMul (.int 2) (.int (at_ : Int)) S = _
      rw [q3_mul, if_pos (mulB_l (by decide))]
      rfl
    have ad : ∀ S : Store, fAdd (tN M) (tN (2 * at_)) S = some (tN (M + 2 * at_)) := fun S => rfl
    have ad2 : ∀ S : Store, fAdd (tN (M + 2 * at_)) (tN b) S = some (.int ((M + 2 * at_ + b : Nat) : Int)) := fun S => rfl
    have sc := fun env => e_set (env := env) (h := h) (m := h.length) (xs := W.map T.int) (k := ((M + 2 * at_ + b : Nat) : Int)) (y := .int 1) rfl (by omega) (by rw [List.length_map, w0]; omega) rfl
    have ws : (W.map T.int).set ((M + 2 * at_ + b : Nat) : Int).toNat (.int 1) = (W.set (M + 2 * at_ + b) 1).map T.int := by
      rw [Int.toNat_natCast, ← List.map_set]
    rw [ws] at sc
    simp -implicitDefEqProofs only [if_true, q2_item, q1_C, q1_var, q1_bin, q1_callF, q1_cons, q1_nil, List.getElem?_cons_zero, List.getElem?_cons_succ, bindE_ok, bind_ok, mu, ad, fi, ad2, ofO_some, asLK_ok, sc, seq_nx, q2_ret, tp, so_rt]
    have fin : W.set (M + 2 * at_ + b) 1 = powS M rs.length (at_, vs) b := by
      refine ext10 (by rw [List.length_set, w0]) powS_len fun i hi => ?_
      rw [powS_at hi]
      by_cases z : i = M + 2 * at_ + b
      · rw [if_pos ⟨e, z⟩, z, List.getD_eq_getElem?_getD, List.getElem?_set_self (by omega)]
        rfl
      · rw [if_neg (fun w => z w.2), List.getD_eq_getElem?_getD, List.getElem?_set_ne (fun w => z w.symm), ← List.getD_eq_getElem?_getD, Wat i hi]
    rw [fin, eb]
    exact ⟨si_more, .inl ⟨pu_iT, rfl, by simp⟩⟩
  · rw [decide_eq_false e]
    simp -implicitDefEqProofs only [Bool.false_eq_true, if_false, q2_nil, seq_nx, q2_ret, q1_callF, q1_cons, q1_nil, q1_var, List.getElem?_cons_zero, List.getElem?_cons_succ, bind_ok, tp, ofO_some, bindE_ok, so_rt]
    have fin : W = powS M rs.length (at_, vs) (if c then 1 else 0) := by
      refine ext10 w0 powS_len fun i hi => ?_
      rw [powS_at hi, if_neg (fun w => e w.1), Wat i hi]
    rw [← fin]
    exact ⟨si_more, .inl ⟨pu_iT, rfl, by simp⟩⟩
end
end Gd
namespace Gd
open PySem PySem.Spec PyProof.Rows L2 Sm
section
variable {h h1 : Store} {x : Nat → List Int} {fr : List Fr} {xs : List Int} {n m k i j : Nat} {r : List Int} {rest : Nat → Bool}
end
end Gd
namespace Gd
open PySem PySem.Spec PyProof.Rows L2 Sm
section
variable {h h1 : Store} {x : Nat → List Int} {fr : List Fr} {xs : List Int} {n m k i j : Nat} {r : List Int} {rest : Nat → Bool} {env : Env'}
end
end Gd
namespace Gd
open PySem PySem.Spec PyProof.Rows L2 Sm
def dotL (a b : List Int) : Int := ((a.zip b).map fun p => p.1 * p.2).sum
def gcdR (r : List Int) : Nat := r.foldl (fun g x => Nat.gcd g x.natAbs) 0
def byR (r : List Int) : Int := if (r.filter fun x => !decide (x = 0)).headD 0 < 0 then 0 - (gcdR r : Int) else (gcdR r : Int)
def plainR (r : List Int) : List Int := if gcdR r = 0 then r else r.map fun x => x.fdiv (byR r)
def mixR (r l : List Int) (a b : Int) : List Int := (r.zip l).map fun q => q.1 * a - q.2 * b
def clearR (r l : List Int) (p : Nat) : List Int := plainR (mixR r l (l.getD p 0) (r.getD p 0))
section
variable {r l e d : List Int} {R : List (List Int)} {p N b t : Nat} {x y : Int}
theorem gcd_fold : ∀ {r : List Int} {g : Nat}, (r.foldl (fun g x => Nat.gcd g x.natAbs) g) ∣ g ∧ ∀ x ∈ r, (r.foldl (fun g x => Nat.gcd g x.natAbs) g) ∣ x.natAbs
  | [], g => ⟨Nat.dvd_refl _, fun x hx => absurd hx (by simp)⟩
  | y :: r, g => by
    obtain ⟨a, c⟩ := gcd_fold (r := r) (g := Nat.gcd g y.natAbs)
    refine ⟨Nat.dvd_trans a (Nat.gcd_dvd_left _ _), fun x hx => ?_⟩
    rcases List.mem_cons.mp hx with z | z
    · rw [z]
      exact Nat.dvd_trans a (Nat.gcd_dvd_right _ _)
    · exact c x z
theorem by_dvd {x : Int} (hx : x ∈ r) : byR r ∣ x := by
  have h : (gcdR r : Int) ∣ x := Int.ofNat_dvd_left.mpr ((gcd_fold (r := r) (g := 0)).2 x hx)
  unfold byR
  split
  · rw [Int.zero_sub]
    exact Int.neg_dvd.mpr h
  · exact h
theorem by_abs : (byR r).natAbs = gcdR r := by
  unfold byR
  split <;> omega
theorem by_0 (z : ¬ gcdR r = 0) : byR r ≠ 0 := fun c => z (by rw [← by_abs, c]; rfl)
theorem fdiv_mul (h : y ∣ x) : x.fdiv y * y = x := by
  obtain ⟨k, rfl⟩ := h
  by_cases z : y = 0
  · subst z
    simp
  · rw [Int.mul_fdiv_cancel_left _ z, Int.mul_comm]
theorem dot_mix {x y : Int} : ∀ {e r l : List Int}, r.length = e.length → l.length = e.length → dotL (mixR r l x y) e = dotL r e * x - dotL l e * y
  | [], [], [], _, _ => by simp [dotL, mixR]
  | [], _ :: _, _, h, _ => by simp at h
  | [], _, _ :: _, _, h => by simp at h
  | _ :: _, [], _, h, _ => by simp at h
  | _ :: _, _, [], _, h => by simp at h
  | f :: e, a :: r, c :: l, h1, h2 => by
    have ih := dot_mix (e := e) (r := r) (l := l) (x := x) (y := y) (by simpa using h1) (by simpa using h2)
    simp only [dotL, mixR, List.zip_cons_cons, List.map_cons, List.sum_cons] at ih ⊢
    rw [ih, Int.sub_mul, Int.add_mul, Int.add_mul, Int.mul_right_comm a x f, Int.mul_right_comm c y f]
    omega
theorem dot_div : ∀ {r e : List Int} {g : Int}, (∀ x ∈ r, g ∣ x) → dotL (r.map fun x => x.fdiv g) e * g = dotL r e
  | [], e, g, _ => by simp [dotL]
  | a :: r, [], g, _ => by simp [dotL]
  | a :: r, f :: e, g, h => by
    have ih := dot_div (r := r) (e := e) (g := g) fun x hx => h x (List.mem_cons_of_mem _ hx)
    have ha := fdiv_mul (h a (List.mem_cons_self ..))
    simp only [dotL, List.map_cons, List.zip_cons_cons, List.sum_cons] at ih ⊢
    rw [Int.add_mul, ih, Int.mul_right_comm, ha]
theorem dot_plain (h : dotL r e = 0) : dotL (plainR r) e = 0 := by
  unfold plainR
  split
  · exact h
  · rename_i z
    have := dot_div (r := r) (e := e) (g := byR r) fun x hx => by_dvd hx
    rw [h] at this
    exact (Int.mul_eq_zero.mp this).resolve_right (by_0 z)
theorem plain_len : (plainR r).length = r.length := by
  unfold plainR
  split <;> simp
theorem mix_len : (mixR r l x y).length = min r.length l.length := by simp [mixR]
theorem clear_len (hr : r.length = N) (hl : l.length = N) : (clearR r l p).length = N := by
  unfold clearR
  rw [plain_len, mix_len, hr, hl, Nat.min_self]
theorem dot_clear (hr : r.length = N) (hl : l.length = N) (he : e.length = N) (h1 : dotL r e = 0) (h2 : dotL l e = 0) : dotL (clearR r l p) e = 0 := by
  unfold clearR
  refine dot_plain ?_
  rw [dot_mix (by omega) (by omega), h1, h2]
  simp
theorem plain_at (h : r.getD p 0 = 0) : (plainR r).getD p 0 = 0 := by
  unfold plainR
  split
  · exact h
  · rw [List.getD_eq_getElem?_getD] at h ⊢
    rw [List.getElem?_map]
    cases z : r[p]? with
    | none => rfl
    | some x =>
      rw [z] at h
      rw [show x = 0 from h]
      show Int.fdiv 0 (byR r) = 0
      simp
theorem mix_at (hr : r.length = N) (hl : l.length = N) : (mixR r l x y).getD p 0 = r.getD p 0 * x - l.getD p 0 * y := by
  unfold mixR
  simp only [List.getD_eq_getElem?_getD, List.getElem?_map]
  by_cases z : p < N
  · rw [List.getElem?_eq_getElem (show p < (r.zip l).length by simp; omega), List.getElem?_eq_getElem (show p < r.length by omega), List.getElem?_eq_getElem (show p < l.length by omega)]
    simp
  · rw [List.getElem?_eq_none (show (r.zip l).length ≤ p by simp; omega), List.getElem?_eq_none (show r.length ≤ p by omega), List.getElem?_eq_none (show l.length ≤ p by omega)]
    simp
theorem clear_at (hr : r.length = N) (hl : l.length = N) : (clearR r l p).getD p 0 = 0 := by
  refine plain_at ?_
  rw [mix_at hr hl, Int.mul_comm, Int.sub_self]
theorem clear_keeps {q : Nat} (hr : r.length = N) (hl : l.length = N) (h1 : r.getD q 0 = 0) (h2 : l.getD q 0 = 0) : (clearR r l p).getD q 0 = 0 := by
  refine plain_at ?_
  rw [mix_at hr hl, h1, h2]
  simp
def small (b : Nat) (r : List Int) : Prop := ∀ x ∈ r, x.natAbs < 2 ^ b
theorem small_mono {b c : Nat} (h : small b r) (k : b ≤ c) : small c r := fun x hx => Nat.lt_of_lt_of_le (h x hx) (Nat.pow_le_pow_right (by decide) k)
theorem fdiv_le (h : y ∣ x) (y0 : y ≠ 0) : (x.fdiv y).natAbs ≤ x.natAbs := by
  have e := fdiv_mul h
  have e2 : (x.fdiv y).natAbs * y.natAbs = x.natAbs := by rw [← Int.natAbs_mul, e]
  have : 1 ≤ y.natAbs := by omega
  calc (x.fdiv y).natAbs = (x.fdiv y).natAbs * 1 := (Nat.mul_one _).symm
    _ ≤ (x.fdiv y).natAbs * y.natAbs := Nat.mul_le_mul_left _ this
    _ = x.natAbs := e2
theorem small_plain (h : small b r) : small b (plainR r) := by
  unfold plainR
  split
  · exact h
  · rename_i z
    intro x hx
    obtain ⟨w, hw, rfl⟩ := List.mem_map.mp hx
    exact Nat.lt_of_le_of_lt (fdiv_le (by_dvd hw) (by_0 z)) (h w hw)
theorem small_at (h : small b r) : (r.getD p 0).natAbs < 2 ^ b := by
  rw [List.getD_eq_getElem?_getD]
  cases z : r[p]? with
  | none => exact Nat.pow_pos (by decide)
  | some x => exact h x (List.mem_of_getElem? z)
theorem small_mix (h1 : small b r) (h2 : small b l) (hx : x.natAbs < 2 ^ b) (hy : y.natAbs < 2 ^ b) : small (2 * b + 1) (mixR r l x y) := by
  intro z hz
  obtain ⟨⟨u, v⟩, hq, rfl⟩ := List.mem_map.mp hz
  have hu := h1 u (List.of_mem_zip hq).1
  have hv := h2 v (List.of_mem_zip hq).2
  have a1 : (u * x).natAbs < 2 ^ b * 2 ^ b := by
    rw [Int.natAbs_mul]
    exact Nat.mul_lt_mul_of_lt_of_lt hu hx
  have a2 : (v * y).natAbs < 2 ^ b * 2 ^ b := by
    rw [Int.natAbs_mul]
    exact Nat.mul_lt_mul_of_lt_of_lt hv hy
  have e : 2 ^ (2 * b + 1) = 2 ^ b * 2 ^ b + 2 ^ b * 2 ^ b := by
    rw [Nat.pow_succ, Nat.two_mul, Nat.pow_add, Nat.mul_two]
  show (u * x - v * y).natAbs < _
  omega
theorem small_clear (h1 : small b r) (h2 : small b l) : small (2 * b + 1) (clearR r l p) := small_plain (small_mix h1 h2 (small_at h2) (small_at h1))
def bitsR : Nat → Nat
  | 0 => 6
  | t + 1 => 2 * bitsR t + 1
theorem bits_up {t s : Nat} (h : t ≤ s) : bitsR t ≤ bitsR s := by
  induction s with
  | zero =>
    have : t = 0 := by omega
    rw [this]
    exact Nat.le_refl _
  | succ s ih =>
    by_cases z : t = s + 1
    · rw [z]
      exact Nat.le_refl _
    · have := ih (by omega)
      show _ ≤ 2 * bitsR s + 1
      omega
end
end Gd
namespace Gd
open PySem PySem.Spec PyProof.Rows L2 Sm
structure GoodR (E : List (List Int)) (N t : Nat) (Z : List Nat) (r : List Int) : Prop where
  len : r.length = N
  dots : ∀ e ∈ E, dotL r e = 0
  zer : ∀ z ∈ Z, r.getD z 0 = 0
  sm : small (bitsR t) r
section
variable {E : List (List Int)} {N t p : Nat} {Z : List Nat} {r l : List Int} {R : List (List Int)} {ch : List (List Int)}
theorem GoodR.up (g : GoodR E N t Z r) {s : Nat} (h : t ≤ s) : GoodR E N s Z r := ⟨g.len, g.dots, g.zer, small_mono g.sm (bits_up h)⟩
theorem GoodR.clear (hE : ∀ e ∈ E, e.length = N) (g1 : GoodR E N t Z r) (g2 : GoodR E N t Z l) : GoodR E N (t + 1) (p :: Z) (clearR r l p) where
  len := clear_len g1.len g2.len
  dots := fun e he => dot_clear g1.len g2.len (hE e he) (g1.dots e he) (g2.dots e he)
  zer := fun z hz => by
    rcases List.mem_cons.mp hz with c | c
    · rw [c]
      exact clear_at g1.len g2.len
    · exact clear_keeps g1.len g2.len (g1.zer z c) (g2.zer z c)
  sm := small_clear g1.sm g2.sm
theorem GoodR.plain (g : GoodR E N t Z r) : GoodR E N t Z (plainR r) :=
  ⟨by rw [plain_len]; exact g.len, fun e he => dot_plain (g.dots e he), fun z hz => plain_at (g.zer z hz), small_plain g.sm⟩
end
end Gd
namespace Gd
open PySem PySem.Spec PyProof.Rows L2 Sm
section
variable {h h1 : Store} {env : Env'} {A B S : T} {a b r l : List Int} {R : List (List Int)} {n p N t : Nat} {rr : M (List T)}
end
end Gd
namespace Gd
open PySem PySem.Spec PyProof.Rows L2 Sm
section
variable {h h1 : Store} {env : Env'} {A B S : T} {a b r l : List Int} {R : List (List Int)} {n p N t c : Nat} {rr : M (List T)}
end
end Gd
namespace Gd
open PySem PySem.Spec PyProof.Rows L2 Sm
section
variable {h h1 : Store} {env : Env'} {A B S : T} {a b r l : List Int} {R : List (List Int)} {n p N t c : Nat} {rr : M (List T)} {fr : List Fr} {ch : List (List Int)} {E : List (List Int)} {Z : List Nat}
end
end Gd
namespace Gd
open PySem PySem.Spec PyProof.Rows L2 Sm
section
variable {h h1 : Store} {env : Env'} {A B S : T} {a b r l x y : List Int} {R : List (List Int)} {n p N t c : Nat} {rr : M (List T)} {fr : List Fr} {ch : List (List Int)} {E : List (List Int)} {Z : List Nat}
end
end Gd
namespace Gd
open PySem PySem.Spec PyProof.Rows L2 Sm
section
variable {h h1 : Store} {r x y a : List Int} {R : List (List Int)} {n p b c : Nat} {fr : List Fr} {k : Int}
theorem dot_gone : ∀ {r x a : List Int}, x.length = r.length → a.length = r.length → dotL r (goneL x a k) = dotL r x + k * dotL r a
  | [], [], [], _, _ => by simp [dotL, goneL]
  | [], _ :: _, _, h, _ => by simp at h
  | [], _, _ :: _, _, h => by simp at h
  | _ :: _, [], _, h, _ => by simp at h
  | _ :: _, _, [], _, h => by simp at h
  | f :: r, u :: x, v :: a, h1, h2 => by
    have ih := dot_gone (r := r) (x := x) (a := a) (by simpa using h1) (by simpa using h2)
    simp only [dotL, goneL, List.zip_cons_cons, List.map_cons, List.sum_cons] at ih ⊢
    rw [ih, Int.mul_add, Int.mul_add, Int.mul_left_comm f k v]
    omega
structure keepR (fr : List Fr) (r : List Int) : Prop where
  len : r.length = 10
  dots : ∀ q ∈ fr, dotL r (addF q) = 0
  sm : small 7167 r
theorem keepR.step (g : keepR fr r) (hx : x.length = 10) : dotL r (stepP fr x) = dotL r x := by
  unfold stepP
  cases q : firstL (wantsL fr) x with
  | none => rfl
  | some k =>
    obtain ⟨p, hp, _⟩ := firstL_lt q
    simp only [getD_of hp]
    rw [dot_gone (by rw [hx, g.len]) (by rw [addF_len, g.len]), g.dots p (List.mem_of_getElem? hp)]
    simp
theorem keepR.run (g : keepR fr r) (hx : x.length = 10) : ∀ n, dotL r (runP fr x n) = dotL r x
  | 0 => rfl
  | n + 1 => by
    have : runP fr x (n + 1) = stepP fr (runP fr x n) := rfl
    rw [this, g.step (runP_len hx n), g.run hx n]
end
end Gd
namespace Gd
open PySem PySem.Spec PyProof.Rows L2 Sm
section
variable {h h1 : Store} {fr : List Fr} {y : List Int} {n m N : Nat} {env : Env'} {t : T}
end
end Gd
namespace Gd
open PySem PySem.Spec PyProof.Rows L2 Sm
section
variable {h h1 : Store} {fr : List Fr} {y a : List Int} {n m N : Nat} {env : Env'} {t : T} {Q : T → Store → Prop} {X : Ex → Store → Prop}
end
end Gd
namespace Gd
open PySem PySem.Spec PyProof.Rows L2 Sm
structure Loop (fr : List Fr) (B : List Int) (c : Nat) (a : List Int) : Prop where
  hB : B.length = 10
  c1 : 1 ≤ c
  c40 : c ≤ 40
  rest : ∀ k, k < c → restP fr B k = false
  lp : loopA fr (runP fr B) (uP fr B) c = some a
section
variable {h h1 : Store} {fr : List Fr} {xs B y a : List Int} {n m N c : Nat} {env : Env'} {t v : T} {Q : T → Store → Prop} {X : Ex → Store → Prop}
theorem Loop.al (L : Loop fr B c a) : a.length = 10 := loopA_len (fun k => runP_len L.hB k) L.lp
theorem Loop.never (L : Loop fr B c a) (n : Nat) : restP fr B n = false := (far_run L.hB L.c1 L.rest L.lp n).2.2.2
theorem after_eq (ok : okP fr) (hl : fr.length ≤ 1000) (hx : xs.length = 10) (hn : n < 10000) (m2 : ∀ j, j < n → restP fr xs j = false) : F_after [prT fr, iT xs, tN n] h = .ok (iT (runP fr xs n)) h :=
  Out.wp_eq (Out.wp_mono (after_wp (m := n) ok hl hx hn (Nat.le_refl _) m2 (.inl rfl)) (fun t h' z => z.2) fun e h' z => absurd z.1 (by omega))
end
end Gd
namespace Gd
open PySem PySem.Spec PyProof.Rows L2 Sm
@[irreducible] noncomputable def turn75 : MS := (sSeq (sIf (mTst (mBin fNe (mVar 4) (mCall F_stand_powers (mCons (mVar 3) (mCons (mBin fIdx (mVar 6) (mVar 9)) (mCons (mBin fEq (mBin fMod (mBin fAdd (mVar 7) (mVar 9)) (mC (.int 2))) (mC (.int 1))) mNil))))))
  (sRet (mC (.bl false)))
  sNil)
  (sSeq (sIf (mTst (mBin fNe (mBin fIs (mCall F_first_fit (mCons (mVar 5) (mCons (mVar 4) mNil))) (mC .non)) (mBin fEq (mBin fIdx (mBin fIdx (mVar 6) (mVar 9)) (mC (.int 0))) (mCallF fLen (mCons (mBin fIdx (mVar 3) (mC (.int 1))) mNil)))))
  (sRet (mC (.bl false)))
  sNil)
  (sIf (mTst (mBin fLt (mBin fAdd (mVar 9) (mC (.int 1))) (mCallF fLen (mCons (mVar 6) mNil))))
  (sSet 4 (mCall F_step (mCons (mVar 5) (mCons (mVar 4) mNil))))
  sNil)))
@[irreducible] noncomputable def last75 (P : Addr) : MS := (sIf (mTst (mBin fLe (mCallF fLen (mCons (mVar 6) mNil)) (mC (.int 40))))
  (sSeq (sIf (mTst (mBin fNe (mLam 0 P lamQ (mCall F_after (mCons (mVar 5) (mCons (mVar 1) (mCons (mC (.int 40)) mNil))))) (mBin fSub (mCallF fLen (mCons (mVar 6) mNil)) (mC (.int 1)))))
  (sRet (mC (.bl false)))
  sNil)
  (sIf (mTst (mBin fNe (mLam 0 P lamQ (mCall F_machine_after (mCons (mVar 3) (mCons (mVar 8) (mCons (mC (.int 40)) mNil))))) (mBin fSub (mCallF fLen (mCons (mVar 6) mNil)) (mC (.int 1)))))
  (sRet (mC (.bl false)))
  sNil))
  (sIf (mTst (mBin fNe (mCall F_after (mCons (mVar 5) (mCons (mVar 1) (mCons (mC (.int 40)) mNil)))) (mCall F_stand_powers (mCons (mVar 3) (mCons (mBin fIdx (mVar 6) (mC (.int 40))) (mCons (mBin fEq (mVar 7) (mC (.int 1))) mNil))))))
  (sRet (mC (.bl false)))
  sNil))
@[irreducible] noncomputable def side75 (P : Addr) : MS := (sSeq (sSet 4 (mCall F_stand_powers (mCons (mVar 3) (mCons (mVar 8) (mCons (mBin fEq (mVar 7) (mC (.int 1))) mNil)))))
  (sSeq (sFor (mRange1 (mCons (mCallF fLen (mCons (mVar 6) mNil)) mNil)) (.one 9) [1, 2, 9]
  turn75)
  (sSeq (sSet 1 (mCall F_stand_powers (mCons (mVar 3) (mCons (mVar 8) (mCons (mBin fEq (mVar 7) (mC (.int 1))) mNil)))))
  (last75 P))))
@[irreducible] noncomputable def body75 (P : Addr) : MS := (sSeq (sSet 3 (mCall F_law_machine (mCons (mCall F_law_pot (mCons (mCall F_law_cell_at (mCons (mVar 0) (mCons (mVar 2) mNil))) mNil)) (mCons (mC (.int 4)) (mCons (mC (.int 3)) mNil)))))
  (sSeq (sSet 5 (mCall F_program_of (mCons (mVar 3) mNil)))
  (sSeq (sSet 8 (mCall F_law_stand (mCons (mCall F_law_pot (mCons (mCall F_law_cell_at (mCons (mVar 0) (mCons (mBin fAdd (mVar 2) (mC (.int 1))) mNil))) mNil)) (mCons (mVar 3) mNil))))
  (sSeq (sSet 6 (mCall F_law_stands (mCons (mVar 3) (mCons (mVar 8) (mCons (mC (.int 40)) mNil)))))
  (sFor (mSeq (mFrz (mLst (mCons (mC (.int 0)) (mCons (mC (.int 1)) mNil))))) (.one 7) [1, 2, 4, 7, 9]
  (side75 P))))))
theorem law75_is (P : Addr) : b_law_k75 P = (sSeq (sFor (mRange3 (mCons (mC (.int 0)) (mCons (mC (.int 6)) (mCons (mC (.int 2)) mNil)))) (.one 2) [1, 2, 3, 4, 5, 6, 7, 8, 9]
  (body75 P))
  (sRet (mC (.bl true)))) := by
  unfold body75 side75 last75 turn75
  rfl
section
variable {h : Store} {M m i b : Nat} {s : Sd} {rs : List Rw} {scr : Option T} {P : Addr}
theorem same_line {xs : List Int} : fNe (iT xs) (iT xs) h = some (.bl false) := by
  rw [fNe_ok (okD_ints (n := 0)) (okD_ints (n := 0)) (by decide) (by decide), beq_ints]
  simp
abbrev goL (rs : List Rw) (s : Sd) (m : Nat) : T := .lst ((List.range (m + 1)).map fun j => sdT (runS rs s j))
theorem goL_at (hi : i ≤ m) : fIdx (goL rs s m) (tN i) h = some (sdT (runS rs s i)) := by
  have e : ixN (m + 1) (i : Int) = some i := by
    unfold ixN
    rw [if_pos (by omega), if_pos (by omega)]
    congr 1
  show atI ((List.range (m + 1)).map fun j => sdT (runS rs s j)) (i : Int) = _
  unfold atI
  rw [List.length_map, List.length_range, e]
  show ((List.range (m + 1)).map fun j => sdT (runS rs s j))[i]? = _
  rw [List.getElem?_map, List.getElem?_range (by omega)]
  rfl
theorem goL_len : fLen [goL rs s m] h = some (tN (m + 1)) := by simp [tN]
theorem none_is {o : Option Nat} : fIs (optT o) .non h = some (.bl o.isNone) := by cases o <;> rfl
theorem eq_one {k : Nat} : fEq (tN k) (.int 1) h = some (.bl (decide (k = 1))) := by
  show some (T.bl (decide ((k : Int) = 1))) = _
  congr 2
  rw [decide_eq_decide]
  omega
theorem eq_tN {a c : Nat} : fEq (tN a) (tN c) h = some (.bl (decide (a = c))) := by
  show some (T.bl (decide ((a : Int) = (c : Int)))) = _
  congr 2
  rw [decide_eq_decide]
  omega
theorem half {k : Nat} : fMod (tN k) (.int 2) h = some (tN (k % 2)) := by
  show (if (2 : Int) ≠ 0 then some (T.int ((k : Int).fmod 2)) else none) = _
  rw [if_pos (by decide), fmod_p (by decide)]
  rfl
theorem side_at {j c : Nat} (hM : M + 2 * rs.length ≤ 10) (hr : ∀ q ∈ rs, okR M rs.length q) (ok : okS M rs.length s) (hc : c < 2) : F_stand_powers [mcT M rs, sdT (runS rs s j), .bl (decide (c = 1))] h = .ok (iT (powS M rs.length (runS rs s j) c)) h := by
  rw [stand_eq hM (ok_run hr ok j)]
  congr 3
  by_cases z : c = 1
  · rw [decide_eq_true z, if_pos rfl, z]
  · rw [decide_eq_false z, if_neg Bool.false_ne_true]
    omega
theorem step_one {fr : List Fr} {xs : List Int} {j : Nat} (k : okP fr) (hl : fr.length ≤ 1000) (hx : xs.length = 10) (r : restP fr xs j = false) : F_step [prT fr, iT (runP fr xs j)] h = .ok (iT (runP fr xs (j + 1))) h :=
  Out.wp_eq (Out.wp_mono (step_wp k hl (runP_len hx j)) (fun t h' z => ⟨z.2.1, z.2.2⟩) fun e h' z => by
    have := z.1
    rw [show (firstL (wantsL fr) (runP fr xs j)).isNone = restP fr xs j from rfl, r] at this
    cases this)
theorem turn75_wp {W : Pst} (hM : M + 2 * rs.length ≤ 10) (hr : ∀ q ∈ rs, okR M rs.length q) (ok : okS M rs.length s) (hb : b < 2) (hi : i ≤ m) (m2 : ∀ j, j < m → (runS rs s j).1 ≠ rs.length)
    (z : W.nx [scr, none, none, some (mcT M rs), some (iT (runP (mpr M rs) (powS M rs.length s b) (min (i + 1) m))), some (prT (mpr M rs)), some (goL rs s m), some (tN b), some (sdT s), some (tN i)] h) :
    (turn75 [scr, none, none, some (mcT M rs), some (iT (runP (mpr M rs) (powS M rs.length s b) i)), some (prT (mpr M rs)), some (goL rs s m), some (tN b), some (sdT s), some (tN i)] h).wp W := by
  have okf : okP (mpr M rs) := ok_rows hr hM rs.length (Nat.le_refl _)
  have fl : (mpr M rs).length ≤ 20 := by
    have := (rows_len (M := M) (N := rs.length) (rs := rs) rs.length).2
    show (rowsFr M rs.length rs rs.length).length ≤ 20
    omega
  have x0 : (powS M rs.length s b).length = 10 := powS_len
  have rst : ∀ j, restP (mpr M rs) (powS M rs.length s b) j = decide ((runS rs s j).1 = rs.length) := fun j => sim_is hr hM ok hb
  have sp := side_at (h := h) (j := i) (c := (b + i) % 2) hM hr ok (by omega)
  rw [← sim_r hr hM ok hb] at sp
  have ff := first_fit_eq (h := h) okf (by omega) (runP_len (fr := mpr M rs) x0 i)
  have ra := goL_at (h := h) (rs := rs) (s := s) hi
  have rl := goL_len (h := h) (rs := rs) (s := s) (m := m)
  have ad : fAdd (tN b) (tN i) h = some (tN (b + i)) := rfl
  have a1 : fAdd (tN i) (.int 1) h = some (tN (i + 1)) := rfl
  have i0 : fIdx (sdT (runS rs s i)) (.int 0) h = some (tN (runS rs s i).1) := by
    show fIdx (.tup [tN (runS rs s i).1, iT (runS rs s i).2]) (.int 0) h = _
    rw [q3_idx, atI_0]
  have i1 : fIdx (mcT M rs) (.int 1) h = some (.tup (rs.map rwT)) := by rw [q3_idx, atI_1]
  have lr : fLen [.tup (rs.map rwT)] h = some (tN rs.length) := by simp [tN]
  have ri : (firstL (wantsL (mpr M rs)) (runP (mpr M rs) (powS M rs.length s b) i)).isNone = decide ((runS rs s i).1 = rs.length) := rst i
  have lt : fLt (tN (i + 1)) (tN (m + 1)) h = some (.bl (decide (i < m))) := by
    show some (T.bl (decide (((i + 1 : Nat) : Int) < ((m + 1 : Nat) : Int)))) = _
    congr 2
    rw [decide_eq_decide]
    omega
  have so : i < m → F_step [prT (mpr M rs), iT (runP (mpr M rs) (powS M rs.length s b) i)] h = .ok (iT (runP (mpr M rs) (powS M rs.length s b) (i + 1))) h := fun c => step_one okf (by omega) x0 (by rw [rst, decide_eq_false (m2 i c)])
  generalize runP (mpr M rs) (powS M rs.length s b) = R at sp ff ri so z ⊢
  generalize mpr M rs = fr at ff ri so z ⊢
  have sl := same_line (h := h) (xs := R i)
  unfold turn75
  simp -implicitDefEqProofs only [q2_seq, q2_if, q1_tst, q1_bin, q1_call, q1_callF, q1_cons, q1_nil, q1_var, q1_C, List.getElem?_cons_zero, List.getElem?_cons_succ, bind_ok, ra, ad, half, eq_one, sp, sl, ff, none_is, ri, i0, i1, lr, eq_tN, q3_neB, a1, rl, lt, ofO_some, asB_bl, bindE_ok, decide_true, Bool.not_true, Bool.false_eq_true, if_false, q2_nil, seq_nx]
  by_cases c : i < m
  · rw [decide_eq_true c]
    rw [Nat.min_eq_left (by omega)] at z
    simp -implicitDefEqProofs only [if_true, q2_set, q1_call, q1_cons, q1_nil, q1_var, List.getElem?_cons_zero, List.getElem?_cons_succ, bind_ok, so c, bindE_ok, List.set, so_nx]
    exact z
  · rw [decide_eq_false c]
    rw [show min (i + 1) m = i by omega] at z
    simp -implicitDefEqProofs only [Bool.false_eq_true, if_false, q2_nil, so_nx]
    exact z
theorem lam_eq {mb : Sm.M T} {env : Env'} (e : h[0]? = some (.tab P (codeF lamQ))) : mLam 0 P lamQ mb env h = toldO (mb env h) := by
  unfold mLam
  rw [if_pos e]
theorem told_rest {t : T} : toldO (.ex (.fld 11 "steps" t) h) = .ok t h := rfl
theorem rest_of {o : Out T} {n : Nat} {Q : T → Prop} {E : Ex} (w : o.wp (fun t h' => m = n ∧ Q t ∧ h' = h) (fun e h' => m < n ∧ e = E ∧ h' = h)) (c : m < n) : o = .ex E h := by
  cases o with
  | ok t h1 => exact absurd w.1 (by omega)
  | ex e h1 =>
    obtain ⟨_, rfl, rfl⟩ := w
    rfl
  | bad => exact w.elim
theorem less_one : fSub (tN (m + 1)) (.int 1) h = some (tN m) := by
  show some (T.int (((m + 1 : Nat) : Int) - 1)) = some (T.int _)
  congr 2
  omega
theorem ne_tN : fNe (tN m) (tN m) h = some (.bl false) := by
  show some (T.bl (!decide ((m : Int) = (m : Int)))) = _
  simp
theorem last75_wp {W : Pst} {now : Option T} (e : h[0]? = some (.tab P (codeF lamQ))) (hM : M + 2 * rs.length ≤ 10) (hr : ∀ q ∈ rs, okR M rs.length q) (ok : okS M rs.length s) (hb : b < 2) (m1 : m ≤ 40) (m2 : ∀ j, j < m → (runS rs s j).1 ≠ rs.length) (m3 : m = 40 ∨ (runS rs s m).1 = rs.length)
    (z : W.nx [scr, some (iT (powS M rs.length s b)), none, some (mcT M rs), now, some (prT (mpr M rs)), some (goL rs s m), some (tN b), some (sdT s), none] h) :
    (last75 P [scr, some (iT (powS M rs.length s b)), none, some (mcT M rs), now, some (prT (mpr M rs)), some (goL rs s m), some (tN b), some (sdT s), none] h).wp W := by
  have okf : okP (mpr M rs) := ok_rows hr hM rs.length (Nat.le_refl _)
  have fl : (mpr M rs).length ≤ 20 := by
    have := (rows_len (M := M) (N := rs.length) (rs := rs) rs.length).2
    show (rowsFr M rs.length rs rs.length).length ≤ 20
    omega
  have x0 : (powS M rs.length s b).length = 10 := powS_len
  have rst : ∀ j, restP (mpr M rs) (powS M rs.length s b) j = decide ((runS rs s j).1 = rs.length) := fun j => sim_is hr hM ok hb
  have rl := goL_len (h := h) (rs := rs) (s := s) (m := m)
  have le : fLe (tN (m + 1)) (.int 40) h = some (.bl (decide (m < 40))) := by
    show some (T.bl (decide (((m + 1 : Nat) : Int) ≤ 40))) = _
    congr 2
    rw [decide_eq_decide]
    omega
  by_cases c : m < 40
  · have aw := rest_of (after_wp (h := h) (n := 40) okf (by omega) x0 (by decide) m1 (fun j hj => by rw [rst, decide_eq_false (m2 j hj)]) (m3.imp id fun w => by rw [rst, decide_eq_true w])) c
    have mw := rest_of (mafter_wp (h := h) (n := 40) hr ok (by omega) (by decide) m1 m2 m3) c
    rw [decide_eq_true c] at le
    have l1 : ∀ en : Env', en = [scr, some (iT (powS M rs.length s b)), none, some (mcT M rs), now, some (prT (mpr M rs)), some (goL rs s m), some (tN b), some (sdT s), none] →
        mLam 0 P lamQ (mCall F_after (mCons (mVar 5) (mCons (mVar 1) (mCons (mC (.int 40)) mNil)))) en h = .ok (tN m) h := fun en ee => by
      rw [lam_eq e, ee]
      simp -implicitDefEqProofs only [q1_call, q1_cons, q1_nil, q1_var, q1_C, List.getElem?_cons_zero, List.getElem?_cons_succ, bind_ok, show T.int 40 = tN 40 from rfl, aw, told_rest]
    have l2 : ∀ en : Env', en = [scr, some (iT (powS M rs.length s b)), none, some (mcT M rs), now, some (prT (mpr M rs)), some (goL rs s m), some (tN b), some (sdT s), none] →
        mLam 0 P lamQ (mCall F_machine_after (mCons (mVar 3) (mCons (mVar 8) (mCons (mC (.int 40)) mNil)))) en h = .ok (tN m) h := fun en ee => by
      rw [lam_eq e, ee]
      simp -implicitDefEqProofs only [q1_call, q1_cons, q1_nil, q1_var, q1_C, List.getElem?_cons_zero, List.getElem?_cons_succ, bind_ok, show T.int 40 = tN 40 from rfl, mw, told_rest]
    have f1 := l1 _ rfl
    have f2 := l2 _ rfl
    unfold last75
    simp -implicitDefEqProofs only [q2_if, q2_seq, q1_tst, q1_bin, q1_callF, q1_cons, q1_nil, q1_var, q1_C, List.getElem?_cons_zero, List.getElem?_cons_succ, bind_ok, rl, le, f1, f2, less_one, ne_tN, ofO_some, asB_bl, bindE_ok, if_true, Bool.false_eq_true, if_false, q2_nil, seq_nx, so_nx]
    exact z
  · obtain rfl : m = 40 := by omega
    have ae := after_eq (h := h) (n := 40) okf (by omega) x0 (by decide) fun j hj => by rw [rst, decide_eq_false (m2 j hj)]
    have sp := side_at (h := h) (j := 40) (c := b) hM hr ok hb
    have back : runP (mpr M rs) (powS M rs.length s b) 40 = powS M rs.length (runS rs s 40) b := by
      rw [sim_r hr hM ok hb]
      congr 1
      omega
    rw [back] at ae
    rw [decide_eq_false c, show T.int 40 = tN 40 from rfl] at le
    have ra := goL_at (h := h) (rs := rs) (s := s) (m := 40) (i := 40) (Nat.le_refl _)
    have sl := same_line (h := h) (xs := powS M rs.length (runS rs s 40) b)
    unfold last75
    simp -implicitDefEqProofs only [q2_if, q1_tst, q1_bin, q1_call, q1_callF, q1_cons, q1_nil, q1_var, q1_C, List.getElem?_cons_zero, List.getElem?_cons_succ, bind_ok, rl, le, ofO_some, asB_bl, bindE_ok, show T.int 40 = tN 40 from rfl, ae, ra, eq_one, sp, sl, Bool.false_eq_true, if_false, q2_nil, so_nx]
    exact z
theorem side75_wp {W : Pst} (e : h[0]? = some (.tab P (codeF lamQ))) (hM : M + 2 * rs.length ≤ 10) (hr : ∀ q ∈ rs, okR M rs.length q) (ok : okS M rs.length s) (hb : b < 2) (m1 : m ≤ 40) (m2 : ∀ j, j < m → (runS rs s j).1 ≠ rs.length) (m3 : m = 40 ∨ (runS rs s m).1 = rs.length)
    (z : ∀ now begin, W.nx [scr, begin, none, some (mcT M rs), now, some (prT (mpr M rs)), some (goL rs s m), some (tN b), some (sdT s), none] h) :
    (side75 P [scr, none, none, some (mcT M rs), none, some (prT (mpr M rs)), some (goL rs s m), some (tN b), some (sdT s), none] h).wp W := by
  have sp : F_stand_powers [mcT M rs, sdT s, .bl (decide (b = 1))] h = .ok (iT (powS M rs.length s b)) h := side_at (j := 0) hM hr ok hb
  unfold side75
  simp -implicitDefEqProofs only [q2_seq, q2_set, q1_call, q1_bin, q1_cons, q1_nil, q1_var, q1_C, List.getElem?_cons_zero, List.getElem?_cons_succ, bind_ok, eq_one, ofO_some, sp, bindE_ok, seq_nx, List.set]
  have sr : ∀ en : Env', en[6]? = some (some (goL rs s m)) → mRange1 (mCons (mCallF fLen (mCons (mVar 6) mNil)) mNil) en h = .ok ⟨Sm.rangeT 0 (m + 1), []⟩ h := fun en ee => by
    refine range_ofB ?_ (by omega)
    have rl := goL_len (h := h) (rs := rs) (s := s) (m := m)
    simp -implicitDefEqProofs only [q1_callF, q1_cons, q1_nil, q1_var, ee, bind_ok, rl, ofO_some]
  rw [so_seq, sFor_of (sr _ rfl)]
  refine forLoop_wp _ (fun i env h' => h' = h ∧ env = [scr, none, none, some (mcT M rs), some (iT (runP (mpr M rs) (powS M rs.length s b) (min i m))), some (prT (mpr M rs)), some (goL rs s m), some (tN b), some (sdT s), none]) ?_ ?_ ⟨rfl, by rw [Nat.zero_min]; rfl⟩
  · rintro i x env h' hx ⟨rfl, rfl⟩
    obtain ⟨rfl, hi⟩ := range_at hx
    refine ⟨by simp, _, b_one, ?_⟩
    rw [Int.zero_add]
    rw [Nat.min_eq_left (show i ≤ m by omega)]
    exact turn75_wp hM hr ok hb (by omega) m2 ⟨rfl, rfl⟩
  · rintro env h' ⟨rfl, rfl⟩
    refine ⟨by simp, ?_⟩
    have sp : F_stand_powers [mcT M rs, sdT s, .bl (decide (b = 1))] h' = .ok (iT (powS M rs.length s b)) h' := side_at (j := 0) hM hr ok hb
    show ((sSeq _ _) _ h').wp W
    simp -implicitDefEqProofs only [q2_seq, q2_set, q1_call, q1_bin, q1_cons, q1_nil, q1_var, q1_C, List.getElem?_cons_zero, List.getElem?_cons_succ, bind_ok, eq_one, ofO_some, sp, bindE_ok, seq_nx, List.set]
    exact last75_wp e hM hr ok hb m1 m2 m3 (z _ _)
end
theorem tab_pot {h : Store} {P : Addr} {l : List Cell} (e : h[0]? = some (.tab P (codeF lamQ))) : (h ++ l)[0]? = some (.tab P (codeF lamQ)) := by
  cases h with
  | nil => cases e
  | cons c t => exact e
theorem tab_pst {h : Store} {P : Addr} {n : Nat} {v : Int} (e : h[0]? = some (.tab P (codeF lamQ))) (hn : 0 < n) : (pst h n v)[0]? = some (.tab P (codeF lamQ)) := by
  unfold pst
  rw [List.getElem?_set_ne (by omega)]
  exact e
theorem law75 (P : Addr) (ns : List Int) : ∃ h', F_law_k75 P [.scr ns] [.tab P (codeF lamQ)] = .ok (.bl true) h' := by
  have w : (F_law_k75 P [.scr ns] [.tab P (codeF lamQ)]).wp (fun t _ => t = .bl true) (fun _ _ => False) := by
    obtain ⟨b, hb⟩ : ∃ b, b = b_law_k75 P := ⟨_, rfl⟩
    have eb : F_law_k75 P = fn 1 10 false b := by rw [hb]; rfl
    rw [eb]
    refine fn_wp rfl ?_
    show (b [some (.scr ns), none, none, none, none, none, none, none, none, none] [.tab P (codeF lamQ)]).wp _
    rw [hb, law75_is, q2_seq, so_seq, sFor_of even6]
    refine forLoop_wp _ (fun i env h' => h'[0]? = some (.tab P (codeF lamQ)) ∧ env = [some (.scr ns), none, none, none, none, none, none, none, none, none]) ?_ ?_ ⟨rfl, rfl⟩
    · rintro i x env h' hx ⟨e0, rfl⟩
      obtain ⟨rfl, hi⟩ := rangeC_at hx
      refine ⟨by simp, _, b_one, ?_⟩
      unfold body75
      obtain ⟨v, hv⟩ := cell_eq (h := h') (ns := ns) (k := (i : Int) * 2) (by omega)
      simp -implicitDefEqProofs only [List.set, q2_seq, q2_set, so_seq, so_bindE, q1_call, q1_cons, q1_var, q1_nil, q1_C, List.getElem?_cons_zero, List.getElem?_cons_succ, bind_ok, hv, wp_bind]
      refine pot_ok fun v v0 => ?_
      have p : potAt (h' ++ [.lst [.int v]]) h'.length v := ⟨by simp, v0⟩
      have hn := p.lt
      have e1 := tab_pot (l := [.lst [.int v]]) e0
      have pos : 0 < h'.length := by
        cases h' with
        | nil => cases e0
        | cons c t => simp
      generalize h' ++ [.lst [.int v]] = h1 at p hn e1 ⊢
      generalize h'.length = n at p hn pos ⊢
      try simp -implicitDefEqProofs only [wp_ok, bind_ok]
      refine machine_wp p (by decide) (by decide) (by decide) (by decide) fun many rows w w0 m1 m3 r1 r3 hrw => ?_
      obtain ⟨M, rs, em, hr, rl, eM⟩ := machine_as m1 hrw
      have e2 := tab_pst (v := w) e1 pos
      generalize hh : pst h1 n w = h2 at e2 ⊢
      obtain ⟨v, hv⟩ := cell_eq (h := h2) (ns := ns) (k := (i : Int) * 2 + 1) (by omega)
      have ad : fAdd (.int ((i : Int) * 2)) (.int 1) h2 = some (.int ((i : Int) * 2 + 1)) := rfl
      have pq := prog_eq (h := h2) hr (show M + 2 * rs.length ≤ 10 by omega)
      rw [← em] at pq
      simp -implicitDefEqProofs only [List.set, so_nx, bind_ok, q1_call, q1_cons, q1_var, q1_nil, q1_C, q1_bin, List.getElem?_cons_zero, List.getElem?_cons_succ, pq, bindE_ok, wp_ok, ad, ofO_some, hv, so_bindE, wp_bind]
      refine pot_ok fun v v0 => ?_
      have p : potAt (h2 ++ [.lst [.int v]]) h2.length v := ⟨by simp, v0⟩
      have hn := p.lt
      have e3 := tab_pot (l := [.lst [.int v]]) e2
      have pos : 0 < h2.length := by
        cases h2 with
        | nil => cases e2
        | cons c t => simp
      generalize h2 ++ [.lst [.int v]] = h3 at p hn e3 ⊢
      generalize h2.length = n2 at p hn pos ⊢
      try simp -implicitDefEqProofs only [wp_ok, bind_ok]
      refine stand2_wp p (by omega) (by omega) (by omega) fun s w w0 oks => ?_
      have oks2 : okS M rs.length s := by
        rw [rl, show M = many.toNat by omega]
        exact oks
      have hM : M + 2 * rs.length ≤ 10 := by omega
      rw [em]
      have e4 := tab_pst (v := w) e3 pos
      generalize pst h3 n2 w = h4 at e4 ⊢
      obtain ⟨m, k1, k2, k3⟩ := stop_at (fun j => (runS rs s j).1) rs.length 40
      have se := stands_eq (h := h4) (n := 40) (m := m) hr oks2 (by omega) (by decide) k1 k2 k3
      simp -implicitDefEqProofs only [List.set, so_nx, q1_call, q1_cons, q1_var, q1_nil, q1_C, List.getElem?_cons_zero, List.getElem?_cons_succ, bind_ok, show T.int 40 = tN 40 from rfl, se, bindE_ok, wp_ok]
      have src : ∀ en : Env', mSeq (mFrz (mLst (mCons (mC (.int 0)) (mCons (mC (.int 1)) mNil)))) en h4 = .ok ⟨[0, 1].map tN, []⟩ h4 := fun en => by simp [tN]
      rw [sFor_of (src _)]
      refine forLoop_wp _ (fun j env h5 => h5 = h4 ∧ env = [some (.scr ns), none, none, some (mcT M rs), none, some (prT (mpr M rs)), some (goL rs s m), none, some (sdT s), none]) ?_ ?_ ⟨rfl, rfl⟩
      · rintro j x env h5 hx ⟨rfl, rfl⟩
        obtain ⟨c, hc, rfl, _⟩ := getm hx
        have hc2 : c < 2 := by
          have := List.mem_of_getElem? hc
          simp only [List.mem_cons, List.not_mem_nil, or_false] at this
          omega
        refine ⟨by simp, _, b_one, ?_⟩
        exact side75_wp e4 hM hr oks2 hc2 k1 k2 k3 fun now begin => ⟨rfl, rfl⟩
      · rintro env h5 ⟨rfl, rfl⟩
        exact ⟨by simp, e4, rfl⟩
    · rintro env h' ⟨e0, rfl⟩
      refine ⟨by simp, ?_⟩
      simp -implicitDefEqProofs only [q2_ret, q1_C, bindE_ok, so_rt]
      refine ⟨fun i c fs hi e => ?_, .inl ⟨rfl, rfl⟩⟩
      have : i = 0 := by simpa using hi
      subst this
      rw [e0] at e
      cases e
  revert w
  cases F_law_k75 P [.scr ns] [.tab P (codeF lamQ)] with
  | ok t h' => exact fun e => ⟨h', by rw [show t = _ from e]⟩
  | ex e h' => exact fun z => z.elim
  | bad => exact fun z => z.elim
end Gd
theorem PySem.Challenge.cw_wholefract_k75_whole_machine_and_program_holds : PySem.Challenge.rw_wholefract_k75_whole_machine_and_program.Holds := by
  exact K75.walk fun P ns _ => Gd.law75 P ns
