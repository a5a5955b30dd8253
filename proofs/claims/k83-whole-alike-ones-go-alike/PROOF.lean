import PyProof.Rows.All
import Wide.All
import OpenK.AllK
import Wide.FinOn
import HandS.ForMost
import HandS.Walk
import HandS.Exc
import HandS.ExcOwn
import HandS.ExcCtx
import HandS.WordsExc
import HandS.HeadHook1
import HandS.IsInst
import HandS.TupLe
import HandS.TupAny
import HandS.TupMul
import HandS.Wide
import HandS.Zip
import KE.GoesMore
import KE.GoesEnum
import KE.GoesZip
import HandS.Codes
import HandS.Deep
import KE.KTupSum
import KE.DatumOrd
import HandS.NoneIn
import HandS.More
import HandS.Head0
import HandS.Head1
import HandS.Head2
import HandS.HeadEnd
import HandS.HeadHook2
import HandS.HeadHook4
import HandS.Conv
import HandS.Dict
import HandS.ExcInit
import HandS.ClsMeth
import HandS.HotCalls
import HandS.ExcIs
import HandS.ExcField
import HandS.SetFor
import KE.KExcIs
import HandS.TupSets
import HandS.Style
import HandS.TupLen
import HandS.SetKeys
import PyProof.DictMoreH
import HandS.Strs
import PyProof.Rows.SetFrom
import KE.KDictWalk
import HandS.RevRange
import HandS.WideBits
import KE.KIndexOf
import PyProof.Rows.Range3
import HandS.Text
import PyProof.StrOps2
import PyProof.DictRoadsH
import HandS.RaiseMore
import HandS.FStrTup
import PyProof.StrHeap
import HandS.Flow
import HandS.HeadHook3
import PyProof.MeetsDict
import KE.KEqDict
import HandS.EndTab
import PySem.Challenge.RW_wholefract_k83_whole_alike_ones_go_alike
set_option Elab.async false
set_option linter.all false
set_option maxRecDepth 100000
namespace Sm
open PySem PySem.Spec PyProof.Rows L2
inductive T where
  | non | bl (b : Bool) | int (i : Int) | str (x : Str) | tup (xs : List T) | lst (xs : List T) | loc (n : Nat)
  /-- the law's script -/
  | scr (ns : List Int)
  /-- an empty dict that nothing changes -/
  | emp
  /-- the exception in hand: its place, its dict's, with one field (or none) -/
  | adr (a d : Addr) (f : Str) (ts : List T)
  /-- a def of the module, by its name -/
  | fnc (x : Str)
  /-- some text -/
  | unk
  /-- a dict by texts that nothing changes any more: an empty text and its keys, what stands there; without any key: a tuple that is known to have no dict of its own -/
  | dct (ks : List Str) (ts : List T)
inductive Cell where
  | lst (xs : List T)
  | dK (kvs : List (Key × T))
  /-- a dict by rows of whole numbers -/
  | dT (kvs : List (List Int × T))
  /-- what was a cell and is fixed now -/
  | dead
  | ins (c : Nat) (fs : List (Str × T))
  /-- the table of a def's code objects, its place, what each code object of it is -/
  | tab (P : Addr) (F : Addr → HO)
abbrev Store := List Cell
abbrev Env' := List (Option T)
inductive Ex where
  | txt (c : Nat) | fld (c : Nat) (f : Str) (t : T)
inductive Out (α : Type) where
  | ok (a : α) (h : Store) | ex (e : Ex) (h : Store) | bad
abbrev M (α : Type) := Env' → Store → Out α
def Out.bind {α β : Type} : Out α → (α → Store → Out β) → Out β
  | .ok a h, k => k a h
  | .ex e h, _ => .ex e h
  | .bad, _ => .bad
@[simp] theorem bind_ok {α β : Type} (a : α) (h : Store) (k : α → Store → Out β) : (Out.ok a h).bind k = k a h := rfl
@[simp] theorem bind_ex {α β : Type} (e : Ex) (h : Store) (k : α → Store → Out β) : (Out.ex e h).bind k = .ex e h := rfl
@[simp] theorem bind_bad {α β : Type} (k : α → Store → Out β) : Out.bad.bind k = .bad := rfl
def Out.ofO {α : Type} : Option α → Store → Out α
  | some a, h => .ok a h
  | none, _ => .bad
@[simp] theorem ofO_some {α : Type} (a : α) (h : Store) : Out.ofO (some a) h = .ok a h := rfl
@[simp] theorem ofO_none {α : Type} (h : Store) : (Out.ofO none h : Out α) = .bad := rfl
mutual
def T.pu : T → Bool
  | .loc _ => false
  | .adr _ _ _ _ => false
  | .fnc _ => false
  | .tup xs => pus xs
  | .lst xs => pus xs
  | .dct _ ts => pus ts
  | _ => true
def pus : List T → Bool
  | [] => true
  | x :: r => x.pu && pus r
end
structure Wd where
  rho : List Addr
  Phi : Hp
def SqF (K : PySem.W.Frag) (H : Hp) (p : Addr) (vs : List V) : Prop := (∃ o, H p = some (.frz o (.tup vs)) ∧ o.dict = none) ∨
  ∃ (o : Obj) (its : Array Value) (n : Nat), K.lookup p = some o ∧ (o.cls = .type "tuple" ∧ o.dict = none) ∧ o.data = .seq its n ∧ its.size ≤ sizeLine ∧ Vals vs its.toList
def FixR (K : PySem.W.Frag) (H : Hp) (p : Addr) (ks : List Str) (vs : List V) (n : Nat) : Prop := (∃ o, H p = some (.frz o (.dK ((ks.tail.map Sum.inr).zip vs))) ∧ ks.length = n + 1) ∨ (ks = [] ∧ SqF K H p vs)
mutual
def Rep (K : PySem.W.Frag) (ω : Wd) : T → V → Prop
  | .non, v => v = .non
  | .bl b, v => v = .bl b
  | .int i, v => v = .int i
  | .str s, v => v = .str s
  | .tup xs, v => ∃ p vs, v = .ref p ∧ SqT K ω.Phi p vs ∧ Reps K ω xs vs
  | .lst xs, v => ∃ p vs, v = .ref p ∧ ω.Phi p = some (.lst vs) ∧ Reps K ω xs vs
  | .loc n, v => ∃ p, v = .ref p ∧ ω.rho[n]? = some p
  | .scr ns, v => ∃ p, v = .ref p ∧ SqL K ω.Phi p (ns.map V.int)
  | .emp, v => ∃ p, v = .ref p ∧ ω.Phi p = some (.dK [])
  | .adr a d f ts, v => v = .ref a ∧ ∃ ws, (ts ≠ [] → ω.Phi d = some (.xd ([f].zip ws))) ∧ Reps K ω ts ws
  | .fnc x, v => v = .ref (He.ga K x)
  | .unk, v => ∃ z : Str, v = .str z
  | .dct ks ts, v => ∃ p vs, v = .ref p ∧ FixR K ω.Phi p ks vs ts.length ∧ Reps K ω ts vs
def Reps (K : PySem.W.Frag) (ω : Wd) : List T → List V → Prop
  | [], vs => vs = []
  | x :: r, vs => ∃ v vr, vs = v :: vr ∧ Rep K ω x v ∧ Reps K ω r vr
end
structure Gr (ω ω' : Wd) : Prop where
  pre : ω.rho <+: ω'.rho
  phi : ∀ a o, ω.Phi a = some o → ω'.Phi a = some o
theorem Gr.refl (ω : Wd) : Gr ω ω := ⟨List.prefix_refl _, fun _ _ h => h⟩
theorem Gr.trans {ω ω1 ω2 : Wd} (a : Gr ω ω1) (b : Gr ω1 ω2) : Gr ω ω2 := ⟨a.pre.trans b.pre, fun x o h => b.phi x o (a.phi x o h)⟩
theorem rd_mono {H H' : Hp} {p : Addr} {u : HO} (m : ∀ a o, H a = some o → H' a = some o) (r : Rd H p u) : Rd H' p u := by
  rcases r with r | ⟨o, r⟩
  · exact .inl (m _ _ r)
  · exact .inr ⟨o, m _ _ r⟩
theorem sqT_mono {K : PySem.W.Frag} {H H' : Hp} {p : Addr} {vs : List V} (m : ∀ a o, H a = some o → H' a = some o) (r : SqT K H p vs) : SqT K H' p vs := by
  rcases r with r | r
  · exact .inl (rd_mono m r)
  · exact .inr r
theorem fixR_mono {K : PySem.W.Frag} {H H' : Hp} {p : Addr} {ks : List Str} {vs : List V} {n : Nat} (m : ∀ a o, H a = some o → H' a = some o) (r : FixR K H p ks vs n) : FixR K H' p ks vs n := by
  rcases r with ⟨o, r, l⟩ | ⟨e, ⟨o, r, d⟩ | r⟩
  · exact .inl ⟨o, m _ _ r, l⟩
  · exact .inr ⟨e, .inl ⟨o, m _ _ r, d⟩⟩
  · exact .inr ⟨e, .inr r⟩
theorem sqL_mono {K : PySem.W.Frag} {H H' : Hp} {p : Addr} {vs : List V} (m : ∀ a o, H a = some o → H' a = some o) (r : SqL K H p vs) : SqL K H' p vs := by
  rcases r with r | r
  · exact .inl (rd_mono m r)
  · exact .inr r
section
variable {K : PySem.W.Frag} {ω ω' : Wd}
mutual
theorem Rep.mono (g : Gr ω ω') : ∀ {t : T} {v : V}, Rep K ω t v → Rep K ω' t v
  | .non, _, h => by simpa only [Rep] using h
  | .bl _, _, h => by simpa only [Rep] using h
  | .int _, _, h => by simpa only [Rep] using h
  | .str _, _, h => by simpa only [Rep] using h
  | .tup xs, _, h => by
    simp only [Rep] at h ⊢
    obtain ⟨p, vs, e, s, r⟩ := h
    exact ⟨p, vs, e, sqT_mono g.phi s, Reps.mono g r⟩
  | .lst xs, _, h => by
    simp only [Rep] at h ⊢
    obtain ⟨p, vs, e, s, r⟩ := h
    exact ⟨p, vs, e, g.phi _ _ s, Reps.mono g r⟩
  | .loc n, _, h => by
    simp only [Rep] at h ⊢
    obtain ⟨p, e, s⟩ := h
    obtain ⟨r, q⟩ := g.pre
    refine ⟨p, e, ?_⟩
    rw [← q, List.getElem?_append_left]
    · exact s
    · exact (List.getElem?_eq_some_iff.mp s).1
  | .scr ns, _, h => by
    simp only [Rep] at h ⊢
    obtain ⟨p, e, s⟩ := h
    exact ⟨p, e, sqL_mono g.phi s⟩
  | .fnc _, _, h => by simpa only [Rep] using h
  | .unk, _, h => by simpa only [Rep] using h
  | .adr a d f ts, _, h => by
    simp only [Rep] at h ⊢
    obtain ⟨e, ws, c, r⟩ := h
    exact ⟨e, ws, fun n => g.phi _ _ (c n), Reps.mono g r⟩
  | .emp, _, h => by
    simp only [Rep] at h ⊢
    obtain ⟨p, e, s⟩ := h
    exact ⟨p, e, g.phi _ _ s⟩
  | .dct ks ts, _, h => by
    simp only [Rep] at h ⊢
    obtain ⟨p, vs, e, s, r⟩ := h
    exact ⟨p, vs, e, fixR_mono g.phi s, Reps.mono g r⟩
theorem Reps.mono (g : Gr ω ω') : ∀ {ts : List T} {vs : List V}, Reps K ω ts vs → Reps K ω' ts vs
  | [], _, h => by simpa only [Reps] using h
  | x :: r, _, h => by
    simp only [Reps] at h ⊢
    obtain ⟨v, vr, e, a, b⟩ := h
    exact ⟨v, vr, e, Rep.mono g a, Reps.mono g b⟩
end
theorem Reps.length : ∀ {ts : List T} {vs : List V}, Reps K ω ts vs → ts.length = vs.length
  | [], _, h => by simp only [Reps] at h; rw [h]; rfl
  | x :: r, _, h => by
    simp only [Reps] at h
    obtain ⟨v, vr, e, a, b⟩ := h
    rw [e, List.length_cons, List.length_cons, Reps.length b]
theorem Reps.get : ∀ {ts : List T} {vs : List V} {i : Nat} {t : T}, Reps K ω ts vs → ts[i]? = some t → ∃ v, vs[i]? = some v ∧ Rep K ω t v
  | [], _, _, _, _, e => by simp at e
  | x :: r, _, i, t, h, e => by
    simp only [Reps] at h
    obtain ⟨v, vr, rfl, a, b⟩ := h
    cases i with
    | zero =>
      have e' : x = t := by simpa using e
      subst e'
      exact ⟨v, rfl, a⟩
    | succ i =>
      have e' : r[i]? = some t := by simpa using e
      obtain ⟨w, h1, h2⟩ := Reps.get b e'
      exact ⟨w, by simpa using h1, h2⟩
theorem Reps.getV : ∀ {ts : List T} {vs : List V} {i : Nat} {v : V}, Reps K ω ts vs → vs[i]? = some v → ∃ t, ts[i]? = some t ∧ Rep K ω t v
  | [], _, _, _, h, e => by simp only [Reps] at h; subst h; simp at e
  | x :: r, _, i, t, h, e => by
    simp only [Reps] at h
    obtain ⟨v, vr, rfl, a, b⟩ := h
    cases i with
    | zero =>
      have e' : v = t := by simpa using e
      subst e'
      exact ⟨x, rfl, a⟩
    | succ i =>
      have e' : vr[i]? = some t := by simpa using e
      obtain ⟨w, h1, h2⟩ := Reps.getV b e'
      exact ⟨w, by simpa using h1, h2⟩
theorem Reps.append : ∀ {ts us : List T} {vs ws : List V}, Reps K ω ts vs → Reps K ω us ws → Reps K ω (ts ++ us) (vs ++ ws)
  | [], _, _, _, h, q => by simp only [Reps] at h; subst h; exact q
  | x :: r, us, _, ws, h, q => by
    simp only [Reps] at h
    obtain ⟨v, vr, rfl, a, b⟩ := h
    show Reps K ω (x :: (r ++ us)) _
    simp only [Reps]
    exact ⟨v, vr ++ ws, rfl, a, Reps.append b q⟩
theorem Reps.one {t : T} {v : V} (h : Rep K ω t v) : Reps K ω [t] [v] := by
  simp only [Reps]
  exact ⟨v, [], rfl, h, rfl⟩
theorem Reps.nil : Reps K ω [] [] := by simp only [Reps]
theorem Reps.cons {t : T} {ts : List T} {v : V} {vs : List V} (h : Rep K ω t v) (q : Reps K ω ts vs) : Reps K ω (t :: ts) (v :: vs) := by
  simp only [Reps]
  exact ⟨v, vs, rfl, h, q⟩
theorem Reps.inv {t : T} {ts : List T} {vs : List V} (h : Reps K ω (t :: ts) vs) : ∃ v vr, vs = v :: vr ∧ Rep K ω t v ∧ Reps K ω ts vr := by
  simpa only [Reps] using h
theorem Reps.nil_inv {vs : List V} (h : Reps K ω [] vs) : vs = [] := by simpa only [Reps] using h
theorem Reps.take (n : Nat) : ∀ {ts : List T} {vs : List V}, Reps K ω ts vs → Reps K ω (ts.take n) (vs.take n) := by
  induction n with
  | zero => intro ts vs _; exact Reps.nil
  | succ n ih =>
    intro ts vs h
    cases ts with
    | nil => simp only [Reps] at h; subst h; exact Reps.nil
    | cons x r =>
      obtain ⟨v, vr, rfl, a, b⟩ := h.inv
      exact Reps.cons a (ih b)
theorem Reps.drop (n : Nat) : ∀ {ts : List T} {vs : List V}, Reps K ω ts vs → Reps K ω (ts.drop n) (vs.drop n) := by
  induction n with
  | zero => intro ts vs h; exact h
  | succ n ih =>
    intro ts vs h
    cases ts with
    | nil => simp only [Reps] at h; subst h; exact Reps.nil
    | cons x r =>
      obtain ⟨v, vr, rfl, a, b⟩ := h.inv
      exact ih b
theorem Reps.set {t : T} {v : V} (h : Rep K ω t v) : ∀ (n : Nat) {ts : List T} {vs : List V}, Reps K ω ts vs → Reps K ω (ts.set n t) (vs.set n v) := by
  intro n
  induction n with
  | zero =>
    intro ts vs q
    cases ts with
    | nil => simp only [Reps] at q; subst q; exact Reps.nil
    | cons x r =>
      obtain ⟨w, vr, rfl, a, b⟩ := q.inv
      exact Reps.cons h b
  | succ n ih =>
    intro ts vs q
    cases ts with
    | nil => simp only [Reps] at q; subst q; exact Reps.nil
    | cons x r =>
      obtain ⟨w, vr, rfl, a, b⟩ := q.inv
      exact Reps.cons a (ih b)
mutual
theorem Rep.pure (m : ∀ a o, ω.Phi a = some o → ω'.Phi a = some o) : ∀ {t : T} {v : V}, t.pu = true → Rep K ω t v → Rep K ω' t v
  | .non, _, _, h => by simpa only [Rep] using h
  | .bl _, _, _, h => by simpa only [Rep] using h
  | .int _, _, _, h => by simpa only [Rep] using h
  | .str _, _, _, h => by simpa only [Rep] using h
  | .tup xs, _, hp, h => by
    simp only [Rep] at h ⊢
    simp only [T.pu] at hp
    obtain ⟨p, vs, e, s, r⟩ := h
    exact ⟨p, vs, e, sqT_mono m s, Reps.pure m hp r⟩
  | .lst xs, _, hp, h => by
    simp only [Rep] at h ⊢
    simp only [T.pu] at hp
    obtain ⟨p, vs, e, s, r⟩ := h
    exact ⟨p, vs, e, m _ _ s, Reps.pure m hp r⟩
  | .loc n, _, hp, h => by simp [T.pu] at hp
  | .scr ns, _, _, h => by
    simp only [Rep] at h ⊢
    obtain ⟨p, e, s⟩ := h
    exact ⟨p, e, sqL_mono m s⟩
  | .adr _ _ _ _, _, hp, h => by simp [T.pu] at hp
  | .fnc _, _, hp, h => by simp [T.pu] at hp
  | .unk, _, _, h => by simpa only [Rep] using h
  | .emp, _, _, h => by
    simp only [Rep] at h ⊢
    obtain ⟨p, e, s⟩ := h
    exact ⟨p, e, m _ _ s⟩
  | .dct ks ts, _, hp, h => by
    simp only [Rep] at h ⊢
    simp only [T.pu] at hp
    obtain ⟨p, vs, e, s, r⟩ := h
    exact ⟨p, vs, e, fixR_mono m s, Reps.pure m hp r⟩
theorem Reps.pure (m : ∀ a o, ω.Phi a = some o → ω'.Phi a = some o) : ∀ {ts : List T} {vs : List V}, pus ts = true → Reps K ω ts vs → Reps K ω' ts vs
  | [], _, _, h => by simpa only [Reps] using h
  | x :: r, _, hp, h => by
    simp only [Reps] at h ⊢
    simp only [pus, Bool.and_eq_true] at hp
    obtain ⟨v, vr, e, a, b⟩ := h
    exact ⟨v, vr, e, Rep.pure m hp.1 a, Reps.pure m hp.2 b⟩
end
end
theorem nodup_at {α : Type} {N : List α} (hN : N.Nodup) {i j : Nat} {x : α} (a : N[i]? = some x) (b : N[j]? = some x) : i = j := by
  exact (List.getElem?_inj (List.getElem?_eq_some_iff.mp a).1 hN).mp (a.trans b.symm)
def RepKV {κ : Type} (K : PySem.W.Frag) (ω : Wd) : List (κ × T) → List (κ × V) → Prop
  | [], l => l = []
  | (k, t) :: r, l => ∃ v lr, l = (k, v) :: lr ∧ Rep K ω t v ∧ RepKV K ω r lr
theorem RepKV.mono {κ : Type} {K : PySem.W.Frag} {ω ω' : Wd} (g : Gr ω ω') : ∀ {a : List (κ × T)} {b : List (κ × V)}, RepKV K ω a b → RepKV K ω' a b
  | [], _, h => h
  | (k, t) :: r, _, ⟨v, lr, e, h1, h2⟩ => ⟨v, lr, e, h1.mono g, RepKV.mono g h2⟩
def puKV {κ : Type} (l : List (κ × T)) : Bool := l.all fun p => p.2.pu
theorem RepKV.pure {κ : Type} {K : PySem.W.Frag} {ω ω' : Wd} (m : ∀ a o, ω.Phi a = some o → ω'.Phi a = some o) : ∀ {a : List (κ × T)} {b : List (κ × V)}, puKV a = true → RepKV K ω a b → RepKV K ω' a b
  | [], _, _, h => h
  | (k, t) :: r, _, hp, ⟨v, lr, e, h1, h2⟩ => by
    simp only [puKV, List.all_cons, Bool.and_eq_true] at hp
    exact ⟨v, lr, e, h1.pure m hp.1, RepKV.pure m hp.2 h2⟩
abbrev DRow := List Int × Addr × V
def entI (x : List Int × Addr × Value) : DictEntry := ⟨reduceHash (Builtin.Tuple.tupleHashOf (x.1.map hashInt)), .ref x.2.1, x.2.2⟩
def DXp (a : Addr) (l : List DRow) (h : Heap) : Prop := ∃ xs : List (List Int × Addr × Value), Paired (fun (p : DRow) (q : List Int × Addr × Value) => p.1 = q.1 ∧ p.2.1 = q.2.1 ∧ RelV p.2.2 q.2.2) l xs ∧
  ∃ o es ep, h.get? a = some o ∧ o.ExactDict ∧ o.data = .dict es ep ∧ es.toList = xs.map entI ∧ (xs.map (·.1)).Nodup
def DX (a : Addr) (l : List DRow) : HO := .ext (DXp a l)
def RepKT (K : PySem.W.Frag) (ω : Wd) : List (List Int × T) → List DRow → Prop
  | [], l => l = []
  | (k, t) :: r, l => ∃ b v lr, l = (k, b, v) :: lr ∧ SqT K ω.Phi b (k.map V.int) ∧ Rep K ω t v ∧ RepKT K ω r lr
theorem RepKT.mono {K : PySem.W.Frag} {ω ω' : Wd} (g : Gr ω ω') : ∀ {a : List (List Int × T)} {b : List DRow}, RepKT K ω a b → RepKT K ω' a b
  | [], _, h => h
  | (k, t) :: r, _, ⟨b, v, lr, e, h1, h2, h3⟩ => ⟨b, v, lr, e, sqT_mono g.phi h1, h2.mono g, RepKT.mono g h3⟩
theorem RepKT.pure {K : PySem.W.Frag} {ω ω' : Wd} (m : ∀ a o, ω.Phi a = some o → ω'.Phi a = some o) : ∀ {a : List (List Int × T)} {b : List DRow}, puKV a = true → RepKT K ω a b → RepKT K ω' a b
  | [], _, _, h => h
  | (k, t) :: r, _, hp, ⟨b, v, lr, e, h1, h2, h3⟩ => by
    simp only [puKV, List.all_cons, Bool.and_eq_true] at hp
    exact ⟨b, v, lr, e, sqT_mono m h1, h2.pure m hp.1, RepKT.pure m hp.2 h3⟩
def encK (kvs : List (List Int × T)) : List (Str × T) := kvs.map fun x => (Str.empty, .tup [.tup (x.1.map T.int), x.2])
theorem ints_inj : ∀ {a b : List Int}, a.map T.int = b.map T.int → a = b
  | [], [], _ => rfl
  | [], _ :: _, h => by cases h
  | _ :: _, [], h => by cases h
  | x :: a, y :: b, h => by
    rw [List.map_cons, List.map_cons] at h
    injection h with h1 h2
    injection h1 with h1
    rw [h1, ints_inj h2]
theorem encK_inj : ∀ {a b : List (List Int × T)}, encK a = encK b → a = b
  | [], [], _ => rfl
  | [], _ :: _, h => by cases h
  | _ :: _, [], h => by cases h
  | (k, t) :: a, (k2, t2) :: b, h => by
    have h : (Str.empty, T.tup [.tup (k.map T.int), t]) :: encK a = (Str.empty, T.tup [.tup (k2.map T.int), t2]) :: encK b := h
    injection h with h1 h2
    injection h1 with _ h1
    injection h1 with h1
    injection h1 with h1 h3
    injection h1 with h1
    injection h3 with h3
    rw [ints_inj h1, h3, encK_inj h2]
def CellOk (K : PySem.W.Frag) (cl : Nat → Addr) (ω : Wd) (H : Hp) (p : Addr) : Cell → Prop
  | .lst xs => pus xs = true ∧ ∃ vs, H p = some (.lst vs) ∧ Reps K ω xs vs
  | .dK kvs => puKV kvs = true ∧ ∃ l, H p = some (.dK l) ∧ RepKV K ω kvs l
  | .dT kvs => (puKV kvs = true ∧ kvs.length ≤ 100000) ∧ ∃ l, ((H p = some (DX p l) ∧ (p == sysModules) = false) ∨ (l = [] ∧ H p = some (.dT []))) ∧ RepKT K ω kvs l
  | .dead => ∃ o, H p = some o ∧ ∀ fs, o ≠ .xd fs
  | .ins c fs => (c < 1000 ∧ ∃ dx l, H p = some (.ins (cl c) dx l) ∧ RepKV K ω fs l) ∨ (1000 ≤ c ∧ ∃ kvs l, fs = encK kvs ∧ kvs.length ≤ 100000 ∧ ((H p = some (DX p l) ∧ (p == sysModules) = false) ∨ (l = [] ∧ H p = some (.dT []))) ∧ RepKT K ω kvs l)
  | .tab P F => p = P ∧ ∃ ps, H p = some (.tbl ps) ∧ TriplesOk ps.toList ∧ ∀ pos cv, codeAmong pos ps.toList = some cv → ∃ c, cv = .ref c ∧ ω.Phi c = some (F c)
structure StOk (K : PySem.W.Frag) (cl : Nat → Addr) (ω : Wd) (h : Store) (H : Hp) : Prop where
  len : ω.rho.length = h.length
  nd : ω.rho.Nodup
  cells : ∀ (i : Nat) (c : Cell) (p : Addr), h[i]? = some c → ω.rho[i]? = some p → CellOk K cl ω H p c
  phi : ∀ a o, ω.Phi a = some o → H a = some o
  dis : ∀ (i : Nat) (p : Addr), ω.rho[i]? = some p → h[i]? = some .dead ∨ ω.Phi p = none
structure Nx (ω : Wd) (H : Hp) (ω' : Wd) (H' : Hp) : Prop extends Gr ω ω' where
  newR : ∀ p ∈ ω'.rho, p ∈ ω.rho ∨ H p = none
  /-- an exception's dict may be fixed when it is in hand -/
  newF : ∀ a o, ω'.Phi a = some o → ω.Phi a = some o ∨ H a = none ∨ (∃ fs, o = .xd fs) ∨ a ∈ ω.rho
  fr : ∀ a o, H a = some o → a ∉ ω.rho → H' a = some o
  dom : ∀ a, H' a = none → H a = none
theorem Nx.refl (ω : Wd) (H : Hp) : Nx ω H ω H := ⟨Gr.refl ω, fun _ h => .inl h, fun _ _ h => .inl h, fun _ _ h _ => h, fun _ h => h⟩
theorem Nx.trans {ω ω1 ω2 : Wd} {H H1 H2 : Hp} (a : Nx ω H ω1 H1) (b : Nx ω1 H1 ω2 H2) : Nx ω H ω2 H2 where
  toGr := a.toGr.trans b.toGr
  newR := fun p hp => (b.newR p hp).elim (fun q => a.newR p q) fun q => .inr (a.dom p q)
  newF := fun x o h => (b.newF x o h).elim (fun q => a.newF x o q) fun q => q.elim (fun q => .inr (.inl (a.dom x q))) fun q => q.elim (fun q => .inr (.inr (.inl q))) fun q => (a.newR x q).elim (fun q => .inr (.inr (.inr q))) fun q => .inr (.inl q)
  fr := fun x o h n => b.fr x o (a.fr x o h n) fun m => (a.newR x m).elim n fun q => by rw [q] at h; cases h
  dom := fun x h => a.dom x (b.dom x h)
section
variable {K : PySem.W.Frag} {cl : Nat → Addr} {ω : Wd} {h : Store} {H : Hp}
theorem StOk.at_ (S : StOk K cl ω h H) {i : Nat} {c : Cell} (e : h[i]? = some c) : ∃ p, ω.rho[i]? = some p ∧ CellOk K cl ω H p c := by
  have hl : i < ω.rho.length := by rw [S.len]; exact (List.getElem?_eq_some_iff.mp e).1
  exact ⟨ω.rho[i], List.getElem?_eq_getElem hl, S.cells i c _ e (List.getElem?_eq_getElem hl)⟩
theorem CellOk.hit {p : Addr} {c : Cell} (k : CellOk K cl ω H p c) : ∃ o, H p = some o := by
  cases c with
  | lst xs => obtain ⟨_, vs, e, _⟩ := k; exact ⟨_, e⟩
  | dK xs => obtain ⟨_, vs, e, _⟩ := k; exact ⟨_, e⟩
  | dT xs =>
    obtain ⟨_, vs, e, _⟩ := k
    rcases e with ⟨e, _⟩ | ⟨_, e⟩
    · exact ⟨_, e⟩
    · exact ⟨_, e⟩
  | dead => obtain ⟨o, e, _⟩ := k; exact ⟨o, e⟩
  | ins c xs =>
    rcases k with ⟨_, dx, vs, e, _⟩ | ⟨_, kvs, l, _, _, e, _⟩
    · exact ⟨_, e⟩
    · rcases e with ⟨e, _⟩ | ⟨_, e⟩
      · exact ⟨_, e⟩
      · exact ⟨_, e⟩
  | tab P F => obtain ⟨_, ps, e, _⟩ := k; exact ⟨_, e⟩
theorem StOk.somR (S : StOk K cl ω h H) {p : Addr} (hp : p ∈ ω.rho) : ∃ o, H p = some o := by
  obtain ⟨i, hi, e⟩ := List.getElem_of_mem hp
  have hi' : i < h.length := by rw [← S.len]; exact hi
  exact (S.cells i h[i] p (List.getElem?_eq_getElem hi') (by rw [List.getElem?_eq_getElem hi, e])).hit
theorem CellOk.move {ω' : Wd} {H' : Hp} {p : Addr} {c : Cell} (k : CellOk K cl ω H p c) (g : Gr ω ω') (e : ∀ o, H p = some o → H' p = some o) : CellOk K cl ω' H' p c := by
  cases c with
  | lst xs => obtain ⟨a, vs, q, r⟩ := k; exact ⟨a, vs, e _ q, r.mono g⟩
  | dK xs => obtain ⟨a, vs, q, r⟩ := k; exact ⟨a, vs, e _ q, r.mono g⟩
  | dT xs => obtain ⟨a, vs, q, r⟩ := k; exact ⟨a, vs, q.elim (fun z => .inl ⟨e _ z.1, z.2⟩) (fun z => .inr ⟨z.1, e _ z.2⟩), r.mono g⟩
  | dead => obtain ⟨o, q, n⟩ := k; exact ⟨o, e _ q, n⟩
  | ins c xs =>
    rcases k with ⟨a, dx, vs, q, r⟩ | ⟨a, kvs, l, b, d, q, r⟩
    · exact .inl ⟨a, dx, vs, e _ q, r.mono g⟩
    · exact .inr ⟨a, kvs, l, b, d, q.elim (fun z => .inl ⟨e _ z.1, z.2⟩) (fun z => .inr ⟨z.1, e _ z.2⟩), r.mono g⟩
  | tab P F =>
    obtain ⟨a, ps, q, t, r⟩ := k
    exact ⟨a, ps, e _ q, t, fun pos cv hc => let ⟨c, e1, e2⟩ := r pos cv hc; ⟨c, e1, g.phi _ _ e2⟩⟩
def Wd.fix (ω : Wd) (p : Addr) (o : HO) : Wd := ⟨ω.rho, upd ω.Phi p o⟩
def Wd.cell (ω : Wd) (p : Addr) : Wd := ⟨ω.rho ++ [p], ω.Phi⟩
theorem gr_fix {p : Addr} {o : HO} (n : ω.Phi p = none) : Gr ω (ω.fix p o) := ⟨List.prefix_refl _, fun a u e => by
  show upd ω.Phi p o a = _
  rw [upd_ne (ne_of_none e n)]
  exact e⟩
theorem gr_cell {p : Addr} : Gr ω (ω.cell p) := ⟨List.prefix_append _ _, fun _ _ e => e⟩
theorem StOk.fixIt (S : StOk K cl ω h H) {p : Addr} {o : HO} (e : H p = some o) (n : ω.Phi p = none) (nr : p ∉ ω.rho) : StOk K cl (ω.fix p o) h H where
  len := S.len
  nd := S.nd
  cells := fun i c q a b => (S.cells i c q a b).move (gr_fix n) fun _ z => z
  phi := fun a u z => by
    have z' : upd ω.Phi p o a = some u := z
    by_cases q : a = p
    · subst q; rw [upd_same] at z'; cases z'; exact e
    · rw [upd_ne q] at z'; exact S.phi a u z'
  dis := fun i q hq => (S.dis i q hq).imp id fun z => by
    show upd ω.Phi p o q = none
    rw [upd_ne (fun z : q = p => nr (by rw [← z]; exact List.mem_of_getElem? hq))]
    exact z
theorem Nx.fixIt {ω0 : Wd} {H0 : Hp} (N : Nx ω0 H0 ω H) {p : Addr} {o : HO} (n : ω.Phi p = none) (f : H0 p = none) : Nx ω0 H0 (ω.fix p o) H where
  toGr := N.toGr.trans (gr_fix n)
  newR := N.newR
  newF := fun a u z => by
    have z' : upd ω.Phi p o a = some u := z
    by_cases q : a = p
    · subst q; exact .inr (.inl f)
    · rw [upd_ne q] at z'; exact N.newF a u z'
  fr := N.fr
  dom := N.dom
theorem StOk.cellIt (S : StOk K cl ω h H) {p : Addr} {c : Cell} (k : CellOk K cl ω H p c) (n : ω.Phi p = none) (nr : p ∉ ω.rho) : StOk K cl (ω.cell p) (h ++ [c]) H where
  len := by show (ω.rho ++ [p]).length = _; simp [S.len]
  nd := by
    show (ω.rho ++ [p]).Nodup
    rw [List.nodup_append]
    refine ⟨S.nd, by simp, fun a ha b hb z => ?_⟩
    have : b = p := by simpa using hb
    subst this; subst z
    exact nr ha
  cells := fun i c' q a b => by
    have b' : (ω.rho ++ [p])[i]? = some q := b
    by_cases hi : i < h.length
    · rw [List.getElem?_append_left hi] at a
      rw [List.getElem?_append_left (by rw [S.len]; exact hi)] at b'
      exact (S.cells i c' q a b').move gr_cell fun _ z => z
    · have hi2 : i = h.length := by
        have := (List.getElem?_eq_some_iff.mp a).1
        simp at this; omega
      subst hi2
      rw [List.getElem?_append_right (Nat.le_refl _)] at a
      rw [List.getElem?_append_right (by rw [S.len]; exact Nat.le_refl _), S.len] at b'
      simp at a b'
      subst a; subst b'
      exact k.move gr_cell fun _ z => z
  phi := S.phi
  dis := fun i q hq => by
    have b : (ω.rho ++ [p])[i]? = some q := hq
    by_cases hi : i < h.length
    · rw [List.getElem?_append_left (by rw [S.len]; exact hi)] at b
      rw [List.getElem?_append_left hi]
      exact S.dis i q b
    · have lt := (List.getElem?_eq_some_iff.mp b).1
      rw [List.length_append, S.len] at lt
      have hi2 : i = h.length := by
        have : i < h.length + 1 := lt
        omega
      subst hi2
      rw [List.getElem?_append_right (by rw [S.len]; exact Nat.le_refl _), S.len] at b
      simp at b
      rw [← b]
      exact .inr n
theorem Nx.cellIt {ω0 : Wd} {H0 : Hp} (N : Nx ω0 H0 ω H) {p : Addr} (f : H0 p = none) : Nx ω0 H0 (ω.cell p) H where
  toGr := N.toGr.trans gr_cell
  newR := fun q hq => by
    have : q ∈ ω.rho ++ [p] := hq
    rcases List.mem_append.mp this with z | z
    · exact N.newR q z
    · have : q = p := by simpa using z
      rw [this]; exact .inr f
  newF := N.newF
  fr := N.fr
  dom := N.dom
theorem StOk.freshF (S : StOk K cl ω h H) {p : Addr} (n : H p = none) : ω.Phi p = none := by
  cases e : ω.Phi p with
  | none => rfl
  | some o => rw [S.phi p o e] at n; cases n
theorem StOk.freshR (S : StOk K cl ω h H) {p : Addr} (n : H p = none) : p ∉ ω.rho := fun m => by
  obtain ⟨o, e⟩ := S.somR m
  rw [n] at e; cases e
theorem StOk.lay (S : StOk K cl ω h H) {p : Addr} {o : HO} (n : H p = none) : StOk K cl ω h (upd H p o) where
  len := S.len
  nd := S.nd
  cells := fun i c q a b => (S.cells i c q a b).move (Gr.refl _) fun u z => by rw [upd_ne (ne_of_none z n)]; exact z
  phi := fun a u z => by rw [upd_ne (ne_of_none (S.phi a u z) n)]; exact S.phi a u z
  dis := S.dis
theorem nx_lay {p : Addr} {o : HO} (n : H p = none) : Nx ω H ω (upd H p o) where
  toGr := Gr.refl _
  newR := fun _ h => .inl h
  newF := fun _ _ h => .inl h
  fr := fun a u z _ => by rw [upd_ne (ne_of_none z n)]; exact z
  dom := fun a z => by
    by_cases q : a = p
    · rw [q]; exact n
    · rw [upd_ne q] at z; exact z
theorem StOk.newF (S : StOk K cl ω h H) {p : Addr} {o : HO} (n : H p = none) : StOk K cl (ω.fix p o) h (upd H p o) :=
  (S.lay n).fixIt upd_same (S.freshF n) (S.freshR n)
theorem nx_newF (S : StOk K cl ω h H) {p : Addr} {o : HO} (n : H p = none) : Nx ω H (ω.fix p o) (upd H p o) := (nx_lay n).fixIt (S.freshF n) n
theorem StOk.put (S : StOk K cl ω h H) {i : Nat} {p : Addr} {c c0 : Cell} {o : HO} (e0 : h[i]? = some c0) (nd0 : c0 ≠ .dead) (e : ω.rho[i]? = some p) (k : CellOk K cl ω (upd H p o) p c) : StOk K cl ω (h.set i c) (upd H p o) where
  len := by rw [List.length_set]; exact S.len
  nd := S.nd
  cells := fun j d q a b => by
    by_cases hij : i = j
    · subst hij
      have hi : i < h.length := by rw [← S.len]; exact (List.getElem?_eq_some_iff.mp e).1
      rw [List.getElem?_set_self hi] at a
      cases a
      rw [e] at b; cases b
      exact k
    · rw [List.getElem?_set_ne hij] at a
      refine (S.cells j d q a b).move (Gr.refl _) fun u z => ?_
      rw [upd_ne ?_]
      · exact z
      · intro z; subst z
        exact hij (nodup_at S.nd e b)
  phi := fun a u z => by
    rw [upd_ne ?_]
    · exact S.phi a u z
    · intro q; subst q
      rcases S.dis i _ e with w | w
      · rw [e0] at w
        cases w
        exact nd0 rfl
      · rw [w] at z; cases z
  dis := fun j q hq => by
    by_cases hij : i = j
    · subst hij
      rw [e] at hq
      cases hq
      rcases S.dis i _ e with w | w
      · rw [e0] at w
        cases w
        exact absurd rfl nd0
      · exact .inr w
    · rw [List.getElem?_set_ne hij]
      exact S.dis j q hq
theorem nx_put (S : StOk K cl ω h H) {i : Nat} {p : Addr} {o : HO} (e : ω.rho[i]? = some p) : Nx ω H ω (upd H p o) where
  toGr := Gr.refl _
  newR := fun _ h => .inl h
  newF := fun _ _ h => .inl h
  fr := fun a u z n => by rw [upd_ne (fun q : a = p => n (by rw [q]; exact List.mem_of_getElem? e))]; exact z
  dom := fun a z => by
    by_cases q : a = p
    · rw [q, upd_same] at z; cases z
    · rw [upd_ne q] at z; exact z
theorem StOk.alive (S : StOk K cl ω h H) {i : Nat} {p : Addr} {c : Cell} (e0 : h[i]? = some c) (nd0 : c ≠ .dead) (e : ω.rho[i]? = some p) : ω.Phi p = none := by
  rcases S.dis i _ e with w | w
  · rw [e0] at w
    cases w
    exact absurd rfl nd0
  · exact w
theorem StOk.freeze (S : StOk K cl ω h H) {i : Nat} {p : Addr} {xs : List T} {vs : List V} (e0 : h[i]? = some (.lst xs)) (e : ω.rho[i]? = some p) (hp : H p = some (.lst vs)) : StOk K cl (ω.fix p (.lst vs)) (h.set i .dead) H where
  len := by rw [List.length_set]; exact S.len
  nd := S.nd
  cells := fun j c q a b => by
    have n := S.alive e0 (fun z => by cases z) e
    by_cases hij : i = j
    · subst hij
      rw [List.getElem?_set_self (List.getElem?_eq_some_iff.mp e0).1] at a
      cases a
      have b' : ω.rho[i]? = some q := b
      rw [e] at b'
      cases b'
      exact ⟨_, hp, fun _ z => nomatch z⟩
    · rw [List.getElem?_set_ne hij] at a
      exact (S.cells j c q a b).move (gr_fix n) fun _ z => z
  phi := fun a u z => by
    have z' : upd ω.Phi p (.lst vs) a = some u := z
    by_cases q : a = p
    · subst q
      rw [upd_same] at z'
      cases z'
      exact hp
    · rw [upd_ne q] at z'
      exact S.phi a u z'
  dis := fun j q hq => by
    have hq' : ω.rho[j]? = some q := hq
    by_cases hij : i = j
    · subst hij
      exact .inl (List.getElem?_set_self (List.getElem?_eq_some_iff.mp e0).1)
    · rw [List.getElem?_set_ne hij]
      refine (S.dis j q hq').imp id fun z => ?_
      show upd ω.Phi p (.lst vs) q = none
      rw [upd_ne (fun w : q = p => hij (nodup_at S.nd e (by rw [hq', w])))]
      exact z
theorem nx_freeze (S : StOk K cl ω h H) {i : Nat} {p : Addr} {o : HO} (n : ω.Phi p = none) (e : ω.rho[i]? = some p) : Nx ω H (ω.fix p o) H where
  toGr := gr_fix n
  newR := fun _ h => .inl h
  newF := fun a u z => by
    have z' : upd ω.Phi p o a = some u := z
    by_cases q : a = p
    · subst q
      exact .inr (.inr (.inr (List.mem_of_getElem? e)))
    · rw [upd_ne q] at z'
      exact .inl z'
  fr := fun _ _ h _ => h
  dom := fun _ h => h
end
def XOk (K : PySem.W.Frag) (cl : Nat → Addr) (ω : Wd) (H : Hp) : Ex → Value → Option Addr → Prop
  | .txt c, cls, d => cls = .ref (cl c) ∧ d = none
  | .fld c f t, cls, d => cls = .ref (cl c) ∧ t.pu = true ∧ ∃ dx v, d = some dx ∧ H dx = some (.xd [(f, v)]) ∧ Rep K ω t v
def PostG (K : PySem.W.Frag) (cl : Nat → Addr) (W : WX) (ω : Wd) (H : Hp) (σ : L2.St) {α : Type} (o : Out α) (R : α → Store → Wd → Hp → Prop) : Prop :=
  match o with
  | .ok a h' => ∀ ω' H', Nx ω H ω' H' → StOk K cl ω' h' H' → R a h' ω' H'
  | .ex e h' => ∀ ω' H' cls d, Nx ω H ω' H' → StOk K cl ω' h' H' → XOk K cl ω' H' e cls d → W cls d σ H'
  | .bad => False
section
variable {K : PySem.W.Frag} {cl : Nat → Addr} {W : WX} {ω : Wd} {H : Hp} {σ : L2.St} {α β : Type}
theorem PostG.bind {o : Out α} {k : α → Store → Out β} {R : β → Store → Wd → Hp → Prop} (h : PostG K cl W ω H σ (o.bind k) R) :
    PostG K cl W ω H σ o fun a h1 ω1 H1 => PostG K cl W ω1 H1 σ (k a h1) R := by
  cases o with
  | bad => exact h
  | ex e h' => exact h
  | ok a h' =>
    intro ω1 H1 N1 S1
    have q : PostG K cl W ω H σ (k a h') R := h
    revert q
    cases k a h' with
    | bad => exact fun q => q
    | ex e h2 => exact fun q ω2 H2 cls d N2 S2 x => q ω2 H2 cls d (N1.trans N2) S2 x
    | ok b h2 => exact fun q ω2 H2 N2 S2 => q ω2 H2 (N1.trans N2) S2
theorem PostG.mono {o : Out α} {R R' : α → Store → Wd → Hp → Prop} (h : PostG K cl W ω H σ o R) (m : ∀ a h' ω' H', Nx ω H ω' H' → StOk K cl ω' h' H' → R a h' ω' H' → R' a h' ω' H') : PostG K cl W ω H σ o R' := by
  cases o with
  | bad => exact h
  | ex e h' => exact h
  | ok a h' => exact fun ω' H' N S => m a h' ω' H' N S (h ω' H' N S)
theorem PostG.ofO {o : Option α} {h : Store} {R : α → Store → Wd → Hp → Prop} (q : PostG K cl W ω H σ (Out.ofO o h) R) : ∃ a, o = some a ∧ ∀ ω' H', Nx ω H ω' H' → StOk K cl ω' h H' → R a h ω' H' := by
  cases o with
  | none => exact q.elim
  | some a => exact ⟨a, rfl, q⟩
end
def EnvOk (K : PySem.W.Frag) (ω : Wd) (env : Env') (σ : L2.St) : Prop := env.length = σ.length ∧ ∀ (i : Nat) (t : T), env[i]? = some (some t) → ∃ v : V, σ[i]? = some (some v) ∧ Rep K ω t v
theorem EnvOk.mono {K : PySem.W.Frag} {ω ω' : Wd} {env : Env'} {σ : L2.St} (e : EnvOk K ω env σ) (g : Gr ω ω') : EnvOk K ω' env σ :=
  ⟨e.1, fun i t h => let ⟨v, a, b⟩ := e.2 i t h; ⟨v, a, b.mono g⟩⟩
theorem EnvOk.set {K : PySem.W.Frag} {ω : Wd} {env : Env'} {σ : L2.St} (e : EnvOk K ω env σ) (i : Nat) {t : T} {v : V} (r : Rep K ω t v) : EnvOk K ω (env.set i (some t)) (σ.set i (some v)) := by
  refine ⟨by simp [e.1], fun j u h => ?_⟩
  by_cases q : i = j
  · subst q
    have hi : i < env.length := by
      have := (List.getElem?_eq_some_iff.mp h).1
      simpa using this
    rw [List.getElem?_set_self hi] at h
    cases h
    exact ⟨v, by rw [List.getElem?_set_self (by rw [← e.1]; exact hi)], r⟩
  · rw [List.getElem?_set_ne q] at h
    obtain ⟨w, a, b⟩ := e.2 j u h
    exact ⟨w, by rw [List.getElem?_set_ne q]; exact a, b⟩
theorem EnvOk.drop {K : PySem.W.Frag} {ω : Wd} {env : Env'} {σ : L2.St} (e : EnvOk K ω env σ) (i : Nat) : EnvOk K ω (env.set i none) σ := by
  refine ⟨by simp [e.1], fun j u h => ?_⟩
  by_cases q : i = j
  · subst q
    have hi : i < env.length := by
      have := (List.getElem?_eq_some_iff.mp h).1
      simpa using this
    rw [List.getElem?_set_self hi] at h
    cases h
  · rw [List.getElem?_set_ne q] at h
    exact e.2 j u h
variable (K : PySem.W.Frag) (cl : Nat → Addr) (W : WX)
def tE (m : M T) : TE := fun σ H Q => ∃ env h ω, EnvOk K ω env σ ∧ StOk K cl ω h H ∧ PostG K cl W ω H σ (m env h) fun t _ ω' H' => ∀ v, Rep K ω' t v → Q v H'
def tA (m : M (List T)) : TA := fun σ H Q => ∃ env h ω, EnvOk K ω env σ ∧ StOk K cl ω h H ∧ PostG K cl W ω H σ (m env h) fun ts _ ω' H' => ∀ vs, Reps K ω' ts vs → Q vs H'
def tT (m : M Bool) : TT := fun σ H Q => ∃ env h ω, EnvOk K ω env σ ∧ StOk K cl ω h H ∧ PostG K cl W ω H σ (m env h) fun b _ _ H' => Q b H'
def tN (m : M (List T)) : TE := fun σ H Q => ∃ env h ω, EnvOk K ω env σ ∧ StOk K cl ω h H ∧ PostG K cl W ω H σ (m env h) fun ts _ ω' H' => ∀ l vs, Reps K ω' ts vs → H' l = some (.lst vs) → ω'.Phi l = none → l ∉ ω'.rho → H l = none → Q (.ref l) H'
end Sm
namespace Sm
open PySem PySem.Spec PyProof.Rows L2
section
variable {X : Cx}
theorem _root_.L2.PE.weak {e : Expr} {t t' : TE} (h : PE X e t) (m : ∀ σ H Q, t' σ H Q → t σ H Q) : PE X e t' := ⟨fun pins s σ H Q I q => h.run pins s σ H Q I (m σ H Q q)⟩
theorem _root_.L2.PT.weak {e : Expr} {t t' : TT} (h : PT X e t) (m : ∀ σ H Q, t' σ H Q → t σ H Q) : PT X e t' := ⟨fun pins s σ H Q I q => h.run pins s σ H Q I (m σ H Q q)⟩
theorem _root_.L2.PW.weak {e : Expr} {t t' : TT} (h : PW X e t) (m : ∀ σ H Q, t' σ H Q → t σ H Q) : PW X e t' := ⟨fun wh pins s σ H Q I q => h.run wh pins s σ H Q I (m σ H Q q)⟩
theorem _root_.L2.PA.weak {e : List Expr} {t t' : TA} (h : PA X e t) (m : ∀ σ H Q, t' σ H Q → t σ H Q) : PA X e t' := ⟨fun pos pins s σ H Q I q => h.run pos pins s σ H Q I (m σ H Q q)⟩
theorem _root_.L2.PS.weak {e : Stmt} {t t' : TS} (h : PS X e t) (m : ∀ D σ H, t' D σ H → t D σ H) : PS X e t' := ⟨fun pins s σ H D I q => h.run pins s σ H D I (m D σ H q)⟩
theorem _root_.L2.PSs.weak {e : List Stmt} {t t' : TS} (h : PSs X e t) (m : ∀ D σ H, t' D σ H → t D σ H) : PSs X e t' := ⟨fun pins s σ H D I q => h.run pins s σ H D I (m D σ H q)⟩
end
@[simp] def lstOf (h : Store) : T → Option (List T)
  | .lst xs => some xs
  | .loc n => match h[n]? with
    | some (.lst xs) => some xs
    | _ => none
  | _ => none
@[simp] def tupOf : T → Option (List T)
  | .tup xs => some xs
  | _ => none
@[simp] def seqOf (h : Store) : T → Option (List T)
  | .tup xs => some xs
  | .scr ns => some (ns.map .int)
  | t => lstOf h t
section
variable {K : PySem.W.Frag} {cl : Nat → Addr} {ω : Wd} {h : Store} {H : Hp}
theorem lstOf_ok (S : StOk K cl ω h H) {t : T} {v : V} {xs : List T} (r : Rep K ω t v) (e : lstOf h t = some xs) : ∃ p vs, v = .ref p ∧ H p = some (.lst vs) ∧ Reps K ω xs vs := by
  cases t with
  | lst ys =>
    simp only [lstOf, Option.some.injEq] at e
    subst e
    simp only [Rep] at r
    obtain ⟨p, vs, a, b, c⟩ := r
    exact ⟨p, vs, a, S.phi _ _ b, c⟩
  | loc n =>
    simp only [Rep] at r
    obtain ⟨p, rfl, q⟩ := r
    simp only [lstOf] at e
    cases hn : h[n]? with
    | none => rw [hn] at e; cases e
    | some c =>
      rw [hn] at e
      cases c with
      | lst ys =>
        cases e
        obtain ⟨_, vs, a, b⟩ := S.cells n _ p hn q
        exact ⟨p, vs, rfl, a, b⟩
      | _ => cases e
  | _ => simp [lstOf] at e
theorem tupOf_ok (S : StOk K cl ω h H) {t : T} {v : V} {xs : List T} (r : Rep K ω t v) (e : tupOf t = some xs) : ∃ p vs, v = .ref p ∧ SqT K H p vs ∧ Reps K ω xs vs := by
  cases t with
  | tup ys =>
    simp only [tupOf, Option.some.injEq] at e
    subst e
    simp only [Rep] at r
    obtain ⟨p, vs, a, b, c⟩ := r
    exact ⟨p, vs, a, sqT_mono S.phi b, c⟩
  | _ => simp [tupOf] at e
theorem reps_ints : ∀ ns : List Int, Reps K ω (ns.map T.int) (ns.map V.int)
  | [] => by simp only [List.map_nil, Reps]
  | n :: r => by
    simp only [List.map_cons, Reps, Rep]
    exact ⟨_, _, rfl, rfl, reps_ints r⟩
theorem seqOf_ok (S : StOk K cl ω h H) {t : T} {v : V} {xs : List T} (r : Rep K ω t v) (e : seqOf h t = some xs) : ∃ p vs, v = .ref p ∧ (SqL K H p vs ∨ SqT K H p vs) ∧ Reps K ω xs vs := by
  cases t with
  | tup ys =>
    obtain ⟨p, vs, a, b, c⟩ := tupOf_ok (xs := xs) S r (by simpa [seqOf] using e)
    exact ⟨p, vs, a, .inr b, c⟩
  | scr ns =>
    simp only [seqOf, Option.some.injEq] at e
    subst e
    simp only [Rep] at r
    obtain ⟨p, a, b⟩ := r
    exact ⟨p, ns.map V.int, a, .inl (sqL_mono S.phi b), reps_ints ns⟩
  | _ =>
    obtain ⟨p, vs, a, b, c⟩ := lstOf_ok (xs := xs) S r e
    exact ⟨p, vs, a, .inl (SqL.of b), c⟩
theorem lst_at (S : StOk K cl ω h H) {n : Nat} {v : V} {xs : List T} (r : Rep K ω (.loc n) v) (e : h[n]? = some (.lst xs)) : ∃ p vs, v = .ref p ∧ ω.rho[n]? = some p ∧ H p = some (.lst vs) ∧ Reps K ω xs vs ∧ pus xs = true := by
  simp only [Rep] at r
  obtain ⟨p, rfl, q⟩ := r
  obtain ⟨a, vs, b, c⟩ := S.cells n _ p e q
  exact ⟨p, vs, rfl, q, b, c, a⟩
end
section
variable {X : Cx} {cl : Nat → Addr} {W : WX}
def mVar (i : Nat) : M T := fun env h => match env[i]? with
  | some (some t) => .ok t h
  | _ => .bad
def mC (t : T) : M T := fun _ h => .ok t h
theorem k_var {e : Expr} {i : Nat} (hp : PE X e (tVar i)) : PE X e (tE X.K cl W (mVar i)) := by
  refine hp.weak fun σ H Q ⟨env, h, ω, he, hs, q⟩ => ?_
  unfold mVar at q
  cases hi : env[i]? with
  | none => rw [hi] at q; exact q.elim
  | some o =>
    rw [hi] at q
    cases o with
    | none => exact q.elim
    | some t =>
      obtain ⟨v, e1, r⟩ := he.2 i t hi
      exact ⟨v, e1, q ω H (Nx.refl _ _) hs v r⟩
theorem k_const {e : Expr} {t : T} {v : V} (hp : PE X e (tC v)) (r : ∀ ω, Rep X.K ω t v) : PE X e (tE X.K cl W (mC t)) :=
  hp.weak fun σ H Q ⟨env, h, ω, he, hs, q⟩ => q ω H (Nx.refl _ _) hs v (r ω)
theorem k_int {i : Int} {j pos} : PE X (.Constant (.int i) j pos) (tE X.K cl W (mC (.int i))) := k_const pe_int fun _ => by simp only [Rep]
theorem k_bl {b : Bool} {j pos} : PE X (.Constant (.bool b) j pos) (tE X.K cl W (mC (.bl b))) := k_const pe_bl fun _ => by simp only [Rep]
theorem k_non {j pos} : PE X (.Constant .none j pos) (tE X.K cl W (mC .non)) := k_const pe_non fun _ => by simp only [Rep]
theorem k_str {x : Str} {j pos} : PE X (.Constant (.str x) j pos) (tE X.K cl W (mC (.str x))) := k_const pe_str fun _ => by simp only [Rep]
end
abbrev F2 := T → T → Store → Option T
abbrev F1 := T → Store → Option T
abbrev FA := List T → Store → Option T
def rV2 (K : PySem.W.Frag) (cl : Nat → Addr) (f : F2) : R2 := fun x y H Q => ∃ a b h ω t, StOk K cl ω h H ∧ Rep K ω a x ∧ Rep K ω b y ∧ f a b h = some t ∧ ∀ ω' H' v, Nx ω H ω' H' → StOk K cl ω' h H' → Rep K ω' t v → Q v H'
def rVA (K : PySem.W.Frag) (cl : Nat → Addr) (f : FA) : List V → Hp → VK → Prop := fun xs H Q => ∃ as h ω t, StOk K cl ω h H ∧ Reps K ω as xs ∧ f as h = some t ∧ ∀ ω' H' v, Nx ω H ω' H' → StOk K cl ω' h H' → Rep K ω' t v → Q v H'
def mBin (f : F2) (m n : M T) : M T := fun env h => (m env h).bind fun a h1 => (n env h1).bind fun b h2 => Out.ofO (f a b h2) h2
def mUn (f : F1) (m : M T) : M T := fun env h => (m env h).bind fun a h1 => Out.ofO (f a h1) h1
def mTst (m : M T) : M Bool := fun env h => (m env h).bind fun a h1 => match a with
  | .bl b => .ok b h1
  | _ => .bad
section
variable {X : Cx} {cl : Nat → Addr} {W : WX} {a b : Expr} {m n : M T} {f : F2} {pos : Pos}
theorem two_step {K : PySem.W.Frag} {σ : L2.St} {H : Hp} {Q : VK} (h : tE K cl W (mBin f m n) σ H Q) : tE K cl W m σ H fun x H1 => tE K cl W n σ H1 fun y H2 => rV2 K cl f x y H2 Q := by
  obtain ⟨env, h, ω, he, hs, q⟩ := h
  refine ⟨env, h, ω, he, hs, (PostG.bind q).mono fun tx h1 ω1 H1 N1 S1 q1 vx rx => ⟨env, h1, ω1, he.mono N1.toGr, S1, (PostG.bind q1).mono fun ty h2 ω2 H2 N2 S2 q2 vy ry => ?_⟩⟩
  obtain ⟨t, e, q3⟩ := q2.ofO
  exact ⟨tx, ty, h2, ω2, t, S2, rx.mono N2.toGr, ry, e, fun ω' H' v N S r => q3 ω' H' N S v r⟩
theorem k_bin {op : Operator} (ho : OpR X (binaryOp op) (rV2 X.K cl f)) (ha : PE X a (tE X.K cl W m)) (hb : PE X b (tE X.K cl W n)) : PE X (.BinOp a op b pos) (tE X.K cl W (mBin f m n)) :=
  (pe_op ho ha hb).weak fun _ _ _ h => two_step h
theorem k_cmp {op : CmpOp} (ho : OpR X (compareOp op) (rV2 X.K cl f)) (hm : behindInMarks op b = false) (ha : PE X a (tE X.K cl W m)) (hb : PE X b (tE X.K cl W n)) : PE X (.Compare a [op] [b] pos) (tE X.K cl W (mBin f m n)) :=
  (pe_cmpR ho ha hb hm).weak fun _ _ _ h => two_step h
theorem tst_step {K : PySem.W.Frag} {σ : L2.St} {H : Hp} {Q : Bool → Hp → Prop} (h : tT K cl W (mTst m) σ H Q) : tE K cl W m σ H fun x H' => ∃ k, x = .bl k ∧ Q k H' := by
  obtain ⟨env, h, ω, he, hs, q⟩ := h
  refine ⟨env, h, ω, he, hs, (PostG.bind q).mono fun tx h1 ω1 H1 N1 S1 q1 vx rx => ?_⟩
  cases tx with
  | bl b =>
    simp only [Rep] at rx
    exact ⟨b, rx, q1 ω1 H1 (Nx.refl _ _) S1⟩
  | _ => exact q1.elim
theorem kt_cmp {op : CmpOp} (ho : OpR X (compareOp op) (rV2 X.K cl f)) (hm : behindInMarks op b = false) (ha : PE X a (tE X.K cl W m)) (hb : PE X b (tE X.K cl W n)) : PT X (.Compare a [op] [b] pos) (tT X.K cl W (mTst (mBin f m n))) := by
  refine (pt_cmpR ho ha hb hm).weak fun σ H Q h => ?_
  exact two_step (tst_step h)
def truF : T → Store → Option Bool
  | .non, _ => some false
  | .bl b, _ => some b
  | .int i, _ => some (i != 0)
  | .str y, _ => if y.length ≤ sizeLine then some ((y.length : Int) != 0) else none
  | .tup xs, _ => some (!xs.isEmpty)
  | .lst xs, _ => some (!xs.isEmpty)
  | .loc n, h => match h[n]? with
    | some (.lst xs) => some (!xs.isEmpty)
    | _ => none
  | .scr _, _ => none
  | .emp, _ => none
  | .adr _ _ _ _, _ => none
  | .fnc _, _ => none
  | .unk, _ => none
  | .dct _ _, _ => none
def mTru (m : M T) : M Bool := fun env h => (m env h).bind fun a h1 => Out.ofO (truF a h1) h1
theorem Reps.empty {K : PySem.W.Frag} {ω : Wd} {xs : List T} {vs : List V} (r : Reps K ω xs vs) : (!xs.isEmpty) = !vs.isEmpty := by
  have := r.length
  cases xs <;> cases vs <;> simp_all
theorem truF_ok {K : PySem.W.Frag} {ω : Wd} {h : Store} {H : Hp} (S : StOk K cl ω h H) {t : T} {v : V} {k : Bool} (r : Rep K ω t v) (e : truF t h = some k) : TruV K v H k := by
  cases t with
  | non => simp only [Rep] at r; subst r; simp only [truF, Option.some.injEq] at e; exact e.symm
  | bl b => simp only [Rep] at r; subst r; simp only [truF, Option.some.injEq] at e; exact e.symm
  | int b => simp only [Rep] at r; subst r; simp only [truF, Option.some.injEq] at e; exact e.symm
  | str b =>
    simp only [Rep] at r; subst r
    simp only [truF] at e
    split at e
    · exact ⟨by assumption, by simpa using e.symm⟩
    · cases e
  | tup xs =>
    obtain ⟨p, vs, rfl, a, b⟩ := tupOf_ok (xs := xs) S r rfl
    simp only [truF, Option.some.injEq] at e
    exact .inr (.inl ⟨vs, a, by rw [← e]; exact b.empty⟩)
  | lst xs =>
    obtain ⟨p, vs, rfl, a, b⟩ := lstOf_ok (xs := xs) S r rfl
    simp only [truF, Option.some.injEq] at e
    exact .inl ⟨vs, SqL.of a, by rw [← e]; exact b.empty⟩
  | loc n =>
    simp only [truF] at e
    cases hn : h[n]? with
    | none => rw [hn] at e; cases e
    | some c =>
      rw [hn] at e
      cases c with
      | lst xs =>
        obtain ⟨p, vs, rfl, a, b⟩ := lstOf_ok (xs := xs) S r (by simp [lstOf, hn])
        simp only [Option.some.injEq] at e
        exact .inl ⟨vs, SqL.of a, by rw [← e]; exact b.empty⟩
      | _ => cases e
  | scr ns => simp [truF] at e
  | emp => simp [truF] at e
  | adr a d f ts => simp [truF] at e
  | fnc x => simp [truF] at e
  | unk => simp [truF] at e
  | dct ks ts => simp [truF] at e
theorem kt_tru {e : Expr} (h : PE X e (tE X.K cl W m)) (he : ∀ whole, isTrue e X.env whole = (do let v ← whole; standAt e.pos; holding [v] (truthy v)) := by intro _; rfl) : PT X e (tT X.K cl W (mTru m)) := by
  refine (pt_truth h he).weak fun σ H Q ⟨env, h, ω, he, hs, q⟩ => ?_
  refine ⟨env, h, ω, he, hs, (PostG.bind q).mono fun tx h1 ω1 H1 N1 S1 q1 vx rx => ?_⟩
  obtain ⟨k, e, q2⟩ := q1.ofO
  exact ⟨k, truF_ok S1 rx e, q2 ω1 H1 (Nx.refl _ _) S1⟩
def mAndT (m n : M Bool) : M Bool := fun env h => (m env h).bind fun a h1 => if a = true then n env h1 else .ok false h1
def mOrT (m n : M Bool) : M Bool := fun env h => (m env h).bind fun a h1 => if a = true then .ok true h1 else n env h1
def mNotT (m : M Bool) : M Bool := fun env h => (m env h).bind fun a h1 => .ok (!a) h1
variable {mb nb : M Bool} {rest : List Expr}
theorem kw_and1 (ha : PT X a (tT X.K cl W mb)) : PW X (.BoolOp .And [a] pos) (tT X.K cl W mb) := pw_and1 ha
theorem kw_or1 (ha : PT X a (tT X.K cl W mb)) : PW X (.BoolOp .Or [a] pos) (tT X.K cl W mb) := pw_or1 ha
theorem kw_and (ha : PT X a (tT X.K cl W mb)) (hb : PW X (.BoolOp .And (b :: rest) pos) (tT X.K cl W nb)) : PW X (.BoolOp .And (a :: b :: rest) pos) (tT X.K cl W (mAndT mb nb)) := by
  refine (pw_and ha hb).weak fun σ H Q ⟨env, h, ω, he, hs, q⟩ => ⟨env, h, ω, he, hs, (PostG.bind q).mono fun x h1 ω1 H1 N1 S1 q1 => ?_⟩
  cases x with
  | true => rw [if_pos rfl] at q1 ⊢; exact ⟨env, h1, ω1, he.mono N1.toGr, S1, q1⟩
  | false => rw [if_neg Bool.false_ne_true] at q1 ⊢; exact q1 ω1 H1 (Nx.refl _ _) S1
theorem kw_or (ha : PT X a (tT X.K cl W mb)) (hb : PW X (.BoolOp .Or (b :: rest) pos) (tT X.K cl W nb)) : PW X (.BoolOp .Or (a :: b :: rest) pos) (tT X.K cl W (mOrT mb nb)) := by
  refine (pw_or ha hb).weak fun σ H Q ⟨env, h, ω, he, hs, q⟩ => ⟨env, h, ω, he, hs, (PostG.bind q).mono fun x h1 ω1 H1 N1 S1 q1 => ?_⟩
  cases x with
  | true => rw [if_pos rfl] at q1 ⊢; exact q1 ω1 H1 (Nx.refl _ _) S1
  | false => rw [if_neg Bool.false_ne_true] at q1 ⊢; exact ⟨env, h1, ω1, he.mono N1.toGr, S1, q1⟩
theorem kt_bool (h : PW X a (tT X.K cl W mb)) : PT X a (tT X.K cl W mb) := h.pt
theorem kt_not (ha : PT X a (tT X.K cl W mb)) : PT X (.UnaryOp .Not a pos) (tT X.K cl W (mNotT mb)) := by
  refine (pt_not ha).weak fun σ H Q ⟨env, h, ω, he, hs, q⟩ => ⟨env, h, ω, he, hs, (PostG.bind q).mono fun x h1 ω1 H1 N1 S1 q1 => q1 ω1 H1 (Nx.refl _ _) S1⟩
def mAndV (m n : M T) : M T := fun env h => (m env h).bind fun a h1 => match a with
  | .bl c => if c = true then n env h1 else .ok (.bl false) h1
  | _ => .bad
def mOrV (m n : M T) : M T := fun env h => (m env h).bind fun a h1 => match a with
  | .bl c => if c = true then .ok (.bl true) h1 else n env h1
  | _ => .bad
def mNotV (m : M T) : M T := fun env h => (m env h).bind fun a h1 => match a with
  | .bl c => .ok (.bl (!c)) h1
  | _ => .bad
def mIf (c : M Bool) (m n : M T) : M T := fun env h => (c env h).bind fun a h1 => if a = true then m env h1 else n env h1
def mChain (f g : F2) (m n p : M T) : M T := fun env h => (m env h).bind fun a h1 => (n env h1).bind fun b h2 => (Out.ofO (f a b h2) h2).bind fun k h3 => match k with
  | .bl c => if c = true then (p env h3).bind fun d h4 => Out.ofO (g b d h4) h4 else .ok (.bl false) h3
  | _ => .bad
variable {g : F2} {p : M T} {c : Expr}
def mNil : M (List T) := fun _ h => .ok [] h
def mCons (m : M T) (r : M (List T)) : M (List T) := fun env h => (m env h).bind fun a h1 => (r env h1).bind fun as h2 => .ok (a :: as) h2
variable {e : Expr} {es : List Expr} {r : M (List T)}
theorem ka_nil : PA X [] (tA X.K cl W mNil) := pa_nil.weak fun σ H Q ⟨env, h, ω, he, hs, q⟩ => q ω H (Nx.refl _ _) hs [] Reps.nil
theorem ka_cons (ha : PE X e (tE X.K cl W m)) (hr : PA X es (tA X.K cl W r)) (hs : starEach (e :: es) X.env = (false, eval e X.env) :: starEach es X.env := by rfl) : PA X (e :: es) (tA X.K cl W (mCons m r)) := by
  refine (pa_cons ha hr hs).weak fun σ H Q ⟨env, h, ω, he, hs, q⟩ => ⟨env, h, ω, he, hs, (PostG.bind q).mono fun x h1 ω1 H1 N1 S1 q1 v rv => ⟨env, h1, ω1, he.mono N1.toGr, S1, (PostG.bind q1).mono fun xs h2 ω2 H2 N2 S2 q2 vs rvs => ?_⟩⟩
  exact q2 ω2 H2 (Nx.refl _ _) S2 _ (Reps.cons (rv.mono N2.toGr) rvs)
def mTup (r : M (List T)) : M T := fun env h => (r env h).bind fun ts h1 => if ts.length ≤ 10000 then .ok (.tup ts) h1 else .bad
theorem le_line {n : Nat} (h : n ≤ 10000) : n ≤ sizeLine := by rw [sizeLine_eq]; omega
theorem k_tup {x1} (hr : PA X es (tA X.K cl W r)) : PE X (.Tuple es x1 pos) (tE X.K cl W (mTup r)) := by
  refine (pe_tup hr).weak fun σ H Q ⟨env, h, ω, he, hs, q⟩ => ⟨env, h, ω, he, hs, (PostG.bind q).mono fun ts h1 ω1 H1 N1 S1 q1 vs rvs => ?_⟩
  split at q1
  · rename_i hl
    refine ⟨by rw [← rvs.length]; exact le_line hl, fun p hp => ?_⟩
    refine q1 _ _ (nx_newF S1 hp) (S1.newF hp) _ ?_
    simp only [Rep]
    exact ⟨p, vs, rfl, SqT.of upd_same, rvs.mono (gr_fix (S1.freshF hp))⟩
  · exact q1.elim
def mLst (r : M (List T)) : M (List T) := fun env h => (r env h).bind fun ts h1 => if ts.length ≤ 10000 then .ok ts h1 else .bad
theorem kn_lst (hr : PA X es (tA X.K cl W r)) : PE X (.List es pos) (tN X.K cl W (mLst r)) := by
  refine (pe_lst hr).weak fun σ H Q ⟨env, h, ω, he, hs, q⟩ => ⟨env, h, ω, he, hs, (((PostG.bind q).mono fun ts h1 ω1 H1 N1 S1 q1 vs rvs => ?_))⟩
  split at q1
  · rename_i hl
    refine ⟨by rw [← rvs.length]; exact le_line hl, fun p hp => ?_⟩
    exact q1 _ _ (nx_lay hp) (S1.lay hp) p vs rvs upd_same (S1.freshF hp) (S1.freshR hp) (N1.dom p hp)
  · exact q1.elim
def mFrz (r : M (List T)) : M T := fun env h => (r env h).bind fun ts h1 => .ok (.lst ts) h1
def mCell (r : M (List T)) : M T := fun env h => (r env h).bind fun ts h1 => if pus ts = true then .ok (.loc h1.length) (h1 ++ [.lst ts]) else .bad
theorem k_frz (h : PE X e (tN X.K cl W r)) : PE X e (tE X.K cl W (mFrz r)) := by
  refine h.weak fun σ H Q ⟨env, h, ω, he, hs, q⟩ => ⟨env, h, ω, he, hs, ?_⟩
  unfold mFrz at q
  revert q
  cases r env h with
  | bad => exact fun z => z
  | ex x h1 => exact fun z => z
  | ok ts h1 =>
    intro q ω1 H1 N1 S1 l vs rvs e1 n1 n2 f1
    refine q _ H1 (N1.fixIt (o := .lst vs) n1 f1) (S1.fixIt e1 n1 n2) _ ?_
    simp only [Rep]
    exact ⟨l, vs, rfl, upd_same, rvs.mono (gr_fix n1)⟩
theorem k_cell (h : PE X e (tN X.K cl W r)) : PE X e (tE X.K cl W (mCell r)) := by
  refine h.weak fun σ H Q ⟨env, h, ω, he, hs, q⟩ => ⟨env, h, ω, he, hs, ?_⟩
  unfold mCell at q
  revert q
  cases r env h with
  | bad => exact fun z => z
  | ex x h1 => exact fun z => z
  | ok ts h1 =>
    intro q ω1 H1 N1 S1 l vs rvs e1 n1 n2 f1
    simp only [Out.bind] at q
    split at q
    · rename_i hp
      refine q _ H1 (N1.cellIt f1) (S1.cellIt (c := .lst ts) ⟨hp, vs, e1, rvs⟩ n1 n2) _ ?_
      simp only [Rep]
      refine ⟨l, rfl, ?_⟩
      show (ω1.rho ++ [l])[h1.length]? = some l
      rw [List.getElem?_append_right (by rw [S1.len]; exact Nat.le_refl _), S1.len]
      simp
    · exact q.elim
end
end Sm
namespace Sm
open PySem PySem.Spec PyProof.Rows L2
def SqX (K : PySem.W.Frag) (H : Hp) (t : Bool) (a : Addr) (xs : List V) : Prop := cond t (SqT K H a xs) (SqL K H a xs)
def ItX (h : Heap) (t : Bool) (j a : Addr) (i : Nat) : Prop := cond t (h.IsTupleIter j a i) (h.IsListIter j a i)
def CtX (h : Heap) (t : Bool) (a : Addr) (us : Array Value) : Prop := cond t (h.IsTuple a us) (h.IsList a us)
def objX (t : Bool) (a : Addr) : Obj := { cls := .type (cond t "tuple_iterator" "list_iterator"), data := .fields #[.ref a, .int 0 0] }
section
variable {X : Cx} {pins : List (Addr × Obj)} {σ : L2.St} {H : Hp} {s : Shared} {t : Bool} {a j : Addr} {xs ys : List V} {h h' : Heap} {i : Nat}
theorem sqx_get (I : Inv X pins σ H s) : SqX X.K H t a xs → ∃ us : List Value, Vals xs us ∧ CtX s.heap t a us.toArray ∧ a < s.heap.objs.size := by
  intro q
  cases t
  · have ⟨us, r, p, _⟩ := I.list (show SqL X.K H a xs from q)
    exact ⟨us, r, p.isList, p.lt⟩
  · have ⟨us, r, p, _⟩ := I.tuple (show SqT X.K H a xs from q)
    have ⟨o, ho, _⟩ := p
    exact ⟨us, r, ⟨o, ho, ‹_›⟩, Heap.lt_size ho⟩
theorem sqx_inj (I : Inv X pins σ H s) : SqX X.K H t a xs → SqX X.K H t a ys → xs = ys := by
  cases t
  · exact fun q r => I.list_inj q r
  · exact fun q r => I.tuple_inj q r
theorem itx_at (q : ItX h t j a i) (k : ∀ o, h.get? j = some o → h'.get? j = some o) : ItX h' t j a i := by
  cases t
  · exact Heap.IsListIter.at q k
  · exact Heap.IsTupleIter.at q k
theorem itx_obj (q : ItX h t j a i) : ∃ o, h.get? j = some o ∧ ∀ v, o.data ≠ .cell v := by
  cases t <;> exact (let ⟨o, ho, _, hd⟩ := q; ⟨o, ho, fun v e => by rw [hd] at e; cases e⟩)
theorem drx (hh : X.A.handled = none) (hne : a ≠ j) (us : Array Value) : Draws X.prog X.w X.A.in1 j [j, a] us.size (fun i v => us[i]? = some v) (fun i h => ItX h t j a i ∧ CtX h t a us) := by
  cases t
  · exact Draws.list (A := X.A.in1) hh j a hne us
  · exact Draws.tuple (A := X.A.in1) hh j a hne us
theorem begx (us : Array Value) : Begins (.ref a) (objX t a) (fun h => CtX h t a us) := by
  cases t
  · exact begins_list a us
  · exact begins_tuple a us
theorem itx_new (e : h.get? j = some (objX t a)) : ItX h t j a 0 := by
  cases t <;> exact ⟨_, e, rfl, rfl⟩
theorem vals_at {us : List Value} (r : Vals xs us) {y : Value} (e : us.toArray[i]? = some y) : ∃ x, xs[i]? = some x ∧ RelV x y := by
  have hi : i < us.length := by
    have := (Array.getElem?_eq_some_iff.mp e).1
    simpa using this
  have hx : xs[i]? = some (xs[i]'(by rw [r.length]; exact hi)) := List.getElem?_eq_getElem _
  have ⟨u, hu, ru⟩ := r.get hx
  refine ⟨_, hx, ?_⟩
  have : us[i]? = some y := by simpa using e
  rw [hu] at this
  cases this
  exact ru
end
structure Tab where
  n : Nat
  row : Nat → List V → Prop
def rowIt (Rw : Hp → Tab → Prop) : It :=
  ⟨fun i H => ∃ b, Rw H b ∧ i < b.n, fun i H v H' => ∃ T xs, v = .ref T ∧ H T = none ∧ H' = upd H T (.tup xs) ∧ ∀ b, Rw H b → b.row i xs, fun i H => ∃ b, Rw H b ∧ i = b.n⟩
structure Giver (P : Program) (w : World) (K : PySem.W.Frag) (Rw : Hp → Tab → Prop) (fp : List Addr) (it : Addr) (tn : Nat → Heap → Prop) : Prop where
  mem : it ∈ fp
  obj : ∀ i h, tn i h → ∀ c ∈ fp, ∃ o, h.get? c = some o ∧ ∀ v, o.data ≠ .cell v
  keep : ∀ i h h', tn i h → (∀ c ∈ fp, ∀ o, h.get? c = some o → h'.get? c = some o) → tn i h'
  self : ∀ A i s Q E, tn i s.heap → Q (.ref it) s → wpAny (model P w) A (pyIter (.ref it)) Q E s
  uni : ∀ (X : Cx) pins σ H s b b', X.K = K → Inv X pins σ H s → Rw H b → Rw H b' → b = b'
  give : ∀ (X : Cx) pins σ H s b i, X.prog = P → X.w = w → X.K = K → X.A.handled = none → Inv X pins σ H s → tn i s.heap → Rw H b → ∃ fp' wr Pt St Mid, WalksT P w X.A it fp' wr b.n Pt St Mid ∧
    (∀ c ∈ wr, c ∈ fp) ∧ St i s.heap ∧ (∀ j h, St j h → tn j h) ∧ ∀ us, Pt i us → ∃ xs, Vals xs us.toList ∧ xs.length ≤ 3 ∧ b.row i xs
section
variable {P : Program} {w : World} {K : PySem.W.Frag} {Rw : Hp → Tab → Prop} {fp : List Addr} {it : Addr} {tn : Nat → Heap → Prop} {elts : List Expr} {kk : Nat} {tpos : Pos}
theorem Giver.turn (G : Giver P w K Rw fp it tn) : Turn P w K (.Tuple elts kk tpos) (rowIt Rw) fp it tn where
  mem := G.mem
  obj := G.obj
  keep := G.keep
  self := fun A i s Q E st h => G.self A i s Q E st h
  item := by
    intro X e1 e2 e3 hc i pins s σ H E I hf st ⟨b, hb, hi⟩
    have ⟨fp', wr, Pt, Sx, Mid, W, hw, st', back, hrow⟩ := G.give X pins σ H s b i e1 e2 e3 (I.ok.hd hc) I st hb
    refine W.item i s _ E hi st' fun T us h1 tk hP hT ht hm k1 => ⟨_, rfl, W.go elts kk tpos i T { s with heap := h1, toks := tk } _ E hm fun h2 st2 k2 => ?_⟩
    have ⟨xs, rx, hx, hr⟩ := hrow us hP
    have ⟨o, ho, hcl, m, hd⟩ := ht
    have ho2 := k2 T o (W.apart i T h1 hm) ho
    subst e1 e2
    refine ⟨.ref T, upd H T (.tup xs), I.turnedNew (t' := tk) (ch := fp) (fun c oc n e => k2 c oc (fun z => n (hw c z)) (k1 c oc (fun z => n (hw c z)) e)) hf hT ⟨Nat.le_trans hx (by decide), us.toList, rx, ⟨o, ho2, hcl, m, by rw [hd]⟩⟩, rfl, ⟨T, xs, rfl, I.hok.fresh hT, rfl, fun b' hb' => ?_⟩, back _ _ st2, fun c hcm => ?_⟩
    · rw [← G.uni X pins σ H s b b' e3 I hb hb']
      exact hr
    · have ⟨oc, hoc, _⟩ := G.obj i s.heap st c hcm
      rw [upd_ne (fun e => by rw [e] at hoc; exact absurd (Heap.lt_size hoc) (Nat.not_lt.mpr hT))]
      exact (hf c hcm).1
  done := by
    intro X e1 e2 e3 hc i pins s σ H E I hf st ⟨b, hb, hi⟩
    have ⟨fp', wr, Pt, Sx, Mid, W, hw, st', _⟩ := G.give X pins σ H s b i e1 e2 e3 (I.ok.hd hc) I st hb
    subst hi
    exact W.done s _ E st' fun h1 tk k1 => ⟨rfl, I.turnedL (t' := tk) (ch := fp) (fun c oc n e => k1 c oc (fun z => n (hw c z)) e) hf⟩
theorem Giver.begun {X : Cx} {pins : List (Addr × Obj)} {σ : L2.St} {H : Hp} {s : Shared} {h' : Heap} {R : It → Hp → Prop} (G : Giver X.prog X.w X.K Rw fp it tn) (I : Inv X pins σ H s) (k : ∀ c o, s.heap.get? c = some o → h'.get? c = some o)
    (st : tn 0 h') (hfp : ∀ c ∈ fp, s.heap.objs.size ≤ c) (q : R (rowIt Rw) H) : PIE X pins σ (.Tuple elts kk tpos) R (.ref it) { s with heap := h' } :=
  ⟨it, fp, tn, rowIt Rw, H, rfl, I.kept (t' := s.toks) k, G.turn, st, fun c m => I.fpOk (hfp c m) (I.hok.fresh (hfp c m)), q⟩
end
def enumHp (h : Heap) (o : Obj) : Heap := (h.push o).push { cls := .type "enumerate", data := .fields #[.none, .bool false, .ref h.objs.size, rawInt 0, .none, .none] }
set_option maxHeartbeats 1000000 in
theorem enum_made {v : Value} {o : Obj} {C : Heap → Prop} (B : Begins v o C) : Meets (Builtin.«enumerate.__new__» ⟨[.type "enumerate", v], []⟩) (fun _ R s => C s.heap ∧ R (.ok (.ret (.ref (s.heap.push o).objs.size))) { s with heap := enumHp s.heap o }) := by
  refine .of_wp fun P w A R s ⟨c, q⟩ => ?_
  have hsub := sub_enumerate
  have it1 : ∀ {A1 : Around} {E Q : Value → Shared → Prop}, Q (.ref s.heap.objs.size) { s with heap := s.heap.push o } → wpAny (model P w) A1 (pyIter v) Q E s := fun z => B.iter P w _ _ s _ c z
  cases s
  wp_walk using it1
  refine wpAny_stack_any fun _ => wpAny_pure ?_
  split
  · rename_i ty _ _ _ _ _
    cases ty == Value.type "enumerate" <;> (wp_walk using it1; exact ⟨_, rfl, q⟩)
  · wp_walk using it1
    exact ⟨_, rfl, q⟩
theorem enum_called {P : Program} {w : World} {A : Around} {E Q : Value → Shared → Prop} {s : Shared} {v : Value} {o : Obj} {C : Heap → Prop} (B : Begins v o C) (c : C s.heap)
    (q : ∀ h', IsEnum h' (s.heap.objs.size + 1) s.heap.objs.size 0 .none → h'.get? s.heap.objs.size = some o → (∀ b ob, s.heap.get? b = some ob → h'.get? b = some ob) → Q (.ref (s.heap.objs.size + 1)) { s with heap := h' }) :
    wpAny (model P w) A (call (.type "enumerate") [v]) Q E s := by
  have z : (s.heap.push o).objs.size = s.heap.objs.size + 1 := Heap.size_push ..
  have top : IsEnum (enumHp s.heap o) (s.heap.objs.size + 1) s.heap.objs.size 0 .none := by
    have e := Heap.get?_push_size (s.heap.push o) (o := { cls := .type "enumerate", data := .fields #[.none, .bool false, .ref s.heap.objs.size, rawInt 0, .none, .none] }) rfl
    rwa [z] at e
  refine callType_new F.called_enumerate (by decide) (F.typeCall_enumerate_1 _) (F.newCall_enumerate_1 _) (fun ob => F.args_object_init_2 ob _) F.entry_enumerate_new (enum_made B) ⟨c, ?_⟩
  show _ ∧ _
  rw [z]
  exact ⟨⟨_, top, rfl⟩, q _ top (Heap.get?_push_of_some _ (Heap.get?_push_size _ B.free)) fun b ob e => Heap.get?_push_of_some _ (Heap.get?_push_of_some _ e)⟩
def rwE (K : PySem.W.Frag) (t : Bool) (a : Addr) (H : Hp) (b : Tab) : Prop := ∃ xs, SqX K H t a xs ∧ b = ⟨xs.length, fun i r => ∃ x, xs[i]? = some x ∧ r = [.int (i : Nat), x]⟩
theorem enum_giver {P : Program} {w : World} {K : PySem.W.Frag} {t : Bool} {a e j : Addr} (n1 : a ≠ e) (n2 : a ≠ j) (n3 : e ≠ j) :
    Giver P w K (rwE K t a) [e, j] e (fun i h => (∃ old, IsEnum h e j (0 + (i : Int)) old) ∧ ItX h t j a i) where
  mem := List.mem_cons_self ..
  obj := by
    intro i h ⟨⟨old, he⟩, hj⟩
    exact List.forall_mem_cons.mpr ⟨⟨_, he, nofun⟩, List.forall_mem_cons.mpr ⟨itx_obj hj, nofun⟩⟩
  keep := fun i h h' ⟨⟨old, he⟩, hj⟩ k => ⟨⟨old, k e (by simp) _ he⟩, itx_at hj (k j (by simp))⟩
  self := fun A i s Q E ⟨⟨_, he⟩, _⟩ q => wpAny_pyIter_enum he q
  uni := by
    rintro X pins σ H s _ _ rfl I ⟨xs, q, rfl⟩ ⟨ys, r, rfl⟩
    rw [sqx_inj I q r]
  give := by
    rintro X pins σ H s _ i rfl rfl rfl hh I ⟨he, hj⟩ ⟨xs, q, rfl⟩
    have ⟨us, r, c, _⟩ := sqx_get I q
    have W := WalksT.enumFrom (A := X.A) 0 (drx (X := X) (t := t) hh n2 us.toArray) e n3 (by simp [n3, Ne.symm n1]) (List.mem_cons_self ..)
    rw [show us.toArray.size = xs.length by rw [r.length]; rfl] at W
    refine ⟨_, _, _, _, _, W, fun c m => m, ⟨he, hj, c⟩, fun k h st => ⟨st.1, st.2.1⟩, fun vs ⟨tk, y, e1, e2⟩ => ?_⟩
    have ⟨x, hx, rx⟩ := vals_at r e1
    subst e2
    exact ⟨[.int (i : Nat), x], .cons ⟨tk, by rw [Int.zero_add]⟩ (.cons rx .nil), by simp, x, hx, rfl⟩
def iEnumX (K : PySem.W.Frag) (ta : TA) : TI := fun σ H R => ta σ H fun vs H1 => ∃ t a xs, vs = [.ref a] ∧ SqX K H1 t a xs ∧ R (rowIt (rwE K t a)) H1
theorem pi_enumX {X : Cx} {e : Expr} {ta : TA} {p pos tpos : Pos} {elts : List Expr} {kk : Nat} (hg : Gl X "enumerate") (hm : X.mg "enumerate" = none) (ha : PA X [e] ta) (hs : starEach [e] X.env = [(false, eval e X.env)] := by rfl) :
    PI X (.Tuple elts kk tpos) (.Call (.Name "enumerate" p) [e] [] pos) (iEnumX X.K ta) := by
  constructor
  intro pins s σ H R I q0
  refine Call_ (ld_blt I hg hm boot_enumerate (PyProof.Rows.callWith_type1 (thn (ha.run pos pins s σ H _ I q0) fun us s1 ⟨vs, H1, I1, rr, t, a, xs, ex, hq, q⟩ => ?_) hs rfl))
  subst ex
  have ⟨u, eu, ru⟩ := rr.one
  subst eu
  cases ru
  have ⟨us, r, c, la⟩ := sqx_get I1 hq
  refine enum_called (begx us.toArray) c fun h' he hj k => wpAny_pyIter_enum he ((enum_giver (Nat.ne_of_lt (Nat.lt_succ_of_lt la)) (Nat.ne_of_lt la) (Nat.succ_ne_self _)).begun I1 k ⟨⟨_, he⟩, itx_new hj⟩ ?_ q)
  exact List.forall_mem_cons.mpr ⟨Nat.le_succ _, List.forall_mem_cons.mpr ⟨Nat.le_refl _, nofun⟩⟩
def rwZ (K : PySem.W.Frag) (t1 t2 : Bool) (a b : Addr) (H : Hp) (B : Tab) : Prop :=
  ∃ xs ys, SqX K H t1 a xs ∧ SqX K H t2 b ys ∧ B = ⟨min xs.length ys.length, fun i r => ∃ x y, xs[i]? = some x ∧ ys[i]? = some y ∧ r = [x, y]⟩
theorem zip_giver {P : Program} {w : World} {K : PySem.W.Frag} {t1 t2 : Bool} {a b z TI TO j1 j2 : Addr} (D : ZipSep2 z TI TO j1 j2 [j1, a] [j2, b]) (n1 : a ≠ j1) (n2 : b ≠ j2) :
    Giver P w K (rwZ K t1 t2 a b) [z, TI, TO, j1, j2] z (fun i h => IsZip h z TI TO .none ∧ IsTupOf2 h TI (.ref j1) (.ref j2) ∧ (∃ x y, IsTupOf2 h TO x y) ∧ ItX h t1 j1 a i ∧ ItX h t2 j2 b i) where
  mem := List.mem_cons_self ..
  obj := by
    intro i h ⟨hz, hI, ⟨x, y, hO⟩, h1, h2⟩
    simp only [List.forall_mem_cons]
    exact ⟨⟨_, hz, nofun⟩, ⟨_, hI, nofun⟩, ⟨_, hO, nofun⟩, itx_obj h1, itx_obj h2, nofun⟩
  keep := by
    intro i h h' ⟨hz, hI, ⟨x, y, hO⟩, h1, h2⟩ k
    simp only [List.forall_mem_cons] at k
    have ⟨kz, kI, kO, k1, k2, _⟩ := k
    exact ⟨kz _ hz, kI _ hI, ⟨x, y, kO _ hO⟩, itx_at h1 k1, itx_at h2 k2⟩
  self := fun A i s Q E st q => wpAny_pyIter_zip st.1 q
  uni := by
    rintro X pins σ H s _ _ rfl I ⟨xs, ys, q1, q2, rfl⟩ ⟨xs', ys', r1, r2, rfl⟩
    rw [sqx_inj I q1 r1, sqx_inj I q2 r2]
  give := by
    rintro X pins σ H s _ i rfl rfl rfl hh I ⟨hz, hI, hO, h1, h2⟩ ⟨xs, ys, q1, q2, rfl⟩
    have ⟨us, r1, c1, _⟩ := sqx_get I q1
    have ⟨ws, r2, c2, _⟩ := sqx_get I q2
    have W := WalksT.zipD2 (A := X.A) D (drx (X := X) (t := t1) hh n1 us.toArray) (drx (X := X) (t := t2) hh n2 ws.toArray)
    rw [show min us.toArray.size ws.toArray.size = min xs.length ys.length by rw [r1.length, r2.length]; rfl] at W
    refine ⟨_, _, _, _, _, W, ?_, ⟨hz, hI, hO, ⟨h1, c1⟩, h2, c2⟩, fun k h st => ⟨st.1, st.2.1, st.2.2.1, st.2.2.2.1.1, st.2.2.2.2.1⟩, fun vs ⟨y1, y2, e1, e2, e3⟩ => ?_⟩
    · simp only [List.forall_mem_cons]
      simp
    · have ⟨x1, hx1, rx1⟩ := vals_at r1 e1
      have ⟨x2, hx2, rx2⟩ := vals_at r2 e2
      subst e3
      exact ⟨[x1, x2], .cons rx1 (.cons rx2 .nil), by simp, x1, x2, hx1, hx2, rfl⟩
theorem lt_of_one {N : Nat} {a : Addr} (h : a < N) : ∀ c ∈ [a], c < N := List.forall_mem_cons.mpr ⟨h, nofun⟩
def iZipX (K : PySem.W.Frag) (ta : TA) : TI := fun σ H R => ta σ H fun vs H1 => ∃ t1 t2 a b xs ys, vs = [.ref a, .ref b] ∧ SqX K H1 t1 a xs ∧ SqX K H1 t2 b ys ∧ R (rowIt (rwZ K t1 t2 a b)) H1
theorem pi_zipX {X : Cx} {e e2 : Expr} {ta : TA} {p pos tpos : Pos} {elts : List Expr} {kk : Nat} (hg : Gl X "zip") (hm : X.mg "zip" = none) (ha : PA X [e, e2] ta)
    (hst : starEach [e, e2] X.env = (false, eval e X.env) :: starEach [e2] X.env := by rfl) (hpl : (backTo pos (starEach [e2] X.env)).any (·.1) = false := by rfl) :
    PI X (.Tuple elts kk tpos) (.Call (.Name "zip" p) [e, e2] [] pos) (iZipX X.K ta) := by
  constructor
  intro pins s σ H R I q0
  refine Call_ (ld_blt I hg hm PyProof.Rows.boot_zip (PyProof.Rows.callWith_type1 (thn (ha.run pos pins s σ H _ I q0) fun us s1 ⟨vs, H1, I1, rr, t1, t2, a, b, xs, ys, ex, d1, d2, q⟩ => ?_) hst hpl))
  subst ex
  obtain _ | ⟨ra, _ | ⟨rb, _ | _⟩⟩ := rr
  cases ra
  cases rb
  have ⟨us, r1, c1, la⟩ := sqx_get I1 d1
  have ⟨ws, r2, c2, lb⟩ := sqx_get I1 d2
  refine zip_begins2 (begx us.toArray) (begx ws.toArray) c1 c2 fun h' hz hI hO g1 g2 _ k => wpAny_pyIter_zip hz ?_
  refine (zip_giver (zip_sep2 (lt_of_one la) (lt_of_one lb)) (Nat.ne_of_lt la) (Nat.ne_of_lt (Nat.lt_succ_of_lt lb))).begun I1 k ⟨hz, hI, ⟨_, _, hO⟩, itx_new g1, itx_new g2⟩ ?_ q
  simp only [List.forall_mem_cons]
  exact ⟨Nat.le_add_right _ _, Nat.le_add_right _ _, Nat.le_add_right _ _, Nat.le_refl _, Nat.le_add_right _ _, nofun⟩
end Sm
namespace Sm
open PySem PySem.Spec PyProof.Rows L2
section
variable {K : PySem.W.Frag} {cl : Nat → Addr} {ω : Wd} {h : Store} {H : Hp}
theorem rep_int {i : Int} : Rep K ω (.int i) (.int i) := by simp only [Rep]
theorem rep_bl {i : Bool} : Rep K ω (.bl i) (.bl i) := by simp only [Rep]
theorem rep_str {i : Str} : Rep K ω (.str i) (.str i) := by simp only [Rep]
theorem rep_non : Rep K ω .non .non := by simp only [Rep]
theorem Rep.int_inv {i : Int} {v : V} (r : Rep K ω (.int i) v) : v = .int i := by simpa only [Rep] using r
theorem Rep.bl_inv {i : Bool} {v : V} (r : Rep K ω (.bl i) v) : v = .bl i := by simpa only [Rep] using r
theorem Rep.str_inv {i : Str} {v : V} (r : Rep K ω (.str i) v) : v = .str i := by simpa only [Rep] using r
theorem Rep.non_inv {v : V} (r : Rep K ω .non v) : v = .non := by simpa only [Rep] using r
theorem give_tup {Q : VK} {ts : List T} {vs : List V} (S : StOk K cl ω h H) (r : Reps K ω ts vs) (q : ∀ ω' H' v, Nx ω H ω' H' → StOk K cl ω' h H' → Rep K ω' (.tup ts) v → Q v H') {p : Addr} (hp : H p = none) : Q (.ref p) (upd H p (.tup vs)) := by
  refine q _ _ _ (nx_newF S hp) (S.newF hp) ?_
  simp only [Rep]
  exact ⟨p, vs, rfl, SqT.of upd_same, r.mono (gr_fix (S.freshF hp))⟩
theorem give_lst {Q : VK} {ts : List T} {vs : List V} (S : StOk K cl ω h H) (r : Reps K ω ts vs) (q : ∀ ω' H' v, Nx ω H ω' H' → StOk K cl ω' h H' → Rep K ω' (.lst ts) v → Q v H') {p : Addr} (hp : H p = none) : Q (.ref p) (upd H p (.lst vs)) := by
  refine q _ _ _ (nx_newF S hp) (S.newF hp) ?_
  simp only [Rep]
  exact ⟨p, vs, rfl, upd_same, r.mono (gr_fix (S.freshF hp))⟩
theorem Reps.flat {xs : List T} {vs : List V} (r : Reps K ω xs vs) (k : Nat) : Reps K ω (List.replicate k xs).flatten (List.replicate k vs).flatten := by
  induction k with
  | zero => exact Reps.nil
  | succ k ih =>
    rw [List.replicate_succ, List.replicate_succ, List.flatten_cons, List.flatten_cons]
    exact r.append ih
end
def mulB (i j : Int) : Bool := !(decide (Builtin.Int.intBits i > shortFactorBits) && decide (Builtin.Int.intBits j > shortFactorBits) && Builtin.Int.intTooBig (Builtin.Int.intBits i + Builtin.Int.intBits j))
theorem mulB_ok {i j : Int} (h : mulB i j = true) : IntMulOk i j := by
  unfold mulB at h
  unfold IntMulOk
  intro z
  rw [z] at h
  cases h
def intsOf? : List T → Option (List Int)
  | [] => some []
  | .int i :: r => (intsOf? r).map (i :: ·)
  | _ => none
def fAdd : F2
  | .int i, .int j, _ => some (.int (i + j))
  | .str i, .str j, _ => if i.length + j.length ≤ 100000 then some (.str (i ++ j)) else none
  | .tup xs, .tup ys, _ => if xs.length + ys.length ≤ 100000 then some (.tup (xs ++ ys)) else none
  | a, b, h => match lstOf h a, lstOf h b with
    | some xs, some ys => if xs.length + ys.length ≤ 100000 then some (.lst (xs ++ ys)) else none
    | _, _ => none
def fSub : F2
  | .int i, .int j, _ => some (.int (i - j))
  | _, _, _ => none
def fMul : F2
  | .int i, .int j, _ => if mulB i j = true then some (.int (i * j)) else none
  | .tup xs, .int k, _ => if xs ≠ [] ∧ 2 ≤ k ∧ k ≤ 100000 ∧ xs.length ≤ 40 then some (.tup (List.replicate k.toNat xs).flatten) else none
  | a, .int k, h => match lstOf h a with
    | some xs => if k < 100000 ∧ -100000 < k ∧ xs.length ≤ 100 then some (.lst (List.replicate k.toNat xs).flatten) else none
    | none => none
  | _, _, _ => none
def divB (j : Int) : Bool := decide (j ≠ 0) && decide (j.natAbs.log2 < 9000)
def fFdiv : F2
  | .int i, .int j, _ => if divB j = true then some (.int (i.fdiv j)) else none
  | _, _, _ => none
def fMod : F2
  | .int i, .int j, _ => if j ≠ 0 then some (.int (i.fmod j)) else none
  | _, _, _ => none
def fPow : F2
  | .int i, .int j, _ => if 0 ≤ j ∧ j ≤ 100000 ∧ i.natAbs < 2 ^ 64 then some (.int (i ^ j.toNat)) else none
  | _, _, _ => none
theorem line5 {n : Nat} (h : n ≤ 100000) : n ≤ sizeLine := by rw [sizeLine_eq]; omega
theorem ne_ite {α : Type} {c : Prop} [Decidable c] {x t : α} (h : (if c then some x else none) = some t) : c ∧ x = t := by
  split at h
  · exact ⟨by assumption, Option.some.inj h⟩
  · cases h
section
variable {X : Cx} {cl : Nat → Addr}
theorem o_sub : OpR X (binaryOp .Sub) (rV2 X.K cl fSub) := by
  intro pins s σ H x y v u Q I rx ry ⟨a, b, h, ω, t, S, ra, rb, e, q⟩
  unfold fSub at e
  split at e
  · rw [ra.int_inv] at rx; rw [rb.int_inv] at ry; cases e
    exact op_sub pins s σ H _ _ v u Q I rx ry ⟨_, _, rfl, rfl, q _ _ _ (Nx.refl _ _) S rep_int⟩
  · cases e
theorem o_mod : OpR X (binaryOp .Mod) (rV2 X.K cl fMod) := by
  intro pins s σ H x y v u Q I rx ry ⟨a, b, h, ω, t, S, ra, rb, e, q⟩
  unfold fMod at e
  split at e
  · rw [ra.int_inv] at rx; rw [rb.int_inv] at ry
    obtain ⟨c, rfl⟩ := ne_ite e
    exact op_modN pins s σ H _ _ v u Q I rx ry ⟨_, _, rfl, rfl, c, q _ _ _ (Nx.refl _ _) S rep_int⟩
  · cases e
theorem o_fdiv : OpR X (binaryOp .FloorDiv) (rV2 X.K cl fFdiv) := by
  intro pins s σ H x y v u Q I rx ry ⟨a, b, h, ω, t, S, ra, rb, e, q⟩
  unfold fFdiv at e
  split at e
  · rw [ra.int_inv] at rx; rw [rb.int_inv] at ry
    obtain ⟨c, rfl⟩ := ne_ite e
    obtain ⟨t1, rfl⟩ := rx
    obtain ⟨t2, rfl⟩ := ry
    simp only [divB, Bool.and_eq_true, decide_eq_true_eq] at c
    exact floordiv_int c.1 ⟨.int _, H, I.tok _, ⟨_, rfl⟩, q _ _ _ (Nx.refl _ _) S rep_int⟩ (.inl (PyProof.noPylong_of_log2 c.2))
  · cases e
theorem o_pow : OpR X (binaryOp .Pow) (rV2 X.K cl fPow) := by
  intro pins s σ H x y v u Q I rx ry ⟨a, b, h, ω, t, S, ra, rb, e, q⟩
  unfold fPow at e
  split at e
  · rw [ra.int_inv] at rx; rw [rb.int_inv] at ry
    obtain ⟨c, rfl⟩ := ne_ite e
    exact op_pow pins s σ H _ _ v u Q I rx ry ⟨_, _, rfl, rfl, ⟨c.1, by omega, c.2.2⟩, q _ _ _ (Nx.refl _ _) S rep_int⟩
  · cases e
theorem o_add : OpR X (binaryOp .Add) (rV2 X.K cl fAdd) := by
  intro pins s σ H x y v u Q I rx ry ⟨a, b, h, ω, t, S, ra, rb, e, q⟩
  unfold fAdd at e
  split at e
  · rw [ra.int_inv] at rx; rw [rb.int_inv] at ry; cases e
    exact op_add pins s σ H _ _ v u Q I rx ry ⟨_, _, rfl, rfl, q _ _ _ (Nx.refl _ _) S rep_int⟩
  · rw [ra.str_inv] at rx; rw [rb.str_inv] at ry
    obtain ⟨c, rfl⟩ := ne_ite e
    exact op_add_str pins s σ H _ _ v u Q I rx ry ⟨_, _, rfl, rfl, line5 c, q _ _ _ (Nx.refl _ _) S rep_str⟩
  · rename_i xs ys
    obtain ⟨c, rfl⟩ := ne_ite e
    obtain ⟨p, vs, rfl, b1, c1⟩ := tupOf_ok (xs := xs) S ra rfl
    obtain ⟨p2, vs2, rfl, b2, c2⟩ := tupOf_ok (xs := ys) S rb rfl
    have l1 := c1.length
    have l2 := c2.length
    refine op_catA pins s σ H _ _ v u Q I rx ry ⟨p, p2, vs, vs2, rfl, rfl, b1, b2, by rw [← l1, ← l2]; exact line5 c, fun e1 => ?_, fun n1 e2 => ?_, fun n1 n2 p hp => ?_⟩
    · have : xs = [] := by cases xs with | nil => rfl | cons _ _ => rw [e1] at l1; simp at l1
      subst this
      exact q _ _ _ (Nx.refl _ _) S rb
    · have : ys = [] := by cases ys with | nil => rfl | cons _ _ => rw [e2] at l2; simp at l2
      subst this
      refine q _ _ _ (Nx.refl _ _) S ?_
      rw [List.append_nil]
      exact ra
    · exact give_tup S (c1.append c2) q hp
  · split at e
    · rename_i xs ys ea eb
      obtain ⟨c, rfl⟩ := ne_ite e
      obtain ⟨p, vs, rfl, b1, c1⟩ := lstOf_ok S ra ea
      obtain ⟨p2, vs2, rfl, b2, c2⟩ := lstOf_ok S rb eb
      exact op_cat pins s σ H _ _ v u Q I rx ry ⟨p, p2, vs, vs2, rfl, rfl, b1, b2, by rw [← c1.length, ← c2.length]; exact line5 c, fun p hp => give_lst S (c1.append c2) q hp⟩
    · cases e
theorem op_many : OpR X (binaryOp .Mult) (fun x y H Q => ∃ l k xs, x = .ref l ∧ y = .int k ∧ SqT X.K H l xs ∧ xs ≠ [] ∧ 2 ≤ k ∧ k ≤ 100000 ∧ xs.length ≤ 40 ∧ ∀ p, H p = none → Q (.ref p) (upd H p (.tup (List.replicate k.toNat xs).flatten))) := by
  rintro pins s σ H _ _ v u Q I rx ry ⟨l, k, xs, rfl, rfl, tp, ne, k2, k5, few, q⟩
  cases rx
  have ⟨tk, ek⟩ := ry
  subst ek
  have ⟨its, r, ⟨o, at_l, cls_l, n, dat_l⟩, _⟩ := I.tuple tp
  rcases o with ⟨cls, dd, dat, sl⟩
  cases (show cls = _ from cls_l)
  cases (show dat = _ from dat_l)
  have lens := r.length
  have full : its ≠ [] := fun z => ne (List.length_eq_zero_iff.mp (by rw [lens, z]; rfl))
  have some_ : its.toArray.isEmpty = false := by
    rcases its with _ | ⟨a, b⟩
    · exact absurd rfl full
    · rfl
  have room : k.toNat * its.length ≤ 4000000 := by
    have a := Nat.mul_le_mul (show k.toNat ≤ 100000 by omega) (show its.length ≤ 40 by omega)
    omega
  have prod : ((its.toArray.size : Nat) : Int) * k = ((k.toNat * its.length : Nat) : Int) := by
    rw [List.size_toArray, Int.natCast_mul, Int.toNat_of_nonneg (by omega), Int.mul_comm]
  have e0 : (decide (k < -(2 ^ 63)) || decide (k ≥ 2 ^ 63)) = false := by simp; omega
  have e1 : (its.toArray.isEmpty || k == 1) = false := by rw [some_]; simp; omega
  have e2 : (decide (k ≤ 0) || its.toArray.isEmpty) = false := by rw [some_]; simp; omega
  have e3 : ¬ ((its.toArray.size : Nat) : Int) * k > (2 ^ 63 - 1) / 8 := by rw [prod]; omega
  have e4 : Builtin.Tuple.tupleTooMany (((its.toArray.size : Nat) : Int) * k) = false := by
    rw [prod]
    unfold Builtin.Tuple.tupleTooMany
    simp only [sizeLine_eq, decide_eq_false_iff_not]
    omega
  have flat : (List.replicate k.toNat its).flatten.length ≤ sizeLine := by rw [PyProof.Rows.lm_len_rep_flat, sizeLine_eq]; omega
  refine wpAny_binaryOp_repeat_ref (T := "tuple") (U := "int") (by decide) ⟨_, at_l, rfl⟩ (fun _ => typeIs_int _ k tk) noFill_tuple_mul F.fills_int_mul F.slot_int_rmul repeat_tuple F.slot_int_index.lookup ?_
  refine call_meets F.slot_int_rmul (typeIs_int s k tk) F.entry_int_rmul (F.args_int_rmul_2 _ _) (int_rmul_tuple k tk l its.toArray n dd sl) ⟨at_l, rfl, ⟨_, at_l, rfl⟩, ?_⟩
  refine call_meets F.slot_tuple_mul ⟨_, at_l, rfl⟩ F.entry_tuple_mul (F.args_tuple_mul_2 _ _) (tuple_mulW l its.toArray n dd sl k tk e0 e1 e2 e3 e4 (by rw [size_rep, List.size_toArray]; exact flat)) ⟨at_l, ?_⟩
  rw [size_rep]
  have laid : ObjOk X.prog X.w (upd H s.heap.objs.size (.tup (List.replicate k.toNat xs).flatten)) (s.heap.push { cls := .type "tuple", data := .seq (List.replicate k.toNat its).flatten.toArray }) s.heap.objs.size (.tup (List.replicate k.toNat xs).flatten) :=
    ⟨by rw [PyProof.Rows.lm_len_rep_flat, lens, sizeLine_eq]; omega, _, r.rep k.toNat, IsTup.new _ _⟩
  exact ⟨.ref s.heap.objs.size, _, I.laid (t' := s.toks) (fun _ _ z => Heap.get?_push_of_some _ z) (Nat.le_refl _) laid, rfl, q _ (I.hok.fresh (Nat.le_refl _))⟩
theorem o_mul : OpR X (binaryOp .Mult) (rV2 X.K cl fMul) := by
  intro pins s σ H x y v u Q I rx ry ⟨a, b, h, ω, t, S, ra, rb, e, q⟩
  unfold fMul at e
  split at e
  · rw [ra.int_inv] at rx; rw [rb.int_inv] at ry
    obtain ⟨c, rfl⟩ := ne_ite e
    obtain ⟨t1, rfl⟩ := rx
    obtain ⟨t2, rfl⟩ := ry
    exact mul_int ⟨.int _, H, I.tok _, ⟨_, rfl⟩, q _ _ _ (Nx.refl _ _) S rep_int⟩ (mulB_ok c)
  · rename_i xs k
    obtain ⟨c, rfl⟩ := ne_ite e
    rw [rb.int_inv] at ry
    obtain ⟨p, vs, rfl, b1, c1⟩ := tupOf_ok (xs := xs) S ra rfl
    have l1 := c1.length
    refine op_many pins s σ H _ _ v u Q I rx ry ⟨p, k, vs, rfl, rfl, b1, fun e => ?_, c.2.1, c.2.2.1, by rw [← l1]; exact c.2.2.2, fun p hp => give_tup S (c1.flat _) q hp⟩
    subst e
    exact c.1 (List.eq_nil_of_length_eq_zero (by rw [l1]; rfl))
  · split at e
    · rename_i k _ _ _ xs ea
      obtain ⟨c, rfl⟩ := ne_ite e
      rw [rb.int_inv] at ry
      obtain ⟨p, vs, rfl, b1, c1⟩ := lstOf_ok S ra ea
      refine op_rep pins s σ H _ _ v u Q I rx ry ⟨p, k, vs, rfl, rfl, b1, by omega, by omega, ?_, fun p hp => give_lst S (c1.flat _) q hp⟩
      rw [← c1.length, sizeLine_eq]
      have h1 : k.toNat ≤ 100000 := by omega
      have h2 : xs.length ≤ 100 := c.2.2
      have := Nat.mul_le_mul h2 h1
      omega
    · cases e
  · cases e
def rNew2 (K : PySem.W.Frag) (cl : Nat → Addr) (f : T → T → Store → Option (List T)) : R2 := fun x y H Q => ∃ a b h ω ts, StOk K cl ω h H ∧ Rep K ω a x ∧ Rep K ω b y ∧ f a b h = some ts ∧ ∀ p vs, Reps K ω ts vs → H p = none → Q (.ref p) (upd H p (.lst vs))
def fCat (a b : T) (h : Store) : Option (List T) := match lstOf h a, lstOf h b with
  | some xs, some ys => if xs.length + ys.length ≤ 100000 then some (xs ++ ys) else none
  | _, _ => none
def fRep (a b : T) (h : Store) : Option (List T) := match b with
  | .int k => match lstOf h a with
    | some xs => if k < 100000 ∧ -100000 < k ∧ xs.length ≤ 100 then some (List.replicate k.toNat xs).flatten else none
    | none => none
  | _ => none
theorem n_cat : OpR X (binaryOp .Add) (rNew2 X.K cl fCat) := by
  intro pins s σ H x y v u Q I rx ry ⟨a, b, h, ω, t, S, ra, rb, e, q⟩
  unfold fCat at e
  split at e
  · rename_i xs ys ea eb
    obtain ⟨c, rfl⟩ := ne_ite e
    obtain ⟨p, vs, rfl, b1, c1⟩ := lstOf_ok S ra ea
    obtain ⟨p2, vs2, rfl, b2, c2⟩ := lstOf_ok S rb eb
    exact op_cat pins s σ H _ _ v u Q I rx ry ⟨p, p2, vs, vs2, rfl, rfl, b1, b2, by rw [← c1.length, ← c2.length]; exact line5 c, fun p hp => q p _ (c1.append c2) hp⟩
  · cases e
theorem n_rep : OpR X (binaryOp .Mult) (rNew2 X.K cl fRep) := by
  intro pins s σ H x y v u Q I rx ry ⟨a, b, h, ω, t, S, ra, rb, e, q⟩
  unfold fRep at e
  split at e
  · rename_i k
    split at e
    · rename_i xs ea
      obtain ⟨c, rfl⟩ := ne_ite e
      rw [rb.int_inv] at ry
      obtain ⟨p, vs, rfl, b1, c1⟩ := lstOf_ok S ra ea
      refine op_rep pins s σ H _ _ v u Q I rx ry ⟨p, k, vs, rfl, rfl, b1, by omega, by omega, ?_, fun p hp => q p _ (c1.flat _) hp⟩
      rw [← c1.length, sizeLine_eq]
      have h1 : k.toNat ≤ 100000 := by omega
      have h2 : xs.length ≤ 100 := c.2.2
      have := Nat.mul_le_mul h2 h1
      omega
    · cases e
  · cases e
def mNew2 (f : T → T → Store → Option (List T)) (m n : M T) : M (List T) := fun env h => (m env h).bind fun a h1 => (n env h1).bind fun b h2 => Out.ofO (f a b h2) h2
theorem new2_step {K : PySem.W.Frag} {W : WX} {m n : M T} {f : T → T → Store → Option (List T)} {σ : L2.St} {H : Hp} {Q : VK} (h : tN K cl W (mNew2 f m n) σ H Q) : tE K cl W m σ H fun x H1 => tE K cl W n σ H1 fun y H2 => rNew2 K cl f x y H2 Q := by
  obtain ⟨env, h, ω, he, hs, q⟩ := h
  unfold mNew2 at q
  refine ⟨env, h, ω, he, hs, ?_⟩
  revert q
  cases m env h with
  | bad => exact fun z => z
  | ex x h1 => exact fun z => z
  | ok tx h1 =>
    intro q ω1 H1 N1 S1 vx rx
    refine ⟨env, h1, ω1, he.mono N1.toGr, S1, ?_⟩
    simp only [Out.bind] at q
    revert q
    cases n env h1 with
    | bad => exact fun z => z
    | ex x h1 => exact fun z ω2 H2 cls d N2 S2 x => z ω2 H2 cls d (N1.trans N2) S2 x
    | ok ty h2 =>
      intro q ω2 H2 N2 S2 vy ry
      simp only at q
      cases e : f tx ty h2 with
      | none => rw [e] at q; exact q.elim
      | some ts =>
        rw [e] at q
        refine ⟨tx, ty, h2, ω2, ts, S2, rx.mono N2.toGr, ry, e, fun p vs rv hp => ?_⟩
        exact q ω2 _ ((N1.trans N2).trans (nx_lay hp)) (S2.lay hp) p vs rv upd_same (S2.freshF hp) (S2.freshR hp) ((N1.trans N2).dom p hp)
theorem kn_bin {W : WX} {a b : Expr} {m n : M T} {pos : Pos} {op : Operator} {f : T → T → Store → Option (List T)} (ho : OpR X (binaryOp op) (rNew2 X.K cl f)) (ha : PE X a (tE X.K cl W m)) (hb : PE X b (tE X.K cl W n)) : PE X (.BinOp a op b pos) (tN X.K cl W (mNew2 f m n)) :=
  (pe_op ho ha hb).weak fun _ _ _ h => new2_step h
end
end Sm
namespace Sm
open PySem PySem.Spec PyProof.Rows L2
mutual
def dat : T → Option PyData
  | .non => some .none
  | .bl b => some (.bool b)
  | .int i => some (.int i)
  | .str s => some (.str s)
  | .tup xs => (dats xs).map .tuple
  | .lst xs => (dats xs).map .list
  | .loc _ => none
  | .scr _ => none
  | .emp => none
  | .adr _ _ _ _ => none
  | .fnc _ => none
  | .unk => none
  | .dct _ _ => none
def dats : List T → Option (List PyData)
  | [] => some []
  | x :: r => match dat x, dats r with
    | some d, some l => some (d :: l)
    | _, _ => none
end
def datS (h : Store) : T → Option PyData
  | .loc n => match h[n]? with
    | some (.lst xs) => (dats xs).map .list
    | _ => none
  | t => dat t
section
variable {K : PySem.W.Frag} {cl : Nat → Addr} {ω : Wd} {h : Store} {H : Hp}
mutual
theorem dat_ok (S : StOk K cl ω h H) : ∀ {t : T} {v : V} {d : PyData}, Rep K ω t v → dat t = some d → Dp K H v d
  | .non, v, d, r, e => by simp only [dat, Option.some.injEq] at e; subst e; rw [r.non_inv]; exact .non
  | .bl b, v, d, r, e => by simp only [dat, Option.some.injEq] at e; subst e; rw [r.bl_inv]; exact .bl b
  | .int i, v, d, r, e => by simp only [dat, Option.some.injEq] at e; subst e; rw [r.int_inv]; exact .int i
  | .str s, v, d, r, e => by simp only [dat, Option.some.injEq] at e; subst e; rw [r.str_inv]; exact .str s
  | .tup xs, v, d, r, e => by
    simp only [dat, Option.map_eq_some_iff] at e
    obtain ⟨ds, e1, rfl⟩ := e
    simp only [Rep] at r
    obtain ⟨p, vs, rfl, b, c⟩ := r
    exact .tup (sqT_mono S.phi b) (dats_ok S c e1)
  | .lst xs, v, d, r, e => by
    simp only [dat, Option.map_eq_some_iff] at e
    obtain ⟨ds, e1, rfl⟩ := e
    simp only [Rep] at r
    obtain ⟨p, vs, rfl, b, c⟩ := r
    exact .lst (SqL.of (S.phi _ _ b)) (dats_ok S c e1)
  | .loc n, v, d, r, e => by simp [dat] at e
  | .scr n, v, d, r, e => by simp [dat] at e
  | .emp, v, d, r, e => by simp [dat] at e
  | .adr _ _ _ _, v, d, r, e => by simp [dat] at e
  | .dct _ _, v, d, r, e => by simp [dat] at e
  | .fnc _, v, d, r, e => by simp [dat] at e
  | .unk, v, d, r, e => by simp [dat] at e
theorem dats_ok (S : StOk K cl ω h H) : ∀ {ts : List T} {vs : List V} {ds : List PyData}, Reps K ω ts vs → dats ts = some ds → DpAll K H vs ds
  | [], vs, ds, r, e => by
    simp only [dats, Option.some.injEq] at e
    subst e
    rw [r.nil_inv]
    exact .nil
  | x :: xs, vs, ds, r, e => by
    simp only [dats] at e
    split at e
    · rename_i d ds' e1 e2
      cases e
      obtain ⟨v, vr, rfl, a, b⟩ := r.inv
      exact .cons (dat_ok S a e1) (dats_ok S b e2)
    · cases e
end
theorem datS_ok (S : StOk K cl ω h H) {t : T} {v : V} {d : PyData} (r : Rep K ω t v) (e : datS h t = some d) : Dp K H v d := by
  cases t with
  | loc n =>
    simp only [datS] at e
    split at e
    · rename_i xs hn
      rw [Option.map_eq_some_iff] at e
      obtain ⟨ds, e1, rfl⟩ := e
      obtain ⟨p, vs, rfl, _, b, c, _⟩ := lst_at S r hn
      exact .lst (SqL.of b) (dats_ok S c e1)
    · cases e
  | _ => exact dat_ok S r (by simpa only [datS] using e)
end
def eqG (a b : T) (h : Store) : Option Bool := match datS h a, datS h b with
  | some d, some e => if SeqAt.shaped d = true ∧ SeqAt.shaped e = true then some (PyData.eqv d e) else none
  | _, _ => none
def eqB (a b : T) (h : Store) : Option Bool := match a, b with
  | .int i, .int j => some (decide (i = j))
  | .bl i, .bl j => some (decide (i = j))
  | .str i, .str j => some (decide (i = j))
  | a, b => eqG a b h
def fEq : F2 := fun a b h => (eqB a b h).map .bl
def fNe : F2 := fun a b h => (eqB a b h).map fun c => .bl (!c)
def cmpI (p : Int → Int → Bool) : F2
  | .int i, .int j, _ => some (.bl (p i j))
  | _, _, _ => none
def fLt : F2
  | .int i, .int j, _ => some (.bl (decide (i < j)))
  | .str i, .str j, _ => some (.bl (decide (i.cps.toList < j.cps.toList)))
  | .tup xs, .tup ys, _ => match intsOf? xs, intsOf? ys with
    | some ns, some ms => some (.bl (HT.lexLt ns ms))
    | _, _ => none
  | _, _, _ => none
def fLe : F2 := cmpI fun i j => decide (i ≤ j)
def fGt : F2 := cmpI fun i j => decide (j < i)
def fGe : F2 := cmpI fun i j => decide (j ≤ i)
def isNon : T → Bool
  | .non => true
  | _ => false
def fIs : F2
  | a, .non, _ => some (.bl (isNon a))
  | .bl a, .bl b, _ => some (.bl (decide (a = b)))
  | _, _, _ => none
def fIsNot : F2
  | a, .non, _ => some (.bl (!isNon a))
  | .bl a, .bl b, _ => some (.bl (!decide (a = b)))
  | _, _, _ => none
def flatT : T → Bool
  | .non => true
  | .bl _ => true
  | .int _ => true
  | .str _ => true
  | _ => false
def eqT : T → T → Bool
  | .non, .non => true
  | .bl a, .bl b => a == b
  | .bl c, .int i => (if c then 1 else 0) == i
  | .int i, .bl c => i == (if c then 1 else 0)
  | .int a, .int b => a == b
  | .str a, .str b => a == b
  | _, _ => false
def inT (x : T) (xs : List T) : Bool := xs.any fun y => eqT y x
def inG (a b : T) (h : Store) : Option Bool := match datS h a, datS h b with
  | some d, some (.list ds) => if SeqAt.shaped d = true ∧ SeqAt.shaped (.list ds) = true then some (ds.any fun z => PyData.eqv z d) else none
  | _, _ => none
def fNotIn : F2 := fun a b h => match b with
  | .str z => match a with
    | .str w => match w.cps.toList with
      | [c] => some (.bl (!decide (c ∈ z.cps.toList)))
      | _ => none
    | _ => none
  | b => match seqOf h b with
    | some xs => if flatT a = true ∧ xs.all flatT = true then some (.bl (!inT a xs)) else (inG a b h).map fun c => .bl (!c)
    | none => none
section
variable {K : PySem.W.Frag} {ω : Wd}
theorem Rep.nonIff {t : T} {v : V} (r : Rep K ω t v) : decide (v = .non) = isNon t := by
  cases t with
  | non => rw [r.non_inv]; rfl
  | bl b => rw [r.bl_inv]; rfl
  | int b => rw [r.int_inv]; rfl
  | str b => rw [r.str_inv]; rfl
  | tup xs => simp only [Rep] at r; obtain ⟨p, vs, rfl, _⟩ := r; rfl
  | lst xs => simp only [Rep] at r; obtain ⟨p, vs, rfl, _⟩ := r; rfl
  | loc n => simp only [Rep] at r; obtain ⟨p, rfl, _⟩ := r; rfl
  | scr n => simp only [Rep] at r; obtain ⟨p, rfl, _⟩ := r; rfl
  | emp => simp only [Rep] at r; obtain ⟨p, rfl, _⟩ := r; rfl
  | adr a d f ts => simp only [Rep] at r; obtain ⟨rfl, _⟩ := r; rfl
  | fnc x => simp only [Rep] at r; subst r; rfl
  | unk => simp only [Rep] at r; obtain ⟨z, rfl⟩ := r; rfl
  | dct ks ts => simp only [Rep] at r; obtain ⟨p, vs, rfl, _⟩ := r; rfl
theorem Rep.flat {t : T} {v : V} (r : Rep K ω t v) (f : flatT t = true) : flatV v = true := by
  cases t with
  | non => rw [r.non_inv]; exact f
  | bl b => rw [r.bl_inv]; exact f
  | int b => rw [r.int_inv]; exact f
  | str b => rw [r.str_inv]; exact f
  | tup xs => simp only [Rep] at r; obtain ⟨p, vs, rfl, _⟩ := r; exact f
  | lst xs => simp only [Rep] at r; obtain ⟨p, vs, rfl, _⟩ := r; exact f
  | loc n => simp only [Rep] at r; obtain ⟨p, rfl, _⟩ := r; exact f
  | scr n => simp only [Rep] at r; obtain ⟨p, rfl, _⟩ := r; exact f
  | emp => simp only [Rep] at r; obtain ⟨p, rfl, _⟩ := r; exact f
  | adr a d f ts => simp only [Rep] at r; obtain ⟨rfl, _⟩ := r; exact f
  | fnc x => simp only [Rep] at r; subst r; exact f
  | unk => cases f
  | dct ks ts => simp only [Rep] at r; obtain ⟨p, vs, rfl, _⟩ := r; exact f
theorem Rep.eqv {t u : T} {v w : V} (r : Rep K ω t v) (q : Rep K ω u w) (f : flatT t = true) (g : flatT u = true) : eqV v w = eqT t u := by
  cases t <;> simp only [flatT, Bool.false_eq_true] at f <;> cases u <;> simp only [flatT, Bool.false_eq_true] at g <;>
    simp only [Rep] at r q <;> subst r <;> subst q <;> rfl
theorem Reps.allFlat : ∀ {ts : List T} {vs : List V}, Reps K ω ts vs → ts.all flatT = true → vs.all flatV = true
  | [], _, r, _ => by rw [r.nil_inv]; rfl
  | t :: ts, _, r, f => by
    obtain ⟨v, vr, rfl, a, b⟩ := r.inv
    rw [List.all_cons, Bool.and_eq_true] at f
    rw [List.all_cons, a.flat f.1, Reps.allFlat b f.2]
    rfl
theorem Reps.inV {t : T} {v : V} (q : Rep K ω t v) (f : flatT t = true) : ∀ {ts : List T} {vs : List V}, Reps K ω ts vs → ts.all flatT = true → L2.inV v vs = inT t ts
  | [], _, r, _ => by rw [r.nil_inv]; rfl
  | u :: ts, _, r, g => by
    obtain ⟨w, vr, rfl, a, b⟩ := r.inv
    rw [List.all_cons, Bool.and_eq_true] at g
    have ih := Reps.inV q f b g.2
    unfold L2.inV inT at ih ⊢
    rw [List.any_cons, List.any_cons, a.eqv q g.1 f, ih]
theorem Reps.ints : ∀ {ts : List T} {vs : List V} {ns : List Int}, Reps K ω ts vs → intsOf? ts = some ns → vs = ns.map V.int
  | [], _, ns, r, e => by
    simp only [intsOf?, Option.some.injEq] at e
    subst e
    exact r.nil_inv
  | t :: ts, _, ns, r, e => by
    obtain ⟨v, vr, rfl, a, b⟩ := r.inv
    cases t with
    | int i =>
      simp only [intsOf?, Option.map_eq_some_iff] at e
      obtain ⟨ms, e1, rfl⟩ := e
      rw [a.int_inv, Reps.ints b e1]
      rfl
    | _ => simp [intsOf?] at e
end
section
variable {X : Cx} {cl : Nat → Addr}
theorem eqB_ok (hu : X.A.units + 64 < cLine) {pins : List (Addr × Obj)} {s : Shared} {σ : L2.St} {H : Hp} {x y : V} {v u : Value} {Q : VK} {a b : T} {h : Store} {ω : Wd} {c : Bool} (I : Inv X pins σ H s) (rx : RelV x v) (ry : RelV y u)
    (S : StOk X.K cl ω h H) (ra : Rep X.K ω a x) (rb : Rep X.K ω b y) (e : eqB a b h = some c) (q : Q (.bl c) H) : wpAny (model X.prog X.w) X.A (compareOp .Eq v u) (EP X pins σ Q) X.xe s := by
  unfold eqB at e
  split at e
  · rw [ra.int_inv] at rx; rw [rb.int_inv] at ry; cases e
    exact op_eq pins s σ H _ _ v u Q I rx ry ⟨rfl, by simpa using q⟩
  · rw [ra.bl_inv] at rx; rw [rb.bl_inv] at ry; cases e
    exact op_eq pins s σ H _ _ v u Q I rx ry ⟨rfl, by simpa using q⟩
  · rw [ra.str_inv] at rx; rw [rb.str_inv] at ry; cases e
    exact op_eq pins s σ H _ _ v u Q I rx ry ⟨rfl, by simpa using q⟩
  · unfold eqG at e
    split at e
    · rename_i d d' e1 e2
      obtain ⟨c, rfl⟩ := ne_ite e
      exact op_eqD hu pins s σ H _ _ v u Q I rx ry ⟨d, d', datS_ok S ra e1, datS_ok S rb e2, c.1, c.2, q⟩
    · cases e
theorem neB_ok (hu : X.A.units + 64 < cLine) {pins : List (Addr × Obj)} {s : Shared} {σ : L2.St} {H : Hp} {x y : V} {v u : Value} {Q : VK} {a b : T} {h : Store} {ω : Wd} {c : Bool} (I : Inv X pins σ H s) (rx : RelV x v) (ry : RelV y u)
    (S : StOk X.K cl ω h H) (ra : Rep X.K ω a x) (rb : Rep X.K ω b y) (e : eqB a b h = some c) (q : Q (.bl (!c)) H) : wpAny (model X.prog X.w) X.A (compareOp .NotEq v u) (EP X pins σ Q) X.xe s := by
  unfold eqB at e
  split at e
  · rw [ra.int_inv] at rx; rw [rb.int_inv] at ry; cases e
    exact op_ne pins s σ H _ _ v u Q I rx ry ⟨rfl, by simpa using q⟩
  · rw [ra.bl_inv] at rx; rw [rb.bl_inv] at ry; cases e
    exact op_ne pins s σ H _ _ v u Q I rx ry ⟨rfl, by simpa using q⟩
  · rw [ra.str_inv] at rx; rw [rb.str_inv] at ry; cases e
    exact op_ne pins s σ H _ _ v u Q I rx ry ⟨rfl, by simpa using q⟩
  · unfold eqG at e
    split at e
    · rename_i d d' e1 e2
      obtain ⟨c, rfl⟩ := ne_ite e
      exact op_neD hu pins s σ H _ _ v u Q I rx ry ⟨d, d', datS_ok S ra e1, datS_ok S rb e2, c.1, c.2, q⟩
    · cases e
theorem o_eq (hu : X.A.units + 64 < cLine) : OpR X (compareOp .Eq) (rV2 X.K cl fEq) := by
  intro pins s σ H x y v u Q I rx ry ⟨a, b, h, ω, t, S, ra, rb, e, q⟩
  unfold fEq at e
  rw [Option.map_eq_some_iff] at e
  obtain ⟨c, e1, rfl⟩ := e
  exact eqB_ok hu I rx ry S ra rb e1 (q _ _ _ (Nx.refl _ _) S rep_bl)
theorem o_ne (hu : X.A.units + 64 < cLine) : OpR X (compareOp .NotEq) (rV2 X.K cl fNe) := by
  intro pins s σ H x y v u Q I rx ry ⟨a, b, h, ω, t, S, ra, rb, e, q⟩
  unfold fNe at e
  rw [Option.map_eq_some_iff] at e
  obtain ⟨c, e1, rfl⟩ := e
  exact neB_ok hu I rx ry S ra rb e1 (q _ _ _ (Nx.refl _ _) S rep_bl)
theorem o_cmpI {op : CmpOp} {p : Int → Int → Bool} (ho : OpR X (compareOp op) (rI0 fun i j => .bl (p i j))) : OpR X (compareOp op) (rV2 X.K cl (cmpI p)) := by
  intro pins s σ H x y v u Q I rx ry ⟨a, b, h, ω, t, S, ra, rb, e, q⟩
  unfold cmpI at e
  split at e
  · rw [ra.int_inv] at rx; rw [rb.int_inv] at ry; cases e
    exact ho pins s σ H _ _ v u Q I rx ry ⟨_, _, rfl, rfl, q _ _ _ (Nx.refl _ _) S rep_bl⟩
  · cases e
theorem o_le : OpR X (compareOp .LtE) (rV2 X.K cl fLe) := o_cmpI op_le
theorem o_gt : OpR X (compareOp .Gt) (rV2 X.K cl fGt) := o_cmpI op_gt
theorem o_ge : OpR X (compareOp .GtE) (rV2 X.K cl fGe) := o_cmpI op_ge
theorem o_lt (hu : X.A.units < cLine) : OpR X (compareOp .Lt) (rV2 X.K cl fLt) := by
  intro pins s σ H x y v u Q I rx ry ⟨a, b, h, ω, t, S, ra, rb, e, q⟩
  unfold fLt at e
  split at e
  · rw [ra.int_inv] at rx; rw [rb.int_inv] at ry; cases e
    exact op_lt pins s σ H _ _ v u Q I rx ry ⟨_, _, rfl, rfl, q _ _ _ (Nx.refl _ _) S rep_bl⟩
  · rw [ra.str_inv] at rx; rw [rb.str_inv] at ry; cases e
    exact op_lt_str pins s σ H _ _ v u Q I rx ry ⟨_, _, rfl, rfl, q _ _ _ (Nx.refl _ _) S rep_bl⟩
  · rename_i xs ys
    split at e
    · rename_i ns ms e1 e2
      cases e
      obtain ⟨p, vs, rfl, b1, c1⟩ := tupOf_ok (xs := xs) S ra rfl
      obtain ⟨p2, vs2, rfl, b2, c2⟩ := tupOf_ok (xs := ys) S rb rfl
      rw [c1.ints e1] at b1
      rw [c2.ints e2] at b2
      exact op_ltT hu pins s σ H _ _ v u Q I rx ry ⟨p, p2, ns, ms, rfl, rfl, b1, b2, q _ _ _ (Nx.refl _ _) S rep_bl⟩
    · cases e
  · cases e
theorem o_is : OpR X (compareOp .Is) (rV2 X.K cl fIs) := by
  intro pins s σ H x y v u Q I rx ry ⟨a, b, h, ω, t, S, ra, rb, e, q⟩
  unfold fIs at e
  split at e
  · rw [rb.non_inv] at ry; cases e
    exact op_isN pins s σ H _ _ v u Q I rx ry ⟨rfl, by rw [ra.nonIff]; exact q _ _ _ (Nx.refl _ _) S rep_bl⟩
  · rw [ra.bl_inv] at rx; rw [rb.bl_inv] at ry; cases e
    exact op_is_bl pins s σ H _ _ v u Q I rx ry ⟨_, _, rfl, rfl, q _ _ _ (Nx.refl _ _) S rep_bl⟩
  · cases e
theorem o_isnot : OpR X (compareOp .IsNot) (rV2 X.K cl fIsNot) := by
  intro pins s σ H x y v u Q I rx ry ⟨a, b, h, ω, t, S, ra, rb, e, q⟩
  unfold fIsNot at e
  split at e
  · rw [rb.non_inv] at ry; cases e
    exact op_notN pins s σ H _ _ v u Q I rx ry ⟨rfl, by rw [ra.nonIff]; exact q _ _ _ (Nx.refl _ _) S rep_bl⟩
  · rw [ra.bl_inv] at rx; rw [rb.bl_inv] at ry; cases e
    exact op_isnot_bl pins s σ H _ _ v u Q I rx ry ⟨_, _, rfl, rfl, q _ _ _ (Nx.refl _ _) S rep_bl⟩
  · cases e
theorem sign_of {w : Str} {c : Nat} (h : w.cps.toList = [c]) : w = ⟨#[c]⟩ := by
  cases w with
  | mk cps =>
    have : cps = #[c] := by
      apply Array.ext'
      simpa using h
    rw [this]
theorem o_notin (hu : X.A.units + 65 < cLine) : OpR X (compareOp .NotIn) (rV2 X.K cl fNotIn) := by
  intro pins s σ H x y v u Q I rx ry ⟨a, b, h, ω, t, S, ra, rb, e, q⟩
  unfold fNotIn at e
  split at e
  · rename_i z
    split at e
    · rename_i w
      split at e
      · rename_i c hc
        cases e
        rw [ra.str_inv] at rx; rw [rb.str_inv] at ry
        exact op_notIn_sign pins s σ H _ _ v u Q I rx ry ⟨c, z, by rw [sign_of hc], rfl, q _ _ _ (Nx.refl _ _) S rep_bl⟩
      · cases e
    · cases e
  · split at e
    · rename_i xs ea
      by_cases c : flatT a = true ∧ xs.all flatT = true
      · rw [if_pos c] at e
        cases e
        obtain ⟨p, vs, rfl, b1, c1⟩ := seqOf_ok S rb ea
        exact op_notIn_seq pins s σ H _ _ v u Q I rx ry ⟨p, vs, rfl, b1, ra.flat c.1, c1.allFlat c.2, by
          rw [if_pos rfl, Reps.inV ra c.1 c1 c.2]
          exact q _ _ _ (Nx.refl _ _) S rep_bl⟩
      · rw [if_neg c, Option.map_eq_some_iff] at e
        obtain ⟨w, e1, e2⟩ := e
        unfold inG at e1
        split at e1
        · rename_i d ds ed el
          obtain ⟨cs, ce⟩ := ne_ite e1
          refine op_notInD hu pins s σ H _ _ v u Q I rx ry ⟨d, ds, datS_ok S ra ed, datS_ok S rb el, cs.1, cs.2, ?_⟩
          rw [ce]
          refine q _ _ _ (Nx.refl _ _) S ?_
          rw [← e2]
          exact rep_bl
        · cases e1
    · cases e
end
end Sm
namespace Sm
open PySem PySem.Spec PyProof.Rows L2
def fIdx : F2 := fun a b h => match b with
  | .int i => match a with
    | .str z => if z.length ≤ 100000 then (atI z.cps.toList i).map fun c => .str ⟨#[c]⟩ else none
    | a => (seqOf h a).bind fun xs => atI xs i
  | _ => none
section
variable {K : PySem.W.Frag} {ω : Wd}
theorem Reps.atI {ts : List T} {vs : List V} {i : Int} {t : T} (r : Reps K ω ts vs) (e : L2.atI ts i = some t) : ∃ v, L2.atI vs i = some v ∧ Rep K ω t v := by
  unfold L2.atI at e ⊢
  rw [Option.bind_eq_some_iff] at e
  obtain ⟨j, e1, e2⟩ := e
  obtain ⟨v, e3, q⟩ := r.get e2
  refine ⟨v, ?_, q⟩
  rw [← r.length, Option.bind_eq_some_iff]
  exact ⟨j, e1, e3⟩
end
section
variable {X : Cx} {cl : Nat → Addr} {W : WX} {a b : Expr} {m n : M T} {pos : Pos}
theorem ix_ok : IxR X (rV2 X.K cl fIdx) := by
  intro value slice pins s σ H x y v u Q I rx ry ⟨a, b, h, ω, t, S, ra, rb, e, q⟩ hsub
  unfold fIdx at e
  split at e
  · rename_i i
    rw [rb.int_inv] at ry
    split at e
    · rename_i z
      obtain ⟨c, e⟩ : z.length ≤ 100000 ∧ (L2.atI z.cps.toList i).map (fun c => T.str ⟨#[c]⟩) = some t := by
        split at e
        · rename_i c; exact ⟨c, e⟩
        · cases e
      rw [Option.map_eq_some_iff] at e
      obtain ⟨k, e1, rfl⟩ := e
      rw [ra.str_inv] at rx
      exact ix_seq value slice pins s σ H _ _ v u Q I rx ry (.inr (.inr ⟨z, i, k, rfl, rfl, line5 c, e1, q _ _ _ (Nx.refl _ _) S rep_str⟩)) hsub
    · rw [Option.bind_eq_some_iff] at e
      obtain ⟨xs, e1, e2⟩ := e
      obtain ⟨p, vs, rfl, b1, c1⟩ := seqOf_ok S ra e1
      obtain ⟨w, e3, rw'⟩ := c1.atI e2
      have q' := q _ _ _ (Nx.refl _ _) S rw'
      rcases b1 with b1 | b1
      · exact ix_seq value slice pins s σ H _ _ v u Q I rx ry (.inl ⟨p, vs, i, w, rfl, rfl, b1, e3, q'⟩) hsub
      · exact ix_seq value slice pins s σ H _ _ v u Q I rx ry (.inr (.inl ⟨p, vs, i, w, rfl, rfl, b1, e3, q'⟩)) hsub
  · cases e
theorem k_idx (hs : PlainIx b) (ha : PE X a (tE X.K cl W m)) (hb : PE X b (tE X.K cl W n)) : PE X (.Subscript a b pos) (tE X.K cl W (mBin fIdx m n)) :=
  (pe_ix ix_ok ha hb hs).weak fun _ _ _ h => two_step h
def cutT (xs : List T) (lo hi : Option Int) : List T := (xs.drop (HT.sIx xs.length 0 lo)).take (HT.sIx xs.length xs.length hi - HT.sIx xs.length 0 lo)
theorem Reps.cut {K : PySem.W.Frag} {ω : Wd} {ts : List T} {vs : List V} (r : Reps K ω ts vs) (lo hi : Option Int) : Reps K ω (cutT ts lo hi) (cutV vs lo hi) := by
  unfold cutT cutV
  rw [r.length]
  exact (r.drop _).take _
def mPart : Option (M T) → M (Option Int)
  | none => fun _ h => .ok none h
  | some m => fun env h => (m env h).bind fun t h1 => match t with
    | .int i => .ok (some i) h1
    | _ => .bad
def tO (K : PySem.W.Frag) (cl : Nat → Addr) (W : WX) (m : M (Option Int)) : TO := fun σ H Q => ∃ env h ω, EnvOk K ω env σ ∧ StOk K cl ω h H ∧ PostG K cl W ω H σ (m env h) fun o _ _ H' => Q o H'
theorem _root_.L2.PO.weak {e : Option Expr} {t t' : TO} (h : PO X e t) (m : ∀ σ H Q, t' σ H Q → t σ H Q) : PO X e t' := ⟨fun pins s σ H Q I q => h.run pins s σ H Q I (m σ H Q q)⟩
theorem ko_none : PO X none (tO X.K cl W (mPart none)) := po_none.weak fun σ H Q ⟨env, h, ω, he, hs, q⟩ => q ω H (Nx.refl _ _) hs
theorem ko_some {e : Expr} (h : PE X e (tE X.K cl W m)) : PO X (some e) (tO X.K cl W (mPart (some m))) := by
  refine (po_some h).weak fun σ H Q ⟨env, h, ω, he, hs, q⟩ => ⟨env, h, ω, he, hs, (PostG.bind q).mono fun t h1 ω1 H1 N1 S1 q1 v r => ?_⟩
  cases t with
  | int i => exact ⟨i, r.int_inv, q1 ω1 H1 (Nx.refl _ _) S1⟩
  | _ => exact q1.elim
def fSl (a : T) (lo hi : Option Int) (h : Store) : Option T := match a with
  | .str z => if z.length ≤ 100000 then some (.str (Txt.slice z lo hi)) else none
  | .tup xs => some (.tup (cutT xs lo hi))
  | a => (lstOf h a).map fun xs => .lst (cutT xs lo hi)
def mSl (m : M T) (lo hi : M (Option Int)) : M T := fun env h => (m env h).bind fun a h1 => (lo env h1).bind fun l h2 => (hi env h2).bind fun u h3 => Out.ofO (fSl a l u h3) h3
theorem sl_any : SlR X (fun x lo hi H Q => ∃ a h ω t, StOk X.K cl ω h H ∧ Rep X.K ω a x ∧ fSl a lo hi h = some t ∧ ∀ ω' H' v, Nx ω H ω' H' → StOk X.K cl ω' h H' → Rep X.K ω' t v → Q v H') := by
  intro pins s σ H x v vl vu lo hi sl Q I rx hs pl pu ⟨a, h, ω, t, S, ra, e, q⟩
  unfold fSl at e
  split at e
  · rename_i z
    obtain ⟨c, rfl⟩ := ne_ite e
    rw [ra.str_inv] at rx
    exact C8.sl_txt pins s σ H _ v vl vu lo hi sl Q I rx hs pl pu ⟨z, rfl, line5 c, q _ _ _ (Nx.refl _ _) S rep_str⟩
  · rename_i xs
    cases e
    obtain ⟨p, vs, rfl, b1, c1⟩ := tupOf_ok (xs := xs) S ra rfl
    refine sl_tupA pins s σ H _ v vl vu lo hi sl Q I rx hs pl pu ⟨p, vs, rfl, b1, fun w => ?_, fun w p hp => give_tup S (c1.cut lo hi) q hp⟩
    have e1 : cutT xs lo hi = xs := by
      unfold cutT
      rw [c1.length, w.1, w.2, List.drop_zero, ← c1.length, Nat.sub_zero, List.take_length]
    rw [e1] at q
    exact q _ _ _ (Nx.refl _ _) S ra
  · rw [Option.map_eq_some_iff] at e
    obtain ⟨xs, e1, rfl⟩ := e
    obtain ⟨p, vs, rfl, b1, c1⟩ := lstOf_ok S ra e1
    exact sl_list pins s σ H _ v vl vu lo hi sl Q I rx hs pl pu ⟨p, vs, rfl, SqL.of b1, fun p hp => give_lst S (c1.cut lo hi) q hp⟩
theorem k_slice {lo hi : Option Expr} {ml mh : M (Option Int)} {p2 : Pos} (he : PE X a (tE X.K cl W m)) (hl : PO X lo (tO X.K cl W ml)) (hu : PO X hi (tO X.K cl W mh)) : PE X (.Subscript a (.Slice lo hi none p2) pos) (tE X.K cl W (mSl m ml mh)) := by
  refine (pe_slice (sl_any (cl := cl)) he hl hu).weak fun σ H Q ⟨env, h, ω, he, hs, q⟩ => ⟨env, h, ω, he, hs, (PostG.bind q).mono fun t h1 ω1 H1 N1 S1 q1 v r => ⟨env, h1, ω1, he.mono N1.toGr, S1, (PostG.bind q1).mono fun l h2 ω2 H2 N2 S2 q2 => ⟨env, h2, ω2, (he.mono N1.toGr).mono N2.toGr, S2, (PostG.bind q2).mono fun u h3 ω3 H3 N3 S3 q3 => ?_⟩⟩⟩
  obtain ⟨t', e, q4⟩ := q3.ofO
  exact ⟨t, h3, ω3, t', S3, (r.mono N2.toGr).mono N3.toGr, e, fun ω' H' v N S r => q4 ω' H' N S v r⟩
def mCallF (f : FA) (r : M (List T)) : M T := fun env h => (r env h).bind fun as h1 => Out.ofO (f as h1) h1
variable {r : M (List T)} {f : FA}
theorem callF_step {K : PySem.W.Frag} {σ : L2.St} {H : Hp} {Q : VK} (h : tE K cl W (mCallF f r) σ H Q) : tA K cl W r σ H fun vs H1 => rVA K cl f vs H1 Q := by
  obtain ⟨env, h, ω, he, hs, q⟩ := h
  refine ⟨env, h, ω, he, hs, (PostG.bind q).mono fun ts h1 ω1 H1 N1 S1 q1 vs rs => ?_⟩
  obtain ⟨t, e, q3⟩ := q1.ofO
  exact ⟨ts, h1, ω1, t, S1, rs, e, fun ω' H' v N S r => q3 ω' H' N S v r⟩
theorem k_callB {x : Str} {id : String} {p : Pos} {e : Expr} {es : List Expr} (hc : CallR X (.builtin id) (rVA X.K cl f)) (hg : Gl X x) (hm : X.mg x = none) (hv : bootBuiltins x = some (.builtin id)) (ha : PA X (e :: es) (tA X.K cl W r)) (hn : x ≠ "__name__" := by decide) (hdb : (x == ("__debug__" : Str)) = false := by decide)
    (he : starEach (e :: es) X.env = (false, eval e X.env) :: starEach es X.env := by rfl) (hpl : (backTo pos (starEach es X.env)).any (·.1) = false := by rfl) : PE X (.Call (.Name x p) (e :: es) [] pos) (tE X.K cl W (mCallF f r)) :=
  (pe_callB hc hg hm hv ha hn hdb he hpl).weak fun _ _ _ h => callF_step h
theorem k_callTy {x : Str} {Ty : String} {p : Pos} {e : Expr} {es : List Expr} (hc : CallR X (.type Ty) (rVA X.K cl f)) (hg : Gl X x) (hm : X.mg x = none) (hv : bootBuiltins x = some (.type Ty)) (ha : PA X (e :: es) (tA X.K cl W r)) (hn : x ≠ "__name__" := by decide) (hdb : (x == ("__debug__" : Str)) = false := by decide)
    (he : starEach (e :: es) X.env = (false, eval e X.env) :: starEach es X.env := by rfl) (hpl : (backTo pos (starEach es X.env)).any (·.1) = false := by rfl) : PE X (.Call (.Name x p) (e :: es) [] pos) (tE X.K cl W (mCallF f r)) :=
  (pe_callTy hc hg hm hv ha hn hdb he hpl).weak fun _ _ _ h => callF_step h
def blsOf? : List T → Option (List Bool)
  | [] => some []
  | .bl i :: r => (blsOf? r).map (i :: ·)
  | _ => none
theorem Reps.bls {K : PySem.W.Frag} {ω : Wd} : ∀ {ts : List T} {vs : List V} {ns : List Bool}, Reps K ω ts vs → blsOf? ts = some ns → vs = ns.map V.bl
  | [], _, ns, r, e => by
    simp only [blsOf?, Option.some.injEq] at e
    subst e
    exact r.nil_inv
  | t :: ts, _, ns, r, e => by
    obtain ⟨v, vr, rfl, a, b⟩ := r.inv
    cases t with
    | bl i =>
      simp only [blsOf?, Option.map_eq_some_iff] at e
      obtain ⟨ms, e1, rfl⟩ := e
      rw [a.bl_inv, Reps.bls b e1]
      rfl
    | _ => simp [blsOf?] at e
def maxL : List Int → Int
  | [] => 0
  | [x] => x
  | x :: y :: r => if x < maxL (y :: r) then maxL (y :: r) else x
def minL : List Int → Int
  | [] => 0
  | [x] => x
  | x :: y :: r => if minL (y :: r) < x then minL (y :: r) else x
theorem maxL_is : ∀ {ns : List Int}, ns ≠ [] → maxL ns ∈ ns ∧ ∀ y ∈ ns, y ≤ maxL ns
  | [], h => absurd rfl h
  | [x], _ => by simp [maxL]
  | x :: y :: r, _ => by
    obtain ⟨h1, h2⟩ := maxL_is (ns := y :: r) (by simp)
    unfold maxL
    by_cases c : x < maxL (y :: r)
    · rw [if_pos c]
      refine ⟨List.mem_cons_of_mem _ h1, fun z hz => ?_⟩
      rcases List.mem_cons.mp hz with rfl | hz
      · omega
      · exact h2 z hz
    · rw [if_neg c]
      refine ⟨List.mem_cons_self .., fun z hz => ?_⟩
      rcases List.mem_cons.mp hz with rfl | hz
      · omega
      · have := h2 z hz; omega
theorem minL_is : ∀ {ns : List Int}, ns ≠ [] → minL ns ∈ ns ∧ ∀ y ∈ ns, minL ns ≤ y
  | [], h => absurd rfl h
  | [x], _ => by simp [minL]
  | x :: y :: r, _ => by
    obtain ⟨h1, h2⟩ := minL_is (ns := y :: r) (by simp)
    unfold minL
    by_cases c : minL (y :: r) < x
    · rw [if_pos c]
      refine ⟨List.mem_cons_of_mem _ h1, fun z hz => ?_⟩
      rcases List.mem_cons.mp hz with rfl | hz
      · omega
      · exact h2 z hz
    · rw [if_neg c]
      refine ⟨List.mem_cons_self .., fun z hz => ?_⟩
      rcases List.mem_cons.mp hz with rfl | hz
      · omega
      · have := h2 z hz; omega
def fLen : FA := fun as h => match as with
  | [.str y] => if y.length ≤ 100000 then some (.int y.length) else none
  | [t] => (seqOf h t).map fun xs => .int xs.length
  | _ => none
def fAll : FA := fun as h => match as with
  | [t] => (lstOf h t).bind fun xs => (blsOf? xs).map fun ns => .bl (ns.all id)
  | _ => none
def fAny : FA := fun as h => match as with
  | [t] => (lstOf h t).bind fun xs => (blsOf? xs).map fun ns => .bl (ns.any id)
  | _ => none
def fMax : FA := fun as h => match as with
  | [.int i, .int j] => some (.int (if j > i then j else i))
  | [t] => (lstOf h t).bind fun xs => (intsOf? xs).bind fun ns => if ns ≠ [] then some (.int (maxL ns)) else none
  | _ => none
def fMin : FA := fun as h => match as with
  | [.int i, .int j] => some (.int (if j < i then j else i))
  | [.tup xs] => (intsOf? xs).bind fun ns => if ns ≠ [] then some (.int (minL ns)) else none
  | [t] => (lstOf h t).bind fun xs => (intsOf? xs).bind fun ns => if ns ≠ [] then some (.int (minL ns)) else none
  | _ => none
def fInt : FA := fun as _ => match as with
  | [.int i] => some (.int i)
  | [.bl k] => some (.int (if k then 1 else 0))
  | _ => none
def fTuple : FA := fun as h => match as with
  | [.tup xs] => some (.tup xs)
  | [t] => (lstOf h t).map .tup
  | _ => none
theorem c_len : CallR X (.builtin "len") (rVA X.K cl fLen) := by
  intro pins s σ H xs us Q I rx ⟨as, h, ω, t, S, ra, e, q⟩
  unfold fLen at e
  split at e
  · rename_i y
    obtain ⟨c, rfl⟩ := ne_ite e
    obtain ⟨v, vr, rfl, a, b⟩ := ra.inv
    rw [b.nil_inv, a.str_inv] at rx
    exact call_len pins s σ H _ us Q I rx ⟨_, _, rfl, ⟨line5 c, rfl⟩, q _ _ _ (Nx.refl _ _) S rep_int⟩
  · rename_i t' _
    rw [Option.map_eq_some_iff] at e
    obtain ⟨ys, e1, rfl⟩ := e
    obtain ⟨v, vr, rfl, a, b⟩ := ra.inv
    obtain ⟨p, vs, rfl, b1, c1⟩ := seqOf_ok S a e1
    rw [b.nil_inv] at rx
    refine call_len pins s σ H _ us Q I rx ⟨_, _, rfl, b1.elim (fun z => .inl ⟨vs, z, rfl⟩) (fun z => .inr ⟨vs, z, rfl⟩), ?_⟩
    rw [← c1.length]
    exact q _ _ _ (Nx.refl _ _) S rep_int
  · cases e
theorem c_all (hc : X.calm = true) : CallR X (.builtin "all") (rVA X.K cl fAll) := by
  intro pins s σ H xs us Q I rx ⟨as, h, ω, t, S, ra, e, q⟩
  unfold fAll at e
  split at e
  · rw [Option.bind_eq_some_iff] at e
    obtain ⟨ys, e1, e⟩ := e
    rw [Option.map_eq_some_iff] at e
    obtain ⟨ns, e2, rfl⟩ := e
    obtain ⟨v, vr, rfl, a, b⟩ := ra.inv
    obtain ⟨p, vs, rfl, b1, c1⟩ := lstOf_ok S a e1
    rw [b.nil_inv] at rx
    rw [c1.bls e2] at b1
    exact cr_all hc pins s σ H _ us Q I rx ⟨p, ns, rfl, SqL.of b1, q _ _ _ (Nx.refl _ _) S rep_bl⟩
  · cases e
theorem c_any (hc : X.calm = true) : CallR X (.builtin "any") (rVA X.K cl fAny) := by
  intro pins s σ H xs us Q I rx ⟨as, h, ω, t, S, ra, e, q⟩
  unfold fAny at e
  split at e
  · rw [Option.bind_eq_some_iff] at e
    obtain ⟨ys, e1, e⟩ := e
    rw [Option.map_eq_some_iff] at e
    obtain ⟨ns, e2, rfl⟩ := e
    obtain ⟨v, vr, rfl, a, b⟩ := ra.inv
    obtain ⟨p, vs, rfl, b1, c1⟩ := lstOf_ok S a e1
    rw [b.nil_inv] at rx
    rw [c1.bls e2] at b1
    exact cr_any hc pins s σ H _ us Q I rx ⟨p, ns, rfl, SqL.of b1, q _ _ _ (Nx.refl _ _) S rep_bl⟩
  · cases e
theorem c_max (hc : X.calm = true) : CallR X (.builtin "max") (rVA X.K cl fMax) := by
  intro pins s σ H xs us Q I rx ⟨as, h, ω, t, S, ra, e, q⟩
  unfold fMax at e
  split at e
  · cases e
    obtain ⟨v, vr, rfl, a, b⟩ := ra.inv
    obtain ⟨v2, vr2, rfl, a2, b2⟩ := b.inv
    rw [b2.nil_inv, a.int_inv, a2.int_inv] at rx
    exact call_max2 hc pins s σ H _ us Q I rx ⟨_, _, rfl, q _ _ _ (Nx.refl _ _) S rep_int⟩
  · rw [Option.bind_eq_some_iff] at e
    obtain ⟨ys, e1, e⟩ := e
    rw [Option.bind_eq_some_iff] at e
    obtain ⟨ns, e2, e⟩ := e
    obtain ⟨c, rfl⟩ := ne_ite e
    obtain ⟨v, vr, rfl, a, b⟩ := ra.inv
    obtain ⟨p, vs, rfl, b1, c1⟩ := lstOf_ok S a e1
    rw [b.nil_inv] at rx
    rw [c1.ints e2] at b1
    obtain ⟨m1, m2⟩ := maxL_is c
    refine cr_max hc pins s σ H _ us Q I rx ⟨p, ns, rfl, SqL.of b1, List.length_pos_iff.mpr c, fun m k1 k2 => ?_⟩
    have : m = maxL ns := by
      have := m2 m k1
      have := k2 _ m1
      omega
    rw [this]
    exact q _ _ _ (Nx.refl _ _) S rep_int
  · cases e
theorem reads_ints {hp : Heap} : ∀ {ns : List Int} {its : List Value}, IntsAre its ns → PySem.W.HoldAll hp its ns
  | _, _, .nil => ⟨[], .nil⟩
  | _, _, .cons p t h => by
    obtain ⟨as, r⟩ := reads_ints (hp := hp) h
    exact ⟨[] ++ as, .cons (.int _ _) r⟩
theorem minOf_is (x : Int) : ∀ xs : List Int, PySem.W.minOf x xs ∈ x :: xs ∧ ∀ y ∈ x :: xs, PySem.W.minOf x xs ≤ y := fun xs => by
  unfold PySem.W.minOf
  induction xs generalizing x with -- from the left
  | nil => simp
  | cons z zs ih =>
    rw [List.foldl_cons]
    have e : (if PySem.W.DatumOrd.lt z x = true then z else x) = if z < x then z else x := by
      show (if decide (z < x) = true then z else x) = _
      simp
    rw [e]
    by_cases c : z < x
    · rw [if_pos c]
      obtain ⟨i1, i2⟩ := ih z
      refine ⟨List.mem_cons_of_mem _ i1, fun y hy => ?_⟩
      rcases List.mem_cons.mp hy with q | q
      · have := i2 z (List.mem_cons_self ..)
        omega
      · exact i2 y q
    · rw [if_neg c]
      obtain ⟨i1, i2⟩ := ih x
      refine ⟨?_, fun y hy => ?_⟩
      · rcases List.mem_cons.mp i1 with q | q
        · exact List.mem_cons.mpr (.inl q)
        · exact List.mem_cons_of_mem _ (List.mem_cons_of_mem _ q)
      · rcases List.mem_cons.mp hy with q | q
        · exact i2 y (List.mem_cons.mpr (.inl q))
        · rcases List.mem_cons.mp q with q2 | q2
          · have := i2 x (List.mem_cons_self ..)
            omega
          · exact i2 y (List.mem_cons_of_mem _ q2)
theorem cr_minT (hc : X.calm = true) (hu : X.A.units + 64 < cLine) : CallR X (.builtin "min") (fun vs H Q => ∃ (a : Addr) (ns : List Int), vs = [V.ref a] ∧ SqT X.K H a (ns.map V.int) ∧ 0 < ns.length ∧ ∀ m, m ∈ ns → (∀ y, y ∈ ns → m ≤ y) → Q (.int m) H) := by
  intro pins s σ H vs us Q I r ⟨a, ns, e0, hs, hne, q⟩
  subst e0
  obtain ⟨its, rv, hT, _⟩ := I.tuple hs
  rw [Vals.ref1 r]
  cases ns with
  | nil => simp at hne
  | cons x xs =>
    refine PySem.W.min_tuple_datum (α := Int) (x := x) (xs := xs) (I.ok.hd hc) hT (by simpa using reads_ints rv.ints) (by show _ + 1 + 0 < cLine; omega) fun i v h' tk _ hv hk => ?_
    obtain ⟨as, rd⟩ := hv
    have rd : Reads h' v (.int (PySem.W.minOf x xs)) as := rd
    cases rd with
    | int i t =>
      obtain ⟨m1, m2⟩ := minOf_is x xs
      exact ⟨.int _, H, I.kept hk, ⟨_, rfl⟩, q _ m1 m2⟩
theorem c_min (hc : X.calm = true) (hu : X.A.units + 64 < cLine) : CallR X (.builtin "min") (rVA X.K cl fMin) := by
  intro pins s σ H xs us Q I rx ⟨as, h, ω, t, S, ra, e, q⟩
  unfold fMin at e
  split at e
  · cases e
    obtain ⟨v, vr, rfl, a, b⟩ := ra.inv
    obtain ⟨v2, vr2, rfl, a2, b2⟩ := b.inv
    rw [b2.nil_inv, a.int_inv, a2.int_inv] at rx
    exact call_min2 hc pins s σ H _ us Q I rx ⟨_, _, rfl, q _ _ _ (Nx.refl _ _) S rep_int⟩
  · rename_i ys
    rw [Option.bind_eq_some_iff] at e
    obtain ⟨ns, e2, e⟩ := e
    obtain ⟨c, rfl⟩ := ne_ite e
    obtain ⟨v, vr, rfl, a, b⟩ := ra.inv
    simp only [Rep] at a
    obtain ⟨p, vs, rfl, b1, c1⟩ := a
    rw [b.nil_inv] at rx
    rw [c1.ints e2] at b1
    obtain ⟨m1, m2⟩ := minL_is c
    refine cr_minT hc hu pins s σ H _ us Q I rx ⟨p, ns, rfl, sqT_mono S.phi b1, List.length_pos_iff.mpr c, fun m k1 k2 => ?_⟩
    have : m = minL ns := by
      have := m2 m k1
      have := k2 _ m1
      omega
    rw [this]
    exact q _ _ _ (Nx.refl _ _) S rep_int
  · rw [Option.bind_eq_some_iff] at e
    obtain ⟨ys, e1, e⟩ := e
    rw [Option.bind_eq_some_iff] at e
    obtain ⟨ns, e2, e⟩ := e
    obtain ⟨c, rfl⟩ := ne_ite e
    obtain ⟨v, vr, rfl, a, b⟩ := ra.inv
    obtain ⟨p, vs, rfl, b1, c1⟩ := lstOf_ok S a e1
    rw [b.nil_inv] at rx
    rw [c1.ints e2] at b1
    obtain ⟨m1, m2⟩ := minL_is c
    refine cr_min hc pins s σ H _ us Q I rx ⟨p, ns, rfl, SqL.of b1, List.length_pos_iff.mpr c, fun m k1 k2 => ?_⟩
    have : m = minL ns := by
      have := m2 m k1
      have := k2 _ m1
      omega
    rw [this]
    exact q _ _ _ (Nx.refl _ _) S rep_int
  · cases e
theorem c_tuple : CallR X (.type "tuple") (rVA X.K cl fTuple) := by
  intro pins s σ H xs us Q I rx ⟨as, h, ω, t, S, ra, e, q⟩
  unfold fTuple at e
  split at e
  · rename_i ys
    cases e
    obtain ⟨v, vr, rfl, a, b⟩ := ra.inv
    obtain ⟨p, vs, rfl, b1, c1⟩ := tupOf_ok (xs := ys) S a rfl
    rw [b.nil_inv] at rx
    exact call_tuple_of pins s σ H _ us Q I rx ⟨p, vs, rfl, .inr ⟨b1, q _ _ _ (Nx.refl _ _) S a⟩⟩
  · rw [Option.map_eq_some_iff] at e
    obtain ⟨ys, e1, rfl⟩ := e
    obtain ⟨v, vr, rfl, a, b⟩ := ra.inv
    obtain ⟨p, vs, rfl, b1, c1⟩ := lstOf_ok S a e1
    rw [b.nil_inv] at rx
    exact call_tuple_of pins s σ H _ us Q I rx ⟨p, vs, rfl, .inl ⟨SqL.of b1, fun l hl => give_tup S c1 q hl⟩⟩
  · cases e
def rNewA (K : PySem.W.Frag) (cl : Nat → Addr) (f : List T → Store → Option (List T)) : List V → Hp → VK → Prop := fun xs H Q => ∃ as h ω ts, StOk K cl ω h H ∧ Reps K ω as xs ∧ f as h = some ts ∧ ∀ p vs, Reps K ω ts vs → H p = none → Q (.ref p) (upd H p (.lst vs))
def mNewA (f : List T → Store → Option (List T)) (r : M (List T)) : M (List T) := fun env h => (r env h).bind fun as h1 => Out.ofO (f as h1) h1
theorem newA_step {K : PySem.W.Frag} {g : List T → Store → Option (List T)} {σ : L2.St} {H : Hp} {Q : VK} (h : tN K cl W (mNewA g r) σ H Q) : tA K cl W r σ H fun vs H1 => rNewA K cl g vs H1 Q := by
  obtain ⟨env, h, ω, he, hs, q⟩ := h
  unfold mNewA at q
  refine ⟨env, h, ω, he, hs, ?_⟩
  revert q
  cases r env h with
  | bad => exact fun z => z
  | ex x h1 => exact fun z => z
  | ok tx h1 =>
    intro q ω1 H1 N1 S1 vs rs
    simp only [Out.bind] at q
    cases e : g tx h1 with
    | none => rw [e] at q; exact q.elim
    | some ts =>
      rw [e] at q
      refine ⟨tx, h1, ω1, ts, S1, rs, e, fun p vs rv hp => ?_⟩
      exact q ω1 _ (N1.trans (nx_lay hp)) (S1.lay hp) p vs rv upd_same (S1.freshF hp) (S1.freshR hp) (N1.dom p hp)
def fList (as : List T) (h : Store) : Option (List T) := match as with
  | [t] => seqOf h t
  | _ => none
theorem n_list : CallR X (.type "list") (rNewA X.K cl fList) := by
  intro pins s σ H xs us Q I rx ⟨as, h, ω, t, S, ra, e, q⟩
  unfold fList at e
  split at e
  · obtain ⟨v, vr, rfl, a, b⟩ := ra.inv
    obtain ⟨p, vs, rfl, b1, c1⟩ := seqOf_ok S a e
    rw [b.nil_inv] at rx
    exact call_list_of pins s σ H _ us Q I rx ⟨p, vs, rfl, b1, fun l hl => q l vs c1 hl⟩
  · cases e
theorem kn_callTy {x : Str} {Ty : String} {p : Pos} {e : Expr} {es : List Expr} {g : List T → Store → Option (List T)} (hc : CallR X (.type Ty) (rNewA X.K cl g)) (hg : Gl X x) (hm : X.mg x = none) (hv : bootBuiltins x = some (.type Ty)) (ha : PA X (e :: es) (tA X.K cl W r)) (hn : x ≠ "__name__" := by decide) (hdb : (x == ("__debug__" : Str)) = false := by decide)
    (he : starEach (e :: es) X.env = (false, eval e X.env) :: starEach es X.env := by rfl) (hpl : (backTo pos (starEach es X.env)).any (·.1) = false := by rfl) : PE X (.Call (.Name x p) (e :: es) [] pos) (tN X.K cl W (mNewA g r)) :=
  (pe_callTy hc hg hm hv ha hn hdb he hpl).weak fun _ _ _ h => newA_step h
def tyOf (h : Store) : T → Option String
  | .non => some "NoneType"
  | .bl _ => some "bool"
  | .int _ => some "int"
  | .str _ => some "str"
  | .tup _ => some "tuple"
  | .lst _ => some "list"
  | .loc n => match h[n]? with
    | some (.lst _) => some "list"
    | some (.dK _) => some "dict"
    | _ => none
  | .scr _ => none
  | .emp => some "dict"
  | .adr _ _ _ _ => none
  | .fnc _ => none
  | .unk => none
  | .dct _ _ => none
def isiB (a b : String) : Bool := a == b || (a == "bool" && b == "int")
def fIsi (ty : String) : F1 := fun t h => (tyOf h t).map fun a => .bl (isiB a ty)
end
end Sm
namespace Sm
open PySem PySem.Spec PyProof.Rows L2
structure Src where
  items : List T
  gs : List (Nat × List T)
def gsOk (h : Store) (gs : List (Nat × List T)) : Prop := ∀ g ∈ gs, h[g.1]? = some (.lst g.2)
@[simp] theorem gsOk_nil (h : Store) : gsOk h [] = True := by simp [gsOk]
open Classical in
noncomputable instance gsDec (h : Store) (gs : List (Nat × List T)) : Decidable (gsOk h gs) := propDecidable _
structure ItOk (K : PySem.W.Frag) (cl : Nat → Addr) (J : It) (s : Src) (ω0 : Wd) : Prop where
  goes : ∀ i ω h H, Gr ω0 ω → StOk K cl ω h H → gsOk h s.gs → i < s.items.length → J.go i H
  stops : ∀ ω h H, Gr ω0 ω → StOk K cl ω h H → gsOk h s.gs → J.stop s.items.length H
  yields : ∀ i ω h H x H', Gr ω0 ω → StOk K cl ω h H → gsOk h s.gs → i < s.items.length → J.yld i H x H' → ∃ ω' t, Nx ω H ω' H' ∧ StOk K cl ω' h H' ∧ s.items[i]? = some t ∧ Rep K ω' t x
def tI (K : PySem.W.Frag) (cl : Nat → Addr) (W : WX) (m : M Src) : TI := fun σ H R => ∃ env h ω, EnvOk K ω env σ ∧ StOk K cl ω h H ∧ PostG K cl W ω H σ (m env h) fun s _ ω' H' => ∀ J, ItOk K cl J s ω' → R J H'
theorem _root_.L2.PI.weak {X : Cx} {tg e : Expr} {t t' : TI} (h : PI X tg e t) (m : ∀ σ H R, t' σ H R → t σ H R) : PI X tg e t' := ⟨fun pins s σ H R I q => h.run pins s σ H R I (m σ H R q)⟩
section
variable {X : Cx} {cl : Nat → Addr} {W : WX} {tg : Expr}
theorem pi_any {l : Expr} {tl : TE} (hl : PE X l tl) : PI X tg l (fun σ H R => tl σ H fun x H1 => (∃ a xs, x = .ref a ∧ SqL X.K H1 a xs ∧ R (Itl X.K a) H1) ∨ (∃ a xs, x = .ref a ∧ SqT X.K H1 a xs ∧ R (Itt X.K a) H1) ∨ ∃ z, x = .str z ∧ R (Its z) H1) := by
  constructor
  intro pins s σ H R I q0
  refine thn (hl.run pins s σ H _ I q0) fun v s1 ⟨x, H1, I1, rx, cases3⟩ => ?_
  obtain ⟨a, xs, rfl, hq, q⟩ | ⟨a, xs, rfl, hq, q⟩ | ⟨z, rfl, q⟩ := cases3
  · cases rx
    have ⟨us, _, p, _⟩ := I1.list hq
    exact wpAny_pyIter_list p.isList (pi_one (tk := s1.toks) I1 _ (turn_list a _) ⟨_, Heap.get?_push_size _ rfl, rfl, rfl⟩ q)
  · cases rx
    have ⟨us, _, p, _⟩ := I1.tuple hq
    exact wpAny_pyIter_tuple p (pi_one (tk := s1.toks) I1 _ (turn_tuple a _) ⟨_, Heap.get?_push_size _ rfl, rfl, rfl⟩ q)
  · have ⟨t, et⟩ := rx
    subst et
    by_cases ha : z.cps.all (· < 128) = true
    · exact wpAny_pyIter_ascii ha (pi_one (tk := s1.toks) I1 _ (turn_str _ z t "str_ascii_iterator" (.inl rfl)) ⟨_, Heap.get?_push_size _ rfl, rfl, rfl⟩ q)
    · exact wpAny_pyIter_wide (Bool.eq_false_iff.mpr ha) (pi_one (tk := s1.toks) I1 _ (turn_str _ z t "str_iterator" (.inr rfl)) ⟨_, Heap.get?_push_size _ rfl, rfl, rfl⟩ q)
def gdOf (h : Store) : T → List (Nat × List T)
  | .loc n => match h[n]? with
    | some (.lst xs) => [(n, xs)]
    | _ => []
  | _ => []
def seqK (h : Store) : T → Option (Bool × List T)
  | .tup xs => some (true, xs)
  | t => (lstOf h t).map fun xs => (false, xs)
theorem seqK_ok {K : PySem.W.Frag} {cl : Nat → Addr} {ω : Wd} {h : Store} {H : Hp} {t : T} {v : V} {b : Bool} {xs : List T} (S : StOk K cl ω h H) (r : Rep K ω t v) (e : seqK h t = some (b, xs)) : ∃ p vs, v = .ref p ∧ SqX K H b p vs ∧ Reps K ω xs vs := by
  unfold seqK at e
  split at e
  · cases e
    exact tupOf_ok (xs := xs) S r rfl
  · rw [Option.map_eq_some_iff] at e
    obtain ⟨ys, e1, e2⟩ := e
    cases e2
    obtain ⟨p, vs, rfl, b1, c1⟩ := lstOf_ok S r e1
    exact ⟨p, vs, rfl, SqL.of b1, c1⟩
theorem seqK_later {K : PySem.W.Frag} {cl : Nat → Addr} {ω0 ω : Wd} {h0 h : Store} {H : Hp} {t : T} {p : Addr} {b : Bool} {xs : List T} (r : Rep K ω0 t (.ref p)) (e : seqK h0 t = some (b, xs)) (g : Gr ω0 ω) (S : StOk K cl ω h H) (go : gsOk h (gdOf h0 t)) :
    ∃ vs, SqX K H b p vs ∧ Reps K ω xs vs := by
  have e' : seqK h t = some (b, xs) := by
    cases t with
    | loc n =>
      simp only [seqK, lstOf] at e ⊢
      simp only [gdOf] at go
      cases hn : h0[n]? with
      | none => rw [hn] at e; cases e
      | some c =>
        rw [hn] at e go
        cases c with
        | lst ys =>
          simp only [Option.map_some, Option.some.injEq, Prod.mk.injEq] at e
          obtain ⟨e1, e2⟩ := e
          have := go (n, ys) (by simp)
          simp only at this
          rw [this, ← e1, ← e2]
          rfl
        | _ => cases e
    | _ => exact e
  obtain ⟨q, vs, e1, b1, c1⟩ := seqK_ok S (r.mono g) e'
  cases e1
  exact ⟨vs, b1, c1⟩
def mSeq (m : M T) : M Src := fun env h => (m env h).bind fun t h1 => match t with
  | .str z => .ok ⟨z.cps.toList.map fun c => .str ⟨#[c]⟩, []⟩ h1
  | t => match seqK h1 t with
    | some (_, xs) => .ok ⟨xs, gdOf h1 t⟩ h1
    | none => .bad
theorem ki_seq {e : Expr} {m : M T} (he : PE X e (tE X.K cl W m)) : PI X tg e (tI X.K cl W (mSeq m)) := by
  refine (pi_any he).weak fun σ H R ⟨env, h, ω, he, hs, q⟩ => ⟨env, h, ω, he, hs, (PostG.bind q).mono fun t h1 ω1 H1 N1 S1 q1 v r => ?_⟩
  split at q1
  · rename_i z
    rw [r.str_inv]
    refine .inr (.inr ⟨z, rfl, q1 ω1 H1 (Nx.refl _ _) S1 _ ?_⟩)
    have w := walk_str (z := z)
    have hl : (z.cps.toList.map fun c => T.str ⟨#[c]⟩).length = z.cps.size := by simp
    refine ⟨fun i ω h H _ _ _ hi => w.goes i H (by rw [← hl]; exact hi) trivial, fun ω h H _ _ _ => by
      show (Its z).stop (z.cps.toList.map fun c => T.str ⟨#[c]⟩).length H
      rw [hl]; exact w.stops H trivial, fun i ω h H x H' _ S _ hi y => ?_⟩
    obtain ⟨rfl, c, e1, rfl⟩ := w.yields i H x H' (by rw [← hl]; exact hi) trivial y
    refine ⟨ω, .str ⟨#[c]⟩, Nx.refl _ _, S, ?_, rep_str⟩
    show (z.cps.toList.map fun c => T.str ⟨#[c]⟩)[i]? = _
    rw [List.getElem?_map, Array.getElem?_toList, e1]
    rfl
  · split at q1
    · rename_i b xs ex
      obtain ⟨p, vs, rfl, b1, c1⟩ := seqK_ok S1 r ex
      have hl := c1.length
      have later : ∀ {ω : Wd} {h : Store} {H : Hp}, Gr ω1 ω → StOk X.K cl ω h H → gsOk h (gdOf h1 t) → ∃ ws, SqX X.K H b p ws ∧ Reps X.K ω xs ws := fun g S go => seqK_later r ex g S go
      cases b with
      | false =>
        refine .inl ⟨p, vs, rfl, b1, q1 ω1 H1 (Nx.refl _ _) S1 _ ⟨fun i ω h H g S go hi => ?_, fun ω h H g S go => ?_, fun i ω h H x H' g S go hi y => ?_⟩⟩
        · obtain ⟨ws, s1, c⟩ := later g S go
          exact (walk_list (xs := ws)).goes i H (by rw [← c.length]; exact hi) s1
        · obtain ⟨ws, s1, c⟩ := later g S go
          have := (walk_list (xs := ws)).stops H s1
          rw [← c.length] at this
          exact this
        · obtain ⟨ws, s1, c⟩ := later g S go
          obtain ⟨rfl, e1⟩ := (walk_list (xs := ws)).yields i H x H' (by rw [← c.length]; exact hi) s1 y
          obtain ⟨t', e2, r2⟩ := c.getV e1
          exact ⟨ω, t', Nx.refl _ _, S, e2, r2⟩
      | true =>
        refine .inr (.inl ⟨p, vs, rfl, b1, q1 ω1 H1 (Nx.refl _ _) S1 _ ⟨fun i ω h H g S go hi => ?_, fun ω h H g S go => ?_, fun i ω h H x H' g S go hi y => ?_⟩⟩)
        · obtain ⟨ws, s1, c⟩ := later g S go
          exact (walk_tup (xs := ws)).goes i H (by rw [← c.length]; exact hi) s1
        · obtain ⟨ws, s1, c⟩ := later g S go
          have := (walk_tup (xs := ws)).stops H s1
          rw [← c.length] at this
          exact this
        · obtain ⟨ws, s1, c⟩ := later g S go
          obtain ⟨rfl, e1⟩ := (walk_tup (xs := ws)).yields i H x H' (by rw [← c.length]; exact hi) s1 y
          obtain ⟨t', e2, r2⟩ := c.getV e1
          exact ⟨ω, t', Nx.refl _ _, S, e2, r2⟩
    · exact q1.elim
def rangeT (lo : Int) (n : Nat) : List T := (List.range n).map fun i => .int (lo + (i : Nat))
theorem rangeT_length (lo : Int) (n : Nat) : (rangeT lo n).length = n := by simp [rangeT]
theorem it_range {K : PySem.W.Frag} {lo : Int} {n : Nat} {ω0 : Wd} : ItOk K cl (Itr lo n) ⟨rangeT lo n, []⟩ ω0 := by
  have w := walk_range (lo := lo) (n := n)
  refine ⟨fun i ω h H _ _ _ hi => w.goes i H (by rw [← rangeT_length lo n]; exact hi) trivial, fun ω h H _ _ _ => ?_, fun i ω h H x H' _ S _ hi y => ?_⟩
  · show (Itr lo n).stop (rangeT lo n).length H
    rw [rangeT_length]; exact w.stops H trivial
  · have hi' : i < n := by rw [← rangeT_length lo n]; exact hi
    obtain ⟨rfl, rfl⟩ := w.yields i H x H' hi' trivial y
    refine ⟨ω, .int (lo + (i : Nat)), Nx.refl _ _, S, ?_, rep_int⟩
    show (rangeT lo n)[i]? = _
    unfold rangeT
    rw [List.getElem?_map, List.getElem?_range hi']
    rfl
def mRange1 (r : M (List T)) : M Src := fun env h => (r env h).bind fun as h1 => match as with
  | [.int j] => if j < 1000000 ∧ -1000000 < j then .ok ⟨rangeT 0 j.toNat, []⟩ h1 else .bad
  | _ => .bad
def mRange2 (r : M (List T)) : M Src := fun env h => (r env h).bind fun as h1 => match as with
  | [.int i, .int j] => if i < 1000000 ∧ -1000000 < i ∧ j < 1000000 ∧ -1000000 < j then .ok ⟨rangeT i (j - i).toNat, []⟩ h1 else .bad
  | _ => .bad
variable {r : M (List T)}
theorem ki_range1 {a : Expr} {p pos : Pos} (hg : Gl X "range") (hm : X.mg "range" = none) (ha : PA X [a] (tA X.K cl W r)) (hs : starEach [a] X.env = [(false, eval a X.env)] := by rfl) : PI X tg (.Call (.Name "range" p) [a] [] pos) (tI X.K cl W (mRange1 r)) := by
  refine (pi_range1 hg hm ha hs).weak fun σ H R ⟨env, h, ω, he, hs, q⟩ => ⟨env, h, ω, he, hs, (PostG.bind q).mono fun as h1 ω1 H1 N1 S1 q1 vs rs => ?_⟩
  split at q1
  · rename_i j
    obtain ⟨v, vr, rfl, a1, b1⟩ := rs.inv
    split at q1
    · rw [b1.nil_inv, a1.int_inv]
      exact ⟨j, rfl, by omega, by omega, q1 ω1 H1 (Nx.refl _ _) S1 _ it_range⟩
    · exact q1.elim
  · exact q1.elim
def pairT (x y : T) : T := .tup [x, y]
def enumT (n : Nat) : List T → List T
  | [] => []
  | x :: r => pairT (.int (n : Nat)) x :: enumT (n + 1) r
theorem enumT_length (xs : List T) : ∀ n : Nat, (enumT n xs).length = xs.length := by
  induction xs with
  | nil => exact fun _ => rfl
  | cons x r ih => exact fun n => congrArg (· + 1) (ih (n + 1))
theorem enumT_get (xs : List T) : ∀ (n i : Nat), (enumT n xs)[i]? = xs[i]?.map (pairT (.int ((n + i : Nat)))) := by
  induction xs with
  | nil => exact fun _ i => by simp [enumT]
  | cons x r ih =>
    intro n i
    cases i with
    | zero => rfl
    | succ i =>
      show (enumT (n + 1) r)[i]? = r[i]?.map _
      rw [ih, Nat.add_assoc, Nat.add_comm 1 i]
def mEnum (r : M (List T)) : M Src := fun env h => (r env h).bind fun as h1 => match as with
  | [t] => match seqK h1 t with
    | some (_, xs) => .ok ⟨enumT 0 xs, gdOf h1 t⟩ h1
    | none => .bad
  | _ => .bad
def mZip (r : M (List T)) : M Src := fun env h => (r env h).bind fun as h1 => match as with
  | [t, u] => match seqK h1 t, seqK h1 u with
    | some (_, xs), some (_, ys) => .ok ⟨List.zipWith pairT xs ys, gdOf h1 t ++ gdOf h1 u⟩ h1
    | _, _ => .bad
  | _ => .bad
theorem gsOk_app {h : Store} {a b : List (Nat × List T)} (g : gsOk h (a ++ b)) : gsOk h a ∧ gsOk h b := ⟨fun x m => g x (by simp [m]), fun x m => g x (by simp [m])⟩
theorem rows_ok {K : PySem.W.Frag} {Rw : Hp → Tab → Prop} {its : List T} {gs : List (Nat × List T)} {ω0 : Wd}
    (later : ∀ {ω h H}, Gr ω0 ω → StOk K cl ω h H → gsOk h gs → ∃ b, Rw H b ∧ b.n = its.length ∧ ∀ i xs, b.row i xs → ∃ ts, its[i]? = some (.tup ts) ∧ Reps K ω ts xs) : ItOk K cl (rowIt Rw) ⟨its, gs⟩ ω0 where
  goes := fun i ω h H g S go hi => let ⟨b, q, e, _⟩ := later g S go; ⟨b, q, by rw [e]; exact hi⟩
  stops := fun ω h H g S go => let ⟨b, q, e, _⟩ := later g S go; ⟨b, q, e.symm⟩
  yields := by
    rintro i ω h H _ _ g S go hi ⟨A, xs, rfl, hn, rfl, all⟩
    have ⟨b, q, _, k⟩ := later g S go
    have ⟨ts, e, r⟩ := k i xs (all b q)
    refine ⟨_, .tup ts, nx_newF S hn, S.newF hn, e, ?_⟩
    simp only [Rep]
    exact ⟨A, xs, rfl, SqT.of upd_same, r.mono (gr_fix (S.freshF hn))⟩
theorem ki_enum {e : Expr} {p pos tpos : Pos} {elts : List Expr} {kk : Nat} (hg : Gl X "enumerate") (hm : X.mg "enumerate" = none) (ha : PA X [e] (tA X.K cl W r)) (hs : starEach [e] X.env = [(false, eval e X.env)] := by rfl) :
    PI X (.Tuple elts kk tpos) (.Call (.Name "enumerate" p) [e] [] pos) (tI X.K cl W (mEnum r)) := by
  refine (pi_enumX hg hm ha hs).weak fun σ H R ⟨env, h, ω, he, hs, q⟩ => ⟨env, h, ω, he, hs, (PostG.bind q).mono fun as h1 ω1 H1 N1 S1 q1 vs rs => ?_⟩
  split at q1
  · rename_i t
    split at q1
    · rename_i b xs ex
      obtain ⟨v, vr, rfl, r1, b1⟩ := rs.inv
      rw [b1.nil_inv]
      obtain ⟨p, vs, rfl, b1, c1⟩ := seqK_ok S1 r1 ex
      refine ⟨b, p, vs, rfl, b1, q1 ω1 H1 (Nx.refl _ _) S1 _ (rows_ok fun g S go => ?_)⟩
      have ⟨ws, s1, c⟩ := seqK_later r1 ex g S go
      refine ⟨_, ⟨ws, s1, rfl⟩, by rw [enumT_length]; exact c.length.symm, fun i _ ⟨x, hx, e⟩ => ?_⟩
      subst e
      have ⟨t', e3, r3⟩ := c.getV hx
      exact ⟨[.int (i : Nat), t'], by rw [enumT_get, e3, Nat.zero_add]; rfl, Reps.cons rep_int (Reps.one r3)⟩
    · exact q1.elim
  · exact q1.elim
theorem ki_zip {e e2 : Expr} {p pos tpos : Pos} {elts : List Expr} {kk : Nat} (hg : Gl X "zip") (hm : X.mg "zip" = none) (ha : PA X [e, e2] (tA X.K cl W r))
    (hst : starEach [e, e2] X.env = (false, eval e X.env) :: starEach [e2] X.env := by rfl) (hpl : (backTo pos (starEach [e2] X.env)).any (·.1) = false := by rfl) :
    PI X (.Tuple elts kk tpos) (.Call (.Name "zip" p) [e, e2] [] pos) (tI X.K cl W (mZip r)) := by
  refine (pi_zipX hg hm ha hst hpl).weak fun σ H R ⟨env, h, ω, he, hs, q⟩ => ⟨env, h, ω, he, hs, (PostG.bind q).mono fun as h1 ω1 H1 N1 S1 q1 vs rs => ?_⟩
  split at q1
  · rename_i t u
    split at q1
    · rename_i b1 xs b2 ys ex ey
      obtain ⟨v, vr, rfl, r1, q3⟩ := rs.inv
      obtain ⟨v2, vr2, rfl, r2, q4⟩ := q3.inv
      rw [q4.nil_inv]
      obtain ⟨p1, vs1, rfl, d1, c1⟩ := seqK_ok S1 r1 ex
      obtain ⟨p2, vs2, rfl, d2, c2⟩ := seqK_ok S1 r2 ey
      refine ⟨b1, b2, p1, p2, vs1, vs2, rfl, d1, d2, q1 ω1 H1 (Nx.refl _ _) S1 _ (rows_ok fun g S go => ?_)⟩
      have ⟨ws, s1, k1⟩ := seqK_later r1 ex g S (gsOk_app go).1
      have ⟨zs, s2, k2⟩ := seqK_later r2 ey g S (gsOk_app go).2
      refine ⟨_, ⟨ws, zs, s1, s2, rfl⟩, by rw [List.length_zipWith, k1.length, k2.length], fun i _ ⟨x, y, hx, hy, e⟩ => ?_⟩
      subst e
      have ⟨t1, e1, r3⟩ := k1.getV hx
      have ⟨t2, e2, r4⟩ := k2.getV hy
      exact ⟨[t1, t2], by rw [List.getElem?_zipWith, e1, e2]; rfl, Reps.cons r3 (Reps.one r4)⟩
    · exact q1.elim
  · exact q1.elim
end
end Sm
namespace Sm
open PySem PySem.Spec PyProof.Rows L2
inductive Tgt where
  | one (i : Nat) | tup (is : List Nat)
  /-- x, (y, ..) -/
  | nest (i : Nat) (is : List Nat)
def Tgt.slots : Tgt → List Nat
  | .one i => [i]
  | .tup is => is
  | .nest i is => i :: is
def setT : List Nat → List T → Env' → Env'
  | i :: is, t :: ts, env => setT is ts (env.set i (some t))
  | _, _, env => env
def bindT : Tgt → T → Env' → Option Env'
  | .one i, t, env => some (env.set i (some t))
  | .tup is, .tup ts, env => if ts.length = is.length then some (setT is ts env) else none
  | .tup is, .lst ts, env => if ts.length = is.length then some (setT is ts env) else none
  | .nest i is, .tup [a, .tup ts], env => if ts.length = is.length then some (setT is ts (env.set i (some a))) else none
  | _, _, _ => none
def gMany : List Nat → TGs
  | [] => gNil
  | i :: is => gCons (gName i) (gMany is)
def gSeq (K : PySem.W.Frag) (n : Nat) (t : TGs) : TG := fun v σ H Q => gTup K n t v σ H Q ∨ gUnl K n t v σ H Q
theorem pg_seq {X : Cx} {pos : Pos} {es : List Expr} {k : Nat} {t : TGs} {n : Nat} (hc : X.calm = true) (h : PGs X es t)
    (hn : (assignEach es X.env).length = n) (hst : (assignEach es X.env).findIdx? (·.1) = none) : PG X (.Tuple es k pos) (gSeq X.K n t) :=
  ⟨fun pins s σ H v u Q I r w => w.elim ((pg_tup hc h hn hst).run pins s σ H v u Q I r) ((pg_unl hc h hn hst).run pins s σ H v u Q I r)⟩
def gT (K : PySem.W.Frag) : Tgt → TG
  | .one i => gName i
  | .tup is => gSeq K is.length (gMany is)
  | .nest i is => gTup K 2 (gCons (gName i) (gCons (gTup K is.length (gMany is)) gNil))
theorem wipe_set {σ : L2.St} {i : Nat} {x : Option V} : ∀ {vs : List Nat}, i ∈ vs → wipe (σ.set i x) vs = wipe σ vs
  | [], h => by cases h
  | v :: vs, h => by
    unfold wipe
    by_cases e : v = i
    · subst e
      by_cases hm : v ∈ vs
      · rw [wipe_set hm]
      · have : ∀ us : List Nat, wipe (σ.set v x) us = (wipe σ us).set v (if v ∈ us then none else x) := by
          intro us
          induction us with
          | nil => simp [wipe]
          | cons u us ih =>
            show (wipe (σ.set v x) us).set u none = ((wipe σ us).set u none).set v _
            rw [ih]
            by_cases e : u = v
            · subst e; simp
            · rw [List.set_comm _ _ (Ne.symm e)]
              have e' : ¬ v = u := fun q => e q.symm
              simp [e']
        rw [this vs, if_neg hm, List.set_set]
    · have hm : i ∈ vs := (List.mem_cons.mp h).elim (fun q => absurd q.symm e) id
      rw [wipe_set hm]
section
variable {K : PySem.W.Frag} {cl : Nat → Addr}
theorem gMany_ok {ω : Wd} {h : Store} {H : Hp} : ∀ {is : List Nat} {ts : List T} {vs : List V} {env : Env'} {σ : L2.St} {Q : L2.St → Hp → Prop}, Reps K ω ts vs → ts.length = is.length → EnvOk K ω env σ →
    (∀ σ', EnvOk K ω (setT is ts env) σ' → (∀ us, (∀ i ∈ is, i ∈ us) → wipe σ' us = wipe σ us) → Q σ' H) → gMany is vs σ H Q
  | [], ts, vs, env, σ, Q, r, hl, he, q => by
    have : ts = [] := List.eq_nil_of_length_eq_zero hl
    subst this
    exact ⟨r.nil_inv, q σ he fun _ _ => rfl⟩
  | i :: is, [], vs, env, σ, Q, r, hl, he, q => by simp at hl
  | i :: is, t :: ts, vs, env, σ, Q, r, hl, he, q => by
    obtain ⟨v, vr, rfl, a, b⟩ := r.inv
    refine ⟨v, vr, rfl, ?_⟩
    show gMany is vr (σ.set i (some v)) H Q
    refine gMany_ok (h := h) b (by simpa using hl) (he.set i a) fun σ' h1 h2 => q σ' h1 fun us hu => ?_
    rw [h2 us fun j hj => hu j (List.mem_cons_of_mem _ hj), wipe_set (hu i (List.mem_cons_self ..))]
theorem gT_ok {ω : Wd} {h : Store} {H : Hp} {tg : Tgt} {t : T} {v : V} {env env' : Env'} {σ : L2.St} {Q : L2.St → Hp → Prop} (S : StOk K cl ω h H) (r : Rep K ω t v) (he : EnvOk K ω env σ) (e : bindT tg t env = some env')
    (q : ∀ σ', EnvOk K ω env' σ' → (∀ us, (∀ i ∈ tg.slots, i ∈ us) → wipe σ' us = wipe σ us) → Q σ' H) : gT K tg v σ H Q := by
  cases tg with
  | one i =>
    simp only [bindT, Option.some.injEq] at e
    subst e
    exact q _ (he.set i r) fun us hu => wipe_set (hu i (by simp [Tgt.slots]))
  | tup is =>
    cases t with
    | tup ts =>
      simp only [bindT] at e
      obtain ⟨c, rfl⟩ := ne_ite e
      obtain ⟨p, vs, rfl, b1, c1⟩ := tupOf_ok (xs := ts) S r rfl
      exact .inl ⟨p, vs, rfl, b1, by rw [← c1.length]; exact c, gMany_ok (h := h) c1 c he q⟩
    | lst ts =>
      simp only [bindT] at e
      obtain ⟨c, rfl⟩ := ne_ite e
      obtain ⟨p, vs, rfl, b1, c1⟩ := lstOf_ok (xs := ts) S r rfl
      exact .inr ⟨p, vs, rfl, SqL.of b1, by rw [← c1.length]; exact c, gMany_ok (h := h) c1 c he q⟩
    | _ => simp [bindT] at e
  | nest i is =>
    cases t with
    | tup xs =>
      rcases xs with _ | ⟨a, _ | ⟨b, _ | ⟨c, l⟩⟩⟩
      · simp [bindT] at e
      · simp [bindT] at e
      · cases b with
        | tup ts =>
          simp only [bindT] at e
          obtain ⟨c, rfl⟩ := ne_ite e
          obtain ⟨p, vs, rfl, b1, c1⟩ := tupOf_ok (xs := [a, .tup ts]) S r rfl
          obtain ⟨v1, vr, rfl, ra, r2⟩ := c1.inv
          obtain ⟨v2, vr2, rfl, rt, r3⟩ := r2.inv
          have := r3.nil_inv
          subst this
          obtain ⟨p2, ws, rfl, b2, c2⟩ := tupOf_ok (xs := ts) S rt rfl
          refine ⟨p, [v1, .ref p2], rfl, b1, rfl, v1, [.ref p2], rfl, ?_⟩
          refine ⟨.ref p2, [], rfl, p2, ws, rfl, b2, by rw [← c2.length]; exact c, ?_⟩
          refine gMany_ok (h := h) c2 c (he.set i ra) fun σ' h1 h2 => ⟨rfl, q σ' h1 fun us hu => ?_⟩
          rw [h2 us fun j hj => hu j (List.mem_cons_of_mem _ hj), wipe_set (hu i (List.mem_cons_self ..))]
        | _ => simp [bindT] at e
      · simp [bindT] at e
    | _ => simp [bindT] at e
end
def Out.bindN {α β : Type} : Out α → (α → Store → Out β) → Out β
  | .ok a h, k => k a h
  | _, _ => .bad
@[simp] theorem bindN_ok {α β : Type} (a : α) (h : Store) (k : α → Store → Out β) : (Out.ok a h).bindN k = k a h := rfl
@[simp] theorem bindN_bad {α β : Type} (k : α → Store → Out β) : (Out.bad : Out α).bindN k = .bad := rfl
def dropE : List Nat → Env' → Env'
  | [], env => env
  | v :: vs, env => (dropE vs env).set v none
noncomputable def compLoop (gs : List (Nat × List T)) (tg : Tgt) (tt : M Bool) (me : M T) (env : Env') : List T → List T → Store → Out (List T)
  | [], acc, h => if gsOk h gs then .ok acc h else .bad
  | x :: r, acc, h => if gsOk h gs then
      match bindT tg x env with
      | some env1 => (tt env1 h).bindN fun b h1 => if b = true then (me env1 h1).bindN fun y h2 => if acc.length < 100000 then compLoop gs tg tt me env r (acc ++ [y]) h2 else .bad else compLoop gs tg tt me env r acc h1
      | none => .bad
    else .bad
noncomputable def mComp (src : M Src) (own : List Nat) (tg : Tgt) (tt : M Bool) (me : M T) : M (List T) := fun env h => (src env h).bind fun s h1 => compLoop s.gs tg tt me (dropE own env) s.items [] h1
def mYes : M Bool := fun _ h => .ok true h
def W0 : WX := fun _ _ _ _ => False
section
variable {K : PySem.W.Frag} {cl : Nat → Addr} {W : WX}
theorem PostG.later {α : Type} {ω ω2 : Wd} {H H2 : Hp} {σ : L2.St} {o : Out α} {R : α → Store → Wd → Hp → Prop} (N : Nx ω H ω2 H2) (q : PostG K cl W ω H σ o R) : PostG K cl W ω2 H2 σ o R := by
  cases o with
  | bad => exact q
  | ex e h => exact fun ω3 H3 cls d N3 S3 x => q ω3 H3 cls d (N.trans N3) S3 x
  | ok a h => exact fun ω3 H3 N3 S3 => q ω3 H3 (N.trans N3) S3
theorem PostG.bindZ {α β : Type} {Z : Out β → Prop} {ω : Wd} {H : Hp} {σ : L2.St} {o : Out α} {k : α → Store → Out β} (hb : ¬ Z .bad) (h : Z (o.bindN k)) : PostG K cl W0 ω H σ o fun a h1 _ _ => Z (k a h1) := by
  cases o with
  | bad => exact (hb h).elim
  | ex e h' => exact (hb h).elim
  | ok a h' => exact fun _ _ _ _ => h
theorem envOk_wipe {ω : Wd} {env : Env'} {σ : L2.St} (e : EnvOk K ω env σ) : ∀ vs : List Nat, EnvOk K ω (dropE vs env) (wipe σ vs)
  | [] => e
  | v :: vs => by
    have ih := envOk_wipe e vs
    unfold dropE wipe
    refine ⟨by simp [ih.1], fun i t h => ?_⟩
    by_cases q : v = i
    · subst q
      have hi : v < (dropE vs env).length := by
        have := (List.getElem?_eq_some_iff.mp h).1
        simpa using this
      rw [List.getElem?_set_self hi] at h
      cases h
    · rw [List.getElem?_set_ne q] at h
      obtain ⟨w, a, b⟩ := ih.2 i t h
      exact ⟨w, by rw [List.getElem?_set_ne q]; exact a, b⟩
theorem StOk.scratch {ω : Wd} {h : Store} {H : Hp} {D : Addr} {o : HO} (S : StOk K cl ω h H) (n1 : ω.Phi D = none) (n2 : D ∉ ω.rho) : StOk K cl ω h (upd H D o) where
  len := S.len
  nd := S.nd
  cells := fun i c q a b => (S.cells i c q a b).move (Gr.refl _) fun u z => by
    rw [upd_ne (fun e : q = D => n2 (by rw [← e]; exact List.mem_of_getElem? b))]; exact z
  phi := fun a u z => by
    rw [upd_ne (fun e : a = D => by rw [e, n1] at z; cases z)]; exact S.phi a u z
  dis := S.dis
theorem Nx.scratch {ω0 ω : Wd} {H0 H : Hp} {D : Addr} {o : HO} (N : Nx ω0 H0 ω H) (f : H0 D = none) : Nx ω0 H0 ω (upd H D o) where
  toGr := N.toGr
  newR := N.newR
  newF := N.newF
  fr := fun a u z n => by rw [upd_ne (ne_of_none z f)]; exact N.fr a u z n
  dom := fun a z => by
    by_cases e : a = D
    · rw [e]; exact f
    · rw [upd_ne e] at z; exact N.dom a z
theorem Nx.keepD {ω0 ω : Wd} {H0 H : Hp} {D : Addr} {o : HO} (N : Nx ω0 H0 ω H) (e : H0 D = some o) (n1 : ω0.Phi D = none) (n2 : D ∉ ω0.rho) (ph : ∀ u, ω.Phi D = some u → H D = some u) (no : ∀ fs, o ≠ .xd fs) : H D = some o ∧ ω.Phi D = none ∧ D ∉ ω.rho := by
  refine ⟨N.fr D o e n2, ?_, fun m => ?_⟩
  · cases q : ω.Phi D with
    | none => rfl
    | some u =>
      rcases N.newF D u q with z | z | z | z
      rotate_right
      · exact absurd z n2
      · rw [n1] at z; cases z
      · rw [e] at z; cases z
      · have k := ph u q
        rw [N.fr D o e n2] at k
        cases k
        obtain ⟨fs, z⟩ := z
        exact absurd z (no fs)
  · rcases N.newR D m with z | z
    · exact n2 z
    · rw [e] at z; cases z
end
section
variable {X : Cx} {cl : Nat → Addr} {W : WX} {elt tg iter : Expr} {ifs : List Expr} {scope : Scope} {own : List (Str × Nat)} {pos : Pos} {ms : M Src} {g : Tgt} {tt : M Bool} {me : M T}
theorem lc_step {K : PySem.W.Frag} {vs0 : List Nat} (hsub : ∀ i ∈ g.slots, i ∈ vs0) {σ : L2.St} {H : Hp} {Q : VK} (hh : tN K cl W (mComp ms vs0 g tt me) σ H Q) : tLc (tI K cl W ms) (gT K g) (tT K cl W0 tt) (tE K cl W0 me) vs0 σ H Q := by
  obtain ⟨env, h, ω, henv, hst, q⟩ := hh
  refine ⟨env, h, ω, henv, hst, ?_⟩
  unfold mComp at q
  revert q
  cases hsrc : ms env h with
  | bad => exact fun z => z
  | ex x h1 => exact fun z => z
  | ok s h1 =>
    intro q ω1 H1 N1 S1 J ij D hD
    have q : PostG K cl W ω H σ (compLoop s.gs g tt me (dropE vs0 env) s.items [] h1) _ := q
    have fH : H D = none := N1.dom D hD
    let Z : Out (List T) → Prop := fun o => PostG K cl W ω H σ o fun ts _ ω' H' => ∀ l vs, Reps K ω' ts vs → H' l = some (.lst vs) → ω'.Phi l = none → l ∉ ω'.rho → H l = none → Q (.ref l) H'
    have hZ : ¬ Z .bad := fun z => z
    -- the state at each turn
    let St' : Nat → Hp → Prop := fun i H' => ∃ ω' h' acc vs, Nx ω H ω' H' ∧ Nx ω1 H1 ω' H' ∧ StOk K cl ω' h' H' ∧ H' D = some (.lst vs) ∧ Reps K ω' acc vs ∧ ω'.Phi D = none ∧ D ∉ ω'.rho ∧
      Z (compLoop s.gs g tt me (dropE vs0 env) (s.items.drop i) acc h')
    refine ⟨fun i m H' => m = s.items.length - i ∧ i ≤ s.items.length ∧ St' i H', ⟨_, rfl, Nat.zero_le _, ω1, h1, [], [], N1.scratch fH, (Nx.refl ω1 H1).scratch hD, S1.scratch (S1.freshF hD) (S1.freshR hD), upd_same, Reps.nil, S1.freshF hD, S1.freshR hD, ?_⟩, ?_⟩
    · rw [List.drop_zero]
      exact q
    · rintro i m H' ⟨rfl, hle, ω', h', acc, vs, NH, N1', S', eD, rA, f1, f2, q2⟩
      by_cases hlt : i < s.items.length
      · have hdrop : s.items.drop i = s.items[i] :: s.items.drop (i + 1) := List.drop_eq_getElem_cons hlt
        rw [hdrop] at q2
        unfold compLoop at q2
        split at q2
        · rename_i go
          refine .inr ⟨ij.goes i ω' h' H' N1'.toGr S' go hlt, St' (i + 1), fun H'' p => ⟨_, by omega, rfl, hlt, p⟩, fun x H2 hy => ?_⟩
          obtain ⟨ω2, t, N2, S2, et, rt⟩ := ij.yields i ω' h' H' x H2 N1'.toGr S' go hlt hy
          have et' : t = s.items[i] := by
            rw [List.getElem?_eq_getElem hlt] at et
            exact (Option.some.inj et).symm
          subst et'
          obtain ⟨eD2, f12, f22⟩ := N2.keepD eD f1 f2 (fun u z => S2.phi D u z) (fun fs z => by cases z)
          have henv2 : EnvOk K ω2 (dropE vs0 env) (wipe σ vs0) := envOk_wipe (henv.mono (NH.trans N2).toGr) _
          split at q2
          · rename_i env1 eb
            refine gT_ok S2 rt henv2 eb fun σ2 he2 hw => ⟨?_, ?_⟩
            · have := hw vs0 hsub
              rw [this]
              have : ∀ vs : List Nat, ∀ us : List Nat, (∀ i ∈ vs, i ∈ us) → wipe (wipe σ vs) us = wipe σ us := by
                intro vs
                induction vs with
                | nil => intro us _; rfl
                | cons v vs ih =>
                  intro us hu
                  show wipe ((wipe σ vs).set v none) us = wipe σ us
                  rw [wipe_set (hu v (List.mem_cons_self ..)), ih us fun j hj => hu j (List.mem_cons_of_mem _ hj)]
              exact this _ _ fun _ hi => hi
            · refine ⟨env1, h', ω2, he2, S2, (PostG.bindZ hZ q2).mono fun b h3 ω3 H3 N3 S3 q4 => ?_⟩
              obtain ⟨eD3, f13, f23⟩ := N3.keepD eD2 f12 f22 (fun u z => S3.phi D u z) (fun fs z => by cases z)
              cases b with
              | false =>
                rw [if_neg Bool.false_ne_true] at q4 ⊢
                exact ⟨ω3, h3, acc, vs, (NH.trans N2).trans N3, (N1'.trans N2).trans N3, S3, eD3, (rA.mono N2.toGr).mono N3.toGr, f13, f23, q4⟩
              | true =>
                rw [if_pos rfl] at q4 ⊢
                refine ⟨env1, h3, ω3, he2.mono N3.toGr, S3, (PostG.bindZ hZ q4).mono fun y h4 ω4 H4 N4 S4 q5 v rv => ?_⟩
                obtain ⟨eD4, f14, f24⟩ := N4.keepD eD3 f13 f23 (fun u z => S4.phi D u z) (fun fs z => by cases z)
                split at q5
                · rename_i hlen
                  have rA4 : Reps K ω4 acc vs := ((rA.mono N2.toGr).mono N3.toGr).mono N4.toGr
                  exact ⟨vs, eD4, by rw [← rA.length, sizeLine_eq]; omega, ω4, h4, acc ++ [y], vs ++ [v], (((NH.trans N2).trans N3).trans N4).scratch fH, (((N1'.trans N2).trans N3).trans N4).scratch hD, S4.scratch f14 f24, upd_same, rA4.append (Reps.one rv), f14, f24, q5⟩
                · exact (hZ q5).elim
          · exact (hZ q2).elim
        · exact (hZ q2).elim
      · have e : i = s.items.length := by omega
        subst e
        rw [List.drop_length] at q2
        unfold compLoop at q2
        split at q2
        · rename_i go
          refine .inl ⟨ij.stops ω' h' H' N1'.toGr S' go, ?_⟩
          exact q2 ω' H' NH S' D vs rA eD f1 f2 fH
        · exact (hZ q2).elim
theorem kn_comp (hc : X.calm = true) (hN : X.N.Nodup) (hi : PI X tg iter (tI X.K cl W ms)) (ok : BlkOk X.N X.env.scope scope own) (hsub : ∀ i ∈ g.slots, i ∈ own.map (·.2))
    (hg : ∀ (s : Shared) (H : Hp) (C : Addr) (cl' : List (Str × Addr)) (fp : List Addr), PG (X.blk s H scope (compEnvC scope cl' C X.env) fp) tg (gT X.K g))
    (ht : ∀ (s : Shared) (H : Hp) (C : Addr) (cl' : List (Str × Addr)) (fp : List Addr), PTs (X.blk s H scope (compEnvC scope cl' C X.env) fp) ifs (tT X.K cl W0 tt))
    (he : ∀ (s : Shared) (H : Hp) (C : Addr) (cl' : List (Str × Addr)) (fp : List Addr), PE (X.blk s H scope (compEnvC scope cl' C X.env) fp) elt (tE X.K cl W0 me))
    (hs : ∀ x, foldedSetIterable iter X.env x = pure x := by intro _; rfl) : PE X (.ListComp elt [⟨tg, iter, ifs, 0⟩] scope pos) (tN X.K cl W (mComp ms (own.map (·.2)) g tt me)) :=
  (pe_lc hc hN hi ok hg ht he hs).weak fun σ H Q h => lc_step hsub h
end
end Sm
namespace Sm
open PySem PySem.Spec PyProof.Rows L2
inductive SO where
  | nx (env : Env') (h : Store) | rt (t : T) (h : Store) | bk (env : Env') (h : Store) | ct (env : Env') (h : Store) | ex (e : Ex) (env : Env') (h : Store) | bad
abbrev MS := Env' → Store → SO
def SO.seq : SO → MS → SO
  | .nx env h, k => k env h
  | o, _ => o
@[simp] theorem seq_nx (env : Env') (h : Store) (k : MS) : (SO.nx env h).seq k = k env h := rfl
@[simp] theorem seq_rt (t : T) (h : Store) (k : MS) : (SO.rt t h).seq k = .rt t h := rfl
@[simp] theorem seq_bk (env : Env') (h : Store) (k : MS) : (SO.bk env h).seq k = .bk env h := rfl
@[simp] theorem seq_ct (env : Env') (h : Store) (k : MS) : (SO.ct env h).seq k = .ct env h := rfl
@[simp] theorem seq_ex (e : Ex) (env : Env') (h : Store) (k : MS) : (SO.ex e env h).seq k = .ex e env h := rfl
@[simp] theorem seq_bad (k : MS) : SO.bad.seq k = .bad := rfl
def bindE {α : Type} : Out α → Env' → (α → Store → SO) → SO
  | .ok a h, _, k => k a h
  | .ex e h, env, _ => .ex e env h
  | .bad, _, _ => .bad
@[simp] theorem bindE_ok {α : Type} (a : α) (h : Store) (env : Env') (k : α → Store → SO) : bindE (.ok a h) env k = k a h := rfl
@[simp] theorem bindE_ex {α : Type} (e : Ex) (h : Store) (env : Env') (k : α → Store → SO) : bindE (.ex e h : Out α) env k = .ex e env h := rfl
@[simp] theorem bindE_bad {α : Type} (env : Env') (k : α → Store → SO) : bindE (.bad : Out α) env k = .bad := rfl
def PostS (K : PySem.W.Frag) (cl : Nat → Addr) (W : WX) (ω : Wd) (H : Hp) (o : SO) (D : Ends) : Prop :=
  match o with
  | .nx env' h' => ∀ ω' H' σ', Nx ω H ω' H' → StOk K cl ω' h' H' → EnvOk K ω' env' σ' → D.nx σ' H'
  | .bk env' h' => ∀ ω' H' σ', Nx ω H ω' H' → StOk K cl ω' h' H' → EnvOk K ω' env' σ' → D.bk σ' H'
  | .ct env' h' => ∀ ω' H' σ', Nx ω H ω' H' → StOk K cl ω' h' H' → EnvOk K ω' env' σ' → D.ct σ' H'
  | .rt t h' => ∀ ω' H' v, Nx ω H ω' H' → StOk K cl ω' h' H' → Rep K ω' t v → D.rt v H'
  | .ex e env' h' => ∀ ω' H' σ' cls d, Nx ω H ω' H' → StOk K cl ω' h' H' → EnvOk K ω' env' σ' → XOk K cl ω' H' e cls d → W cls d σ' H'
  | .bad => False
def tS (K : PySem.W.Frag) (cl : Nat → Addr) (W : WX) (m : MS) : TS := fun D σ H => ∃ env h ω, EnvOk K ω env σ ∧ StOk K cl ω h H ∧ PostS K cl W ω H (m env h) D
section
variable {K : PySem.W.Frag} {cl : Nat → Addr} {W : WX} {ω ω2 : Wd} {H H2 : Hp} {D : Ends}
theorem PostS.later {o : SO} (N : Nx ω H ω2 H2) (q : PostS K cl W ω H o D) : PostS K cl W ω2 H2 o D := by
  cases o with
  | nx env h => exact fun ω3 H3 σ3 N3 S3 e => q ω3 H3 σ3 (N.trans N3) S3 e
  | bk env h => exact fun ω3 H3 σ3 N3 S3 e => q ω3 H3 σ3 (N.trans N3) S3 e
  | ct env h => exact fun ω3 H3 σ3 N3 S3 e => q ω3 H3 σ3 (N.trans N3) S3 e
  | rt t h => exact fun ω3 H3 σ3 N3 S3 e => q ω3 H3 σ3 (N.trans N3) S3 e
  | ex e env h => exact fun ω3 H3 σ3 cls d N3 S3 e x => q ω3 H3 σ3 cls d (N.trans N3) S3 e x
  | bad => exact q
theorem PostS.bindE {α : Type} {o : Out α} {env : Env'} {σ : L2.St} {k : α → Store → SO} (he : EnvOk K ω env σ) (q : PostS K cl W ω H (Sm.bindE o env k) D) : PostG K cl W ω H σ o fun a h1 ω1 H1 => PostS K cl W ω1 H1 (k a h1) D := by
  cases o with
  | ok a h => exact fun ω1 H1 N1 S1 => PostS.later N1 q
  | ex e h => exact fun ω1 H1 cls d N1 S1 x => q ω1 H1 σ cls d N1 S1 (he.mono N1.toGr) x
  | bad => exact q
theorem PostS.seq {o : SO} {k : MS} (q : PostS K cl W ω H (o.seq k) D) : PostS K cl W ω H o { D with nx := fun σ' H' => tS K cl W k D σ' H' } := by
  cases o with
  | nx env h => exact fun ω1 H1 σ1 N1 S1 e => ⟨env, h, ω1, e, S1, PostS.later N1 q⟩
  | bk env h => exact q
  | ct env h => exact q
  | rt t h => exact q
  | ex e env h => exact q
  | bad => exact q
end
def sNil : MS := fun env h => .nx env h
def sSeq (a b : MS) : MS := fun env h => (a env h).seq b
def sRet (m : M T) : MS := fun env h => bindE (m env h) env fun t h1 => .rt t h1
def sRetN : MS := fun _ h => .rt .non h
def sExp (m : M T) : MS := fun env h => bindE (m env h) env fun _ h1 => .nx env h1
def sIf (c : M Bool) (a b : MS) : MS := fun env h => bindE (c env h) env fun k h1 => if k = true then a env h1 else b env h1
def sSet (i : Nat) (m : M T) : MS := fun env h => bindE (m env h) env fun t h1 => .nx (env.set i (some t)) h1
def sAsg (g : Tgt) (m : M T) : MS := fun env h => bindE (m env h) env fun t h1 => match bindT g t env with
  | some env1 => .nx env1 h1
  | none => .bad
def sPar (i j : Nat) (m n : M T) : MS := fun env h => bindE (m env h) env fun t h1 => bindE (n env h1) env fun u h2 => .nx ((env.set i (some t)).set j (some u)) h2
def sBreak : MS := fun env h => .bk env h
def sCont : MS := fun env h => .ct env h
section
variable {X : Cx} {cl : Nat → Addr} {W : WX} {e : Expr} {m n : M T} {pos : Pos} {a b : MS} {st : Stmt} {rest : List Stmt}
theorem ks_nil : PSs X [] (tS X.K cl W sNil) := pss_nil.weak fun D σ H ⟨env, h, ω, he, hs, q⟩ => q ω H σ (Nx.refl _ _) hs he
theorem ks_cons (h1 : PS X st (tS X.K cl W a)) (h2 : PSs X rest (tS X.K cl W b)) : PSs X (st :: rest) (tS X.K cl W (sSeq a b)) :=
  (pss_cons h1 h2).weak fun D σ H ⟨env, h, ω, he, hs, q⟩ => ⟨env, h, ω, he, hs, PostS.seq q⟩
theorem ks_one (h1 : PS X st (tS X.K cl W a)) : PSs X [st] (tS X.K cl W a) := pss_one h1
theorem ks_ret (h : PE X e (tE X.K cl W m)) : PS X (.Return (some e) pos) (tS X.K cl W (sRet m)) :=
  (ps_ret h).weak fun D σ H ⟨env, h, ω, he, hs, q⟩ => ⟨env, h, ω, he, hs, (PostS.bindE he q).mono fun t h1 ω1 H1 N1 S1 q1 v r => q1 ω1 H1 v (Nx.refl _ _) S1 r⟩
theorem ks_expr (h : PE X e (tE X.K cl W m)) (hs : swapsWith e none pos.line X.env = pure false := by rfl) : PS X (.Expr e pos) (tS X.K cl W (sExp m)) :=
  (ps_expr h hs).weak fun D σ H ⟨env, h, ω, he, hs, q⟩ => ⟨env, h, ω, he, hs, (PostS.bindE he q).mono fun t h1 ω1 H1 N1 S1 q1 v r => q1 ω1 H1 σ (Nx.refl _ _) S1 (he.mono N1.toGr)⟩
theorem ks_if {c : Expr} {mc : M Bool} {as bs : List Stmt} (hc : PT X c (tT X.K cl W mc)) (ha : PSs X as (tS X.K cl W a)) (hb : PSs X bs (tS X.K cl W b)) : PS X (.If c as bs pos) (tS X.K cl W (sIf mc a b)) := by
  refine (ps_if hc ha hb).weak fun D σ H ⟨env, h, ω, he, hs, q⟩ => ⟨env, h, ω, he, hs, (PostS.bindE he q).mono fun k h1 ω1 H1 N1 S1 q1 => ?_⟩
  cases k with
  | true => rw [if_pos rfl] at q1 ⊢; exact ⟨env, h1, ω1, he.mono N1.toGr, S1, q1⟩
  | false => rw [if_neg Bool.false_ne_true] at q1 ⊢; exact ⟨env, h1, ω1, he.mono N1.toGr, S1, q1⟩
theorem set_step {K : PySem.W.Frag} {i : Nat} {D : Ends} {σ : L2.St} {H : Hp} (h : tS K cl W (sSet i m) D σ H) : tAsg (tE K cl W m) (gName i) D σ H := by
  obtain ⟨env, h, ω, he, hs, q⟩ := h
  exact ⟨env, h, ω, he, hs, (PostS.bindE he q).mono fun t h1 ω1 H1 N1 S1 q1 v r => q1 ω1 H1 _ (Nx.refl _ _) S1 ((he.mono N1.toGr).set i r)⟩
theorem ks_set {i : Nat} {x : Str} {pos' : Pos} (hN : X.N.Nodup) (hi : X.N[i]? = some x) (hx : Loc X.env.scope x) (he : PE X e (tE X.K cl W m)) (hs : swapsWith e (some (.Name x pos')) pos.line X.env = pure false := by rfl) (hf : X.fn x = true ∨ X.env.scope.names.lookup x = some .local := by first | exact .inl rfl | exact .inr rfl | assumption) :
    PS X (.Assign [.Name x pos'] e pos) (tS X.K cl W (sSet i m)) := (ps_set hN hi hx he hs hf).weak fun D σ H h => set_step h
section
variable {elt tg iter : Expr} {ifs : List Expr} {scope : Scope} {own : List (Str × Nat)} {ms : M Src} {g : Tgt} {tt : M Bool} {me : M T} {i : Nat} {y : Str} {py spos : Pos}
end
end
section
variable {X : Cx} {pos : Pos}
theorem kg_one {i : Nat} {x : Str} (hN : X.N.Nodup) (hi : X.N[i]? = some x) (hx : Loc X.env.scope x) (hf : X.fn x = true ∨ X.env.scope.names.lookup x = some .local := by first | exact .inl rfl | exact .inr rfl | assumption) : PG X (.Name x pos) (gT X.K (.one i)) := pg_name hN hi hx hf
theorem kgs_nil : PGs X [] (gMany []) := pgs_nil
theorem kgs_cons {i : Nat} {x : Str} {p : Pos} {es : List Expr} {is : List Nat} (hN : X.N.Nodup) (hi : X.N[i]? = some x) (hx : Loc X.env.scope x) (h2 : PGs X es (gMany is)) (hf : X.fn x = true ∨ X.env.scope.names.lookup x = some .local := by first | exact .inl rfl | exact .inr rfl | assumption)
    (hs : (assignEach (.Name x p :: es) X.env).map (·.2) = assign (.Name x p) X.env :: (assignEach es X.env).map (·.2) := by rfl) : PGs X (.Name x p :: es) (gMany (i :: is)) := pgs_cons (pg_name hN hi hx hf) h2 hs
theorem kg_tup {es : List Expr} {k : Nat} {is : List Nat} (hc : X.calm = true) (h : PGs X es (gMany is)) (hn : (assignEach es X.env).length = is.length := by rfl) (hst : (assignEach es X.env).findIdx? (·.1) = none := by rfl) : PG X (.Tuple es k pos) (gT X.K (.tup is)) := pg_seq hc h hn hst
end
theorem envOk_drop {K : PySem.W.Frag} {ω : Wd} {env : Env'} {σ : L2.St} (e : EnvOk K ω env σ) : ∀ vs : List Nat, EnvOk K ω (dropE vs env) σ
  | [] => e
  | v :: vs => (envOk_drop e vs).drop v
noncomputable def forLoop (gs : List (Nat × List T)) (tg : Tgt) (kill : List Nat) (body : MS) : List T → MS
  | [], env, h => if gsOk h gs then .nx env h else .bad
  | x :: r, env, h => if gsOk h gs then
      match bindT tg x env with
      | some env1 => match body env1 h with
        | .nx env2 h2 => forLoop gs tg kill body r (dropE kill env2) h2
        | .ct env2 h2 => forLoop gs tg kill body r (dropE kill env2) h2
        | .bk env2 h2 => .nx env2 h2
        | o => o
      | none => .bad
    else .bad
noncomputable def sFor (src : M Src) (tg : Tgt) (kill : List Nat) (body : MS) : MS := fun env h => bindE (src env h) env fun s h1 => forLoop s.gs tg kill body s.items (dropE kill env) h1
section
variable {X : Cx} {cl : Nat → Addr} {W : WX} {tg iter : Expr} {g : Tgt} {kill : List Nat} {body : MS} {bd : List Stmt} {ms : M Src} {pos : Pos}
theorem ks_for (hp : PassesOwn (model X.prog X.w) X.A X.env X.xe) (hc : X.calm = true) (hi : PI X tg iter (tI X.K cl W ms)) (hg : PG X tg (gT X.K g)) (hb : PSs X bd (tS X.K cl W body))
    (hs : ∀ x, foldedSetIterable iter X.env x = pure x := by intro _; rfl) : PS X (.For tg iter bd [] pos) (tS X.K cl W (sFor ms g kill body)) := by
  refine (ps_for hp hc hi hg hb hs).weak fun D σ H ⟨env, h, ω, he, hst, q⟩ => ⟨env, h, ω, he, hst, (PostS.bindE he q).mono fun s h1 ω1 H1 N1 S1 q1 J ij => ?_⟩
  let St' : Nat → L2.St → Hp → Prop := fun i σ' H' => ∃ env' h' ω', Nx ω1 H1 ω' H' ∧ EnvOk X.K ω' env' σ' ∧ StOk X.K cl ω' h' H' ∧ PostS X.K cl W ω' H' (forLoop s.gs g kill body (s.items.drop i) env' h') D
  refine ⟨fun i m σ' H' => m = s.items.length - i ∧ i ≤ s.items.length ∧ St' i σ' H', ⟨_, rfl, Nat.zero_le _, dropE kill env, h1, ω1, Nx.refl _ _, envOk_drop (he.mono N1.toGr) _, S1, by rw [List.drop_zero]; exact q1⟩, ?_⟩
  rintro i m σ' H' ⟨rfl, hle, env', h', ω', N', e', S', q'⟩
  by_cases hlt : i < s.items.length
  · have hdrop : s.items.drop i = s.items[i] :: s.items.drop (i + 1) := List.drop_eq_getElem_cons hlt
    rw [hdrop] at q'
    unfold forLoop at q'
    split at q'
    · rename_i go
      refine .inr ⟨ij.goes i ω' h' H' N'.toGr S' go hlt, St' (i + 1), fun σ'' H'' p => ⟨_, by omega, rfl, hlt, p⟩, fun x H2 hy => ?_⟩
      obtain ⟨ω2, t, N2, S2, et, rt⟩ := ij.yields i ω' h' H' x H2 N'.toGr S' go hlt hy
      have et' : t = s.items[i] := by
        rw [List.getElem?_eq_getElem hlt] at et
        exact (Option.some.inj et).symm
      subst et'
      split at q'
      · rename_i env1 eb
        refine gT_ok S2 rt (e'.mono N2.toGr) eb fun σ2 he2 _ => ⟨env1, h', ω2, he2, S2, ?_⟩
        have q2 := PostS.later N2 q'
        revert q2
        cases body env1 h' with
        | nx env2 h2 => exact fun q2 ω3 H3 σ3 N3 S3 e3 => ⟨_, h2, ω3, (N'.trans N2).trans N3, envOk_drop e3 _, S3, PostS.later N3 q2⟩
        | ct env2 h2 => exact fun q2 ω3 H3 σ3 N3 S3 e3 => ⟨_, h2, ω3, (N'.trans N2).trans N3, envOk_drop e3 _, S3, PostS.later N3 q2⟩
        | bk env2 h2 => exact fun q2 => q2
        | rt t h2 => exact fun q2 => q2
        | ex e env2 h2 => exact fun q2 => q2
        | bad => exact fun q2 => q2
      · exact q'.elim
    · exact q'.elim
  · have e : i = s.items.length := by omega
    subst e
    rw [List.drop_length] at q'
    unfold forLoop at q'
    split at q'
    · rename_i go
      exact .inl ⟨ij.stops ω' h' H' N'.toGr S' go, q' ω' H' σ' (Nx.refl _ _) S' e'⟩
    · exact q'.elim
end
inductive WS where
  | out (o : SO) | go (env : Env') (h : Store)
def wStep (c : M Bool) (kill : List Nat) (body : MS) (env : Env') (h : Store) : WS :=
  match c env h with
  | .ok false h1 => .out (.nx env h1)
  | .ok true h1 => match body env h1 with
    | .nx env2 h2 => .go (dropE kill env2) h2
    | .ct env2 h2 => .go (dropE kill env2) h2
    | .bk env2 h2 => .out (.nx env2 h2)
    | o => .out o
  | .ex e h1 => .out (.ex e env h1)
  | .bad => .out .bad
def whileN (c : M Bool) (kill : List Nat) (body : MS) : Nat → Env' → Store → Option SO
  | 0, _, _ => none
  | n + 1, env, h => match wStep c kill body env h with
    | .out o => some o
    | .go env2 h2 => whileN c kill body n env2 h2
open Classical in
noncomputable def whileL (c : M Bool) (kill : List Nat) (body : MS) : MS := fun env h => if hx : ∃ n o, whileN c kill body n env h = some o then hx.choose_spec.choose else .bad
section
variable {c : M Bool} {kill : List Nat} {body : MS}
theorem whileN_mono : ∀ {n k : Nat} {env : Env'} {h : Store} {o : SO}, whileN c kill body n env h = some o → whileN c kill body (n + k) env h = some o
  | 0, _, _, _, _, e => by cases e
  | n + 1, k, env, h, o, e => by
    rw [show n + 1 + k = (n + k) + 1 by omega]
    unfold whileN at e ⊢
    split at e
    · exact e
    · exact whileN_mono e
theorem whileN_inj {n k : Nat} {env : Env'} {h : Store} {o u : SO} (e1 : whileN c kill body n env h = some o) (e2 : whileN c kill body k env h = some u) : o = u := by
  have a := whileN_mono (k := k) e1
  have b := whileN_mono (k := n) e2
  rw [Nat.add_comm] at b
  rw [a] at b
  exact Option.some.inj b
theorem whileL_of {n : Nat} {env : Env'} {h : Store} {o : SO} (e : whileN c kill body n env h = some o) : whileL c kill body env h = o := by
  unfold whileL
  have hx : ∃ n o, whileN c kill body n env h = some o := ⟨n, o, e⟩
  rw [dif_pos hx]
  exact whileN_inj hx.choose_spec.choose_spec e
theorem whileL_eq (env : Env') (h : Store) : whileL c kill body env h = match wStep c kill body env h with
    | .out o => o
    | .go env2 h2 => whileL c kill body env2 h2 := by
  cases e : wStep c kill body env h with
  | out o =>
    refine whileL_of (n := 1) ?_
    unfold whileN
    rw [e]
  | go env2 h2 =>
    show whileL c kill body env h = whileL c kill body env2 h2
    by_cases hx : ∃ n o, whileN c kill body n env2 h2 = some o
    · obtain ⟨n, o, q⟩ := hx
      rw [whileL_of q]
      refine whileL_of (n := n + 1) ?_
      unfold whileN
      rw [e]
      exact q
    · have hy : ¬ ∃ n o, whileN c kill body n env h = some o := fun ⟨n, o, q⟩ => by
        cases n with
        | zero => cases q
        | succ n =>
          unfold whileN at q
          rw [e] at q
          exact hx ⟨n, o, q⟩
      unfold whileL
      rw [dif_neg hx, dif_neg hy]
end
noncomputable def sWhile (c : M Bool) (kill : List Nat) (body : MS) : MS := fun env h => whileL c kill body (dropE kill env) h
section
variable {X : Cx} {cl : Nat → Addr} {W : WX} {c : Expr} {mc : M Bool} {kill : List Nat} {body : MS} {bd : List Stmt} {pos : Pos}
theorem ks_while (hp : PassesOwn (model X.prog X.w) X.A X.env X.xe) (hc : PT X c (tT X.K cl W mc)) (hb : PSs X bd (tS X.K cl W body)) : PS X (.While c bd [] pos) (tS X.K cl W (sWhile mc kill body)) := by
  refine (ps_while hp hc hb).weak fun D σ H ⟨env, h, ω, he, hst, q⟩ => ?_
  have q : PostS X.K cl W ω H (whileL mc kill body (dropE kill env) h) D := q
  have hx : ∃ n o, whileN mc kill body n (dropE kill env) h = some o := Classical.byContradiction fun z => by
    unfold whileL at q
    rw [dif_neg z] at q
    exact q
  obtain ⟨n, o, eo⟩ := hx
  rw [whileL_of eo] at q
  refine ⟨fun m σ' H' => ∃ env' h' ω', EnvOk X.K ω' env' σ' ∧ StOk X.K cl ω' h' H' ∧ ∃ o, whileN mc kill body m env' h' = some o ∧ PostS X.K cl W ω' H' o D, ⟨n, _, h, ω, envOk_drop he _, hst, o, eo, q⟩, ?_⟩
  rintro m σ' H' ⟨env', h', ω', e', S', o', eo', q'⟩
  cases m with
  | zero => cases eo'
  | succ m =>
    refine ⟨env', h', ω', e', S', ?_⟩
    unfold whileN wStep at eo'
    revert eo'
    cases mc env' h' with
    | bad =>
      intro eo'
      cases eo'
      exact q'
    | ex e h1 =>
      intro eo'
      cases eo'
      exact fun ω1 H1 cls d N1 S1 x => q' ω1 H1 σ' cls d N1 S1 (e'.mono N1.toGr) x
    | ok k h1 =>
      intro eo' ω1 H1 N1 S1
      cases k with
      | false =>
        cases eo'
        rw [if_neg Bool.false_ne_true]
        exact q' ω1 H1 σ' N1 S1 (e'.mono N1.toGr)
      | true =>
        rw [if_pos rfl]
        refine ⟨fun σ2 H2 => ∃ env' h' ω', EnvOk X.K ω' env' σ2 ∧ StOk X.K cl ω' h' H2 ∧ ∃ o, whileN mc kill body m env' h' = some o ∧ PostS X.K cl W ω' H2 o D, fun σ2 H2 z => ⟨m, Nat.lt_succ_self _, z⟩, env', h1, ω1, e'.mono N1.toGr, S1, ?_⟩
        have q2 := PostS.later N1 q'
        dsimp only at eo'
        revert eo'
        cases body env' h1 with
        | nx env2 h2 => exact fun eo' ω3 H3 σ3 N3 S3 e3 => ⟨_, h2, ω3, envOk_drop e3 _, S3, o', eo', PostS.later N3 q2⟩
        | ct env2 h2 => exact fun eo' ω3 H3 σ3 N3 S3 e3 => ⟨_, h2, ω3, envOk_drop e3 _, S3, o', eo', PostS.later N3 q2⟩
        | bk env2 h2 => intro eo'; cases eo'; exact q2
        | rt t h2 => intro eo'; cases eo'; exact q2
        | ex e env2 h2 => intro eo'; cases eo'; exact q2
        | bad => intro eo'; cases eo'; exact q2
end
end Sm
namespace Sm
open PySem PySem.Spec PyProof.Rows L2
theorem pus_append : ∀ {xs ys : List T}, pus (xs ++ ys) = (pus xs && pus ys)
  | [], ys => by simp [pus]
  | x :: xs, ys => by
    show (x.pu && pus (xs ++ ys)) = ((x.pu && pus xs) && pus ys)
    rw [pus_append, Bool.and_assoc]
theorem pus_all : ∀ {xs : List T}, pus xs = xs.all T.pu
  | [] => rfl
  | x :: xs => by unfold pus; rw [pus_all]; rfl
theorem pus_set {xs : List T} {i : Nat} {t : T} (h : pus xs = true) (ht : t.pu = true) : pus (xs.set i t) = true := by
  rw [pus_all, List.all_eq_true] at h ⊢
  intro x hx
  rcases List.mem_or_eq_of_mem_set hx with z | z
  · exact h x z
  · rw [z]; exact ht
theorem pus_sub {xs ys : List T} (h : pus xs = true) (hs : ∀ y ∈ ys, y ∈ xs) : pus ys = true := by
  rw [pus_all, List.all_eq_true] at h ⊢
  exact fun y hy => h y (hs y hy)
abbrev FM := T → List T → Store → Option (T × Store)
def rVM (K : PySem.W.Frag) (cl : Nat → Addr) (f : FM) : V → List V → Hp → VK → Prop := fun x xs H Q => ∃ a as h ω t h', StOk K cl ω h H ∧ Rep K ω a x ∧ Reps K ω as xs ∧ f a as h = some (t, h') ∧ ∀ ω' H' v, Nx ω H ω' H' → StOk K cl ω' h' H' → Rep K ω' t v → Q v H'
def outM (o : Option (T × Store)) : Out T := match o with
  | some (t, h) => .ok t h
  | none => .bad
def mMethL (f : FM) (m : M T) (r : M (List T)) : M T := fun env h => (m env h).bind fun a h1 => match lstOf h1 a with
  | some _ => (r env h1).bind fun as h2 => outM (f a as h2)
  | none => .bad
section
variable {X : Cx} {cl : Nat → Addr} {W : WX} {o e : Expr} {es : List Expr} {m : M T} {r : M (List T)} {f : FM} {name : Str} {apos cpos : Pos} {id : String}
theorem methL_step {K : PySem.W.Frag} {σ : L2.St} {H : Hp} {Q : VK} (h : tE K cl W (mMethL f m r) σ H Q) : tE K cl W m σ H fun x H1 => tyV K "list" x H1 ∧ tA K cl W r σ H1 fun xs H2 => rVM K cl f x xs H2 Q := by
  obtain ⟨env, h, ω, he, hs, q⟩ := h
  refine ⟨env, h, ω, he, hs, (PostG.bind q).mono fun a h1 ω1 H1 N1 S1 q1 v rv => ?_⟩
  split at q1
  · rename_i xs ea
    obtain ⟨p, vs, rfl, b1, c1⟩ := lstOf_ok S1 rv ea
    refine ⟨.inl ⟨rfl, vs, SqL.of b1⟩, env, h1, ω1, he.mono N1.toGr, S1, (PostG.bind q1).mono fun as h2 ω2 H2 N2 S2 q2 ws rws => ?_⟩
    cases ef : f a as h2 with
    | none => rw [ef] at q2; exact q2.elim
    | some th =>
      rw [ef] at q2
      exact ⟨a, as, h2, ω2, th.1, th.2, S2, rv.mono N2.toGr, rws, ef, fun ω' H' v N S r => q2 ω' H' N S v r⟩
  · exact q1.elim
theorem k_methL (slot : Slot "list" name id) (hty : typeOf (.builtin id) = pure (.type "method_descriptor")) (hm : MtR X id (rVM X.K cl f)) (ho : PE X o (tE X.K cl W m)) (ha : PA X (e :: es) (tA X.K cl W r))
    (hba : attributeBase o name X.env (eval o X.env) = eval o X.env := by rfl)
    (hfew : ((backTo cpos (starEach (e :: es) X.env)).all (fun x => !x.1) && (backToKw cpos (keywordEach [] X.env)).all (fun x => x.1.isSome) && decide ((e :: es).length + ([] : List Keyword).length + (if ([] : List Keyword).isEmpty then 0 else 1) < 30)) = true := by rfl)
    (hline : (apos.endLine == cpos.line) = true := by rfl) (hs : starEach (e :: es) X.env = (false, eval e X.env) :: starEach es X.env := by rfl) (hplain : (backTo cpos (starEach es X.env)).any (·.1) = false := by rfl) :
    PE X (.Call (.Attribute o name apos) (e :: es) [] cpos) (tE X.K cl W (mMethL f m r)) :=
  (pe_bm PySem.F.plainAttrs_list slot hty hm ho ha hba hfew hline hs hplain).weak fun _ _ _ h => methL_step h
def cellL (h : Store) (n : Nat) : Option (List T) := match h[n]? with
  | some (.lst xs) => some xs
  | _ => none
theorem cellL_ok {K : PySem.W.Frag} {ω : Wd} {h : Store} {H : Hp} (S : StOk K cl ω h H) {n : Nat} {v : V} {xs : List T} (r : Rep K ω (.loc n) v) (e : cellL h n = some xs) : ∃ p vs, v = .ref p ∧ ω.rho[n]? = some p ∧ H p = some (.lst vs) ∧ Reps K ω xs vs ∧ pus xs = true := by
  unfold cellL at e
  split at e
  · rename_i ys hn
    cases e
    exact lst_at S r hn
  · cases e
def fMove (n : Nat) (xs : List T) (y : T) (h : Store) : Option (T × Store) := match y with
  | .loc m => match cellL h m with
    | some ys => if m ≠ n ∧ xs.length < 100000 then some (.non, (h.set m .dead).set n (.lst (xs ++ [.lst ys]))) else none
    | none => none
  | _ => none
def fAppend : FM := fun a as h => match a, as with
  | .loc n, [y] => match cellL h n with
    | some xs => if xs.length < 100000 ∧ y.pu = true then some (.non, h.set n (.lst (xs ++ [y]))) else fMove n xs y h
    | none => none
  | _, _ => none
def fInsert : FM := fun a as h => match a, as with
  | .loc n, [.int i, y] => match cellL h n with
    | some xs => if xs.length < 100000 ∧ y.pu = true ∧ 0 ≤ i ∧ i < 100000 then some (.non, h.set n (.lst (xs.take i.toNat ++ [y] ++ xs.drop i.toNat))) else none
    | none => none
  | _, _ => none
def fExtend : FM := fun a as h => match a, as with
  | .loc n, [t] => match cellL h n, lstOf h t with
    | some xs, some ys => if xs.length + ys.length < 100000 ∧ pus ys = true then some (.non, h.set n (.lst (xs ++ ys))) else none
    | _, _ => none
  | _, _ => none
theorem line_lt {n : Nat} (h : n < 100000) : n < sizeLine := by rw [sizeLine_eq]; omega
theorem cellL_at {h : Store} {n : Nat} {xs : List T} (e : cellL h n = some xs) : h[n]? = some (.lst xs) := by
  unfold cellL at e
  split at e
  · rename_i ys hn
    cases e
    exact hn
  · cases e
theorem put_lst {K : PySem.W.Frag} {ω : Wd} {h : Store} {H : Hp} (S : StOk K cl ω h H) {n : Nat} {p : Addr} {ys zs : List T} {vs : List V} (e0 : h[n]? = some (.lst zs)) (e : ω.rho[n]? = some p) (hp : pus ys = true) (r : Reps K ω ys vs) : StOk K cl ω (h.set n (.lst ys)) (upd H p (.lst vs)) ∧ Nx ω H ω (upd H p (.lst vs)) :=
  ⟨S.put e0 (fun z => by cases z) e ⟨hp, vs, upd_same, r⟩, nx_put S e⟩
theorem m_append : MtR X "list.append" (rVM X.K cl fAppend) := by
  intro pins s σ H x xs v us Q I rx rxs ⟨a, as, h, ω, t, h', S, ra, ras, e, q⟩
  unfold fAppend at e
  split at e
  · rename_i n y
    split at e
    · rename_i ys ey
      obtain ⟨p, vs, rfl, e1, e2, e3, e4⟩ := cellL_ok S ra ey
      obtain ⟨w, wr, rfl, r1, r2⟩ := ras.inv
      rw [r2.nil_inv] at rxs
      by_cases c : ys.length < 100000 ∧ y.pu = true
      · rw [if_pos c] at e
        cases e
        obtain ⟨S', N'⟩ := put_lst S (cellL_at ey) e1 (by rw [pus_append, e4, Bool.true_and]; simpa [pus] using c.2) (e3.append (Reps.one r1))
        exact mt_append pins s σ H _ _ v us Q I rx rxs ⟨p, vs, w, rfl, rfl, e2, by rw [← e3.length]; exact line_lt c.1, q _ _ _ N' S' rep_non⟩
      · rw [if_neg c] at e
        unfold fMove at e
        split at e
        · rename_i m
          split at e
          · rename_i zs ez
            by_cases d : m ≠ n ∧ ys.length < 100000
            · rw [if_pos d] at e
              cases e
              obtain ⟨p2, vs2, rfl, b1, b2, b3, b4⟩ := cellL_ok S r1 ez
              have S1 := S.freeze (cellL_at ez) b1 b2
              have al := S.alive (cellL_at ez) (fun z => by cases z) b1
              have N1 := nx_freeze S (o := .lst vs2) al b1
              have g := N1.toGr
              have r5 : Rep X.K (ω.fix p2 (.lst vs2)) (.lst zs) (.ref p2) := by
                simp only [Rep]
                exact ⟨p2, vs2, rfl, upd_same, b3.mono g⟩
              have at0 : (h.set m .dead)[n]? = some (.lst ys) := by
                rw [List.getElem?_set_ne d.1]
                exact cellL_at ey
              obtain ⟨S', N'⟩ := put_lst S1 at0 (show (ω.fix p2 (.lst vs2)).rho[n]? = some p from e1) (by rw [pus_append, e4, Bool.true_and]; simpa [pus, T.pu] using b4) ((e3.mono g).append (Reps.one r5))
              exact mt_append pins s σ H _ _ v us Q I rx rxs ⟨p, vs, .ref p2, rfl, rfl, e2, by rw [← e3.length]; exact line_lt d.2, q _ _ _ (N1.trans N') S' rep_non⟩
            · rw [if_neg d] at e
              cases e
          · cases e
        · cases e
    · cases e
  · cases e
theorem m_insert : MtR X "list.insert" (rVM X.K cl fInsert) := by
  intro pins s σ H x xs v us Q I rx rxs ⟨a, as, h, ω, t, h', S, ra, ras, e, q⟩
  unfold fInsert at e
  split at e
  · rename_i n i y
    split at e
    · rename_i ys ey
      obtain ⟨c, e2⟩ := ne_ite e
      cases e2
      obtain ⟨p, vs, rfl, e1, e2, e3, e4⟩ := cellL_ok S ra ey
      obtain ⟨w, wr, rfl, r1, r2⟩ := ras.inv
      obtain ⟨w2, wr2, rfl, r3, r4⟩ := r2.inv
      rw [r4.nil_inv, r1.int_inv] at rxs
      have e5 := pus_sub (ys := ys.take i.toNat) e4 fun y hy => List.mem_of_mem_take hy
      have e6 := pus_sub (ys := ys.drop i.toNat) e4 fun y hy => List.mem_of_mem_drop hy
      obtain ⟨S', N'⟩ := put_lst S (cellL_at ey) e1 (by rw [pus_append, pus_append, e5, e6, Bool.true_and, Bool.and_true]; simpa [pus] using c.2.1) (((e3.take i.toNat).append (Reps.one r3)).append (e3.drop i.toNat))
      exact mt_insert pins s σ H _ _ v us Q I rx rxs ⟨p, vs, i, w2, rfl, rfl, e2, by rw [← e3.length]; exact line_lt c.1, c.2.2.1, by omega, q _ _ _ N' S' rep_non⟩
    · cases e
  · cases e
theorem m_extend : MtR X "list.extend" (rVM X.K cl fExtend) := by
  intro pins s σ H x xs v us Q I rx rxs ⟨a, as, h, ω, t, h', S, ra, ras, e, q⟩
  unfold fExtend at e
  split at e
  · rename_i n t'
    split at e
    · rename_i ys zs ey ez
      obtain ⟨c, e2⟩ := ne_ite e
      cases e2
      obtain ⟨p, vs, rfl, e1, e2, e3, e4⟩ := cellL_ok S ra ey
      obtain ⟨w, wr, rfl, r1, r2⟩ := ras.inv
      obtain ⟨p2, vs2, rfl, b2, c2⟩ := lstOf_ok S r1 ez
      rw [r2.nil_inv] at rxs
      obtain ⟨S', N'⟩ := put_lst S (cellL_at ey) e1 (by rw [pus_append, e4, Bool.true_and]; exact c.2) (e3.append c2)
      exact mt_extend pins s σ H _ _ v us Q I rx rxs ⟨p, p2, vs, vs2, rfl, rfl, e2, b2, by rw [← e3.length, ← c2.length, sizeLine_eq]; omega, q _ _ _ N' S' rep_non⟩
    · cases e
  · cases e
def sItem (mv mo mi : M T) : MS := fun env h => bindE (mv env h) env fun v h1 => bindE (mo env h1) env fun a h2 => bindE (mi env h2) env fun i h3 => match a, i with
  | .loc n, .int k => match cellL h3 n with
    | some xs => match ixN xs.length k with
      | some j => if v.pu = true then .nx env (h3.set n (.lst (xs.set j v))) else .bad
      | none => .bad
    | none => .bad
  | _, _ => .bad
theorem ks_item {ob ix ev : Expr} {p pos : Pos} {mv mo mi : M T} (hv : PE X ev (tE X.K cl W mv)) (ho : PE X ob (tE X.K cl W mo)) (hi : PE X ix (tE X.K cl W mi))
    (ha : ∀ v, assign (.Subscript ob ix p) X.env v = (do
      let ov ← holding [v] (eval ob X.env)
      let iv ← holding [v, ov] (eval ix X.env)
      standAt p
      holding [v, ov, iv] (setItem ov iv v)
      release [v, ov, iv] []) := by intro _; rfl)
    (hs : swapsWithSole [.Subscript ob ix p] ev pos.line X.env = pure false := by rfl) (hw : swappedStores [.Subscript ob ix p] ev X.env = pure none := by rfl)
    (h1 : (assignEach [.Subscript ob ix p] X.env).map (·.2) = [assign (.Subscript ob ix p) X.env] := by rfl) : PS X (.Assign [.Subscript ob ix p] ev pos) (tS X.K cl W (sItem mv mo mi)) := by
  refine (ps_asg hv (pg_sub ho hi set_list ha) hs hw h1).weak fun D σ H ⟨env, h, ω, he, hs, q⟩ => ⟨env, h, ω, he, hs, (PostS.bindE he q).mono fun t h1 ω1 H1 N1 S1 q1 v r => ?_⟩
  refine ⟨env, h1, ω1, he.mono N1.toGr, S1, (PostS.bindE (he.mono N1.toGr) q1).mono fun a h2 ω2 H2 N2 S2 q2 o ro => ?_⟩
  refine ⟨env, h2, ω2, (he.mono N1.toGr).mono N2.toGr, S2, (PostS.bindE ((he.mono N1.toGr).mono N2.toGr) q2).mono fun i h3 ω3 H3 N3 S3 q3 z rz => ?_⟩
  split at q3
  · rename_i n k
    split at q3
    · rename_i xs ex
      split at q3
      · rename_i j ej
        split at q3
        · rename_i hp
          obtain ⟨p, vs, rfl, e1, e2, e3, e4⟩ := cellL_ok S3 (ro.mono N3.toGr) ex
          obtain ⟨S', N'⟩ := put_lst S3 (cellL_at ex) e1 (pus_set (i := j) e4 hp) (e3.set ((r.mono N2.toGr).mono N3.toGr) j)
          rw [e3.length] at ej
          exact ⟨p, vs, k, j, rfl, rz.int_inv, e2, ej, q3 _ _ σ N' S' (((he.mono N1.toGr).mono N2.toGr).mono N3.toGr)⟩
        · exact q3.elim
      · exact q3.elim
    · exact q3.elim
  · exact q3.elim
end
end Sm
namespace Sm
open PySem PySem.Spec PyProof.Rows L2
mutual
def frz (n : Nat) (h : Store) : T → Option T
  | .loc m => if m < n then some (.loc m) else match h[m]? with
    | some (.lst xs) => some (.lst xs)
    | _ => none
  | .tup xs => (frzs n h xs).map .tup
  | .lst xs => (frzs n h xs).map .lst
  | .non => some .non
  | .bl b => some (.bl b)
  | .int i => some (.int i)
  | .str s => some (.str s)
  | .scr s => some (.scr s)
  | .emp => some .emp
  | .adr _ _ _ _ => none
  | .fnc _ => none
  | .unk => some .unk
  | .dct ks ts => (frzs n h ts).map (.dct ks)
def frzs (n : Nat) (h : Store) : List T → Option (List T)
  | [] => some []
  | x :: r => match frz n h x, frzs n h r with
    | some y, some ys => some (y :: ys)
    | _, _ => none
end
mutual
theorem frz_pu {n : Nat} {h : Store} : ∀ {t : T}, t.pu = true → frz n h t = some t
  | .non, _ => by simp only [frz]
  | .bl _, _ => by simp only [frz]
  | .int _, _ => by simp only [frz]
  | .str _, _ => by simp only [frz]
  | .scr _, _ => by simp only [frz]
  | .emp, _ => by simp only [frz]
  | .adr _ _ _ _, hp => by simp [T.pu] at hp
  | .fnc _, hp => by simp [T.pu] at hp
  | .unk, _ => by simp only [frz]
  | .tup xs, hp => by
    simp only [T.pu] at hp
    simp only [frz, frzs_pu hp, Option.map_some]
  | .lst xs, hp => by
    simp only [T.pu] at hp
    simp only [frz, frzs_pu hp, Option.map_some]
  | .dct ks xs, hp => by
    simp only [T.pu] at hp
    simp only [frz, frzs_pu hp, Option.map_some]
  | .loc m, hp => by simp [T.pu] at hp
theorem frzs_pu {n : Nat} {h : Store} : ∀ {ts : List T}, pus ts = true → frzs n h ts = some ts
  | [], _ => by simp only [frzs]
  | x :: r, hp => by
    simp only [pus, Bool.and_eq_true] at hp
    simp only [frzs, frz_pu hp.1, frzs_pu hp.2]
end
theorem frzs_len {n : Nat} {h : Store} : ∀ {ts us : List T}, frzs n h ts = some us → us.length = ts.length
  | [], us, e => by
    simp only [frzs, Option.some.injEq] at e
    rw [← e]
  | x :: r, us, e => by
    simp only [frzs] at e
    split at e
    · rename_i y ys e1 e2
      cases e
      rw [List.length_cons, List.length_cons, frzs_len e2]
    · cases e
def sameIns (h h' : Store) : Prop := ∀ (i c : Nat) (fs : List (Str × T)), i < h.length → h'[i]? = some (.ins c fs) → h[i]? = some (.ins c fs)
def Ex.pu : Ex → Bool
  | .txt _ => true
  | .fld _ _ t => t.pu
open Classical in
noncomputable instance sameDec (h h' : Store) : Decidable (sameIns h h') := propDecidable _
noncomputable def retF (h : Store) (t : T) (h' : Store) : Out T := if sameIns h h' then (if t.pu = true then .ok t (h'.take h.length) else match frz h.length h' t with
  | some t' => .ok t' (h'.take h.length)
  | none => .bad) else .bad
noncomputable def finF (keep : Bool) (h : Store) : SO → Out T
  | .rt t h' => if keep = true then .ok t h' else retF h t h'
  | .nx _ h' => if keep = true then .ok .non h' else retF h .non h'
  | .ex e _ h' => if keep = true then .ex e h' else if sameIns h h' ∧ e.pu = true then .ex e (h'.take h.length) else .bad
  | _ => .bad
def startE (n : Nat) (ts : List T) : Env' := ts.map some ++ List.replicate (n - ts.length) none
abbrev Fn := List T → Store → Out T
noncomputable def fn (nargs nslots : Nat) (keep : Bool) (body : MS) : Fn := fun ts h => if ts.length = nargs then finF keep h (body (startE nslots ts) h) else .bad
def spF (K : PySem.W.Frag) (cl : Nat → Addr) (F : Fn) (n : Nat) : Sp := fun vs H Q E => vs.length = n ∧ ∃ ts h ω, StOk K cl ω h H ∧ Reps K ω ts vs ∧ PostG K cl (fun cls d _ H' => E cls d H') ω H [] (F ts h) fun t _ ω' H' => ∀ v, Rep K ω' t v → Q v H'
section
variable {K : PySem.W.Frag} {cl : Nat → Addr} {ω ω' : Wd} {h h' : Store} {H H' : Hp}
mutual
theorem Rep.closed {ω'' : Wd} (pre : ω.rho <+: ω'.rho) (e : ω''.rho = ω.rho) (m : ∀ a o, ω'.Phi a = some o → ω''.Phi a = some o) : ∀ {t : T} {v0 v : V}, Rep K ω t v0 → Rep K ω' t v → Rep K ω'' t v
  | .non, _, _, _, r => by simpa only [Rep] using r
  | .bl _, _, _, _, r => by simpa only [Rep] using r
  | .int _, _, _, _, r => by simpa only [Rep] using r
  | .str _, _, _, _, r => by simpa only [Rep] using r
  | .tup xs, _, _, r0, r => by
    simp only [Rep] at r0 r ⊢
    obtain ⟨p, vs, e1, a, b⟩ := r
    obtain ⟨p0, vs0, _, _, b0⟩ := r0
    exact ⟨p, vs, e1, sqT_mono m a, Reps.closed pre e m b0 b⟩
  | .lst xs, _, _, r0, r => by
    simp only [Rep] at r0 r ⊢
    obtain ⟨p, vs, e1, a, b⟩ := r
    obtain ⟨p0, vs0, _, _, b0⟩ := r0
    exact ⟨p, vs, e1, m _ _ a, Reps.closed pre e m b0 b⟩
  | .loc n, _, _, r0, r => by
    simp only [Rep] at r0 r ⊢
    obtain ⟨p, e1, a⟩ := r
    obtain ⟨p0, _, a0⟩ := r0
    obtain ⟨l, q⟩ := pre
    have a' := a0
    rw [← q, List.getElem?_append_left (List.getElem?_eq_some_iff.mp a0).1, a0] at a
    cases a
    exact ⟨p, e1, by rw [e]; exact a0⟩
  | .scr ns, _, _, r0, r => by
    simp only [Rep] at r ⊢
    obtain ⟨p, e1, a⟩ := r
    exact ⟨p, e1, sqL_mono m a⟩
  | .fnc _, _, _, _, r => by simpa only [Rep] using r
  | .unk, _, _, _, r => by simpa only [Rep] using r
  | .adr a d f ts, _, _, r0, r => by
    simp only [Rep] at r0 r ⊢
    obtain ⟨_, ws0, _, b0⟩ := r0
    obtain ⟨e1, ws, c, b⟩ := r
    exact ⟨e1, ws, fun n => m _ _ (c n), Reps.closed pre e m b0 b⟩
  | .emp, _, _, r0, r => by
    simp only [Rep] at r ⊢
    obtain ⟨p, e1, a⟩ := r
    exact ⟨p, e1, m _ _ a⟩
  | .dct ks xs, _, _, r0, r => by
    simp only [Rep] at r0 r ⊢
    obtain ⟨p, vs, e1, a, b⟩ := r
    obtain ⟨p0, vs0, _, _, b0⟩ := r0
    exact ⟨p, vs, e1, fixR_mono m a, Reps.closed pre e m b0 b⟩
theorem Reps.closed {ω'' : Wd} (pre : ω.rho <+: ω'.rho) (e : ω''.rho = ω.rho) (m : ∀ a o, ω'.Phi a = some o → ω''.Phi a = some o) : ∀ {ts : List T} {vs0 vs : List V}, Reps K ω ts vs0 → Reps K ω' ts vs → Reps K ω'' ts vs
  | [], _, _, _, r => by simpa only [Reps] using r
  | x :: xs, _, _, r0, r => by
    obtain ⟨v0, vr0, rfl, a0, b0⟩ := r0.inv
    obtain ⟨v, vr, rfl, a, b⟩ := r.inv
    exact Reps.cons (Rep.closed pre e m a0 a) (Reps.closed pre e m b0 b)
end
theorem RepKV.closed {κ : Type} {ω'' : Wd} (pre : ω.rho <+: ω'.rho) (e : ω''.rho = ω.rho) (m : ∀ a o, ω'.Phi a = some o → ω''.Phi a = some o) : ∀ {a : List (κ × T)} {b0 b : List (κ × V)}, RepKV K ω a b0 → RepKV K ω' a b → RepKV K ω'' a b
  | [], _, _, _, r => r
  | (k, t) :: l, _, _, ⟨_, _, _, a0, b0⟩, ⟨v, lr, e1, a1, b1⟩ => ⟨v, lr, e1, a0.closed pre e m a1, RepKV.closed pre e m b0 b1⟩
theorem RepKT.closed {ω'' : Wd} (pre : ω.rho <+: ω'.rho) (e : ω''.rho = ω.rho) (m : ∀ a o, ω'.Phi a = some o → ω''.Phi a = some o) : ∀ {a : List (List Int × T)} {b0 b : List DRow}, RepKT K ω a b0 → RepKT K ω' a b → RepKT K ω'' a b
  | [], _, _, _, r => r
  | (k, t) :: l, _, _, ⟨_, _, _, _, _, a0, b0⟩, ⟨b, v, lr, e1, s1, a1, b1⟩ => ⟨b, v, lr, e1, sqT_mono m s1, a0.closed pre e m a1, RepKT.closed pre e m b0 b1⟩
noncomputable def cutW (ω' : Wd) (n : Nat) (H' : Hp) : Wd := ⟨ω'.rho.take n, fun a => if a ∈ ω'.rho.drop n then H' a else ω'.Phi a⟩
theorem cut_phi (S' : StOk K cl ω' h' H') (n : Nat) : ∀ a o, ω'.Phi a = some o → (cutW ω' n H').Phi a = some o := fun a o e => by
  show (if a ∈ ω'.rho.drop n then H' a else ω'.Phi a) = some o
  split
  · exact S'.phi a o e
  · exact e
theorem cut_ok (S : StOk K cl ω h H) (N : Nx ω H ω' H') (S' : StOk K cl ω' h' H') (si : sameIns h h') : Nx ω H (cutW ω' h.length H') H' ∧ StOk K cl (cutW ω' h.length H') (h'.take h.length) H' := by
  have hrho : ω'.rho.take h.length = ω.rho := by
    obtain ⟨l, q⟩ := N.pre
    rw [← q, ← S.len, List.take_left]
  have hle : h.length ≤ h'.length := by
    rw [← S.len, ← S'.len]
    exact N.pre.length_le
  have hph := cut_phi S' h.length
  refine ⟨⟨⟨?_, fun a o e => hph a o (N.phi a o e)⟩, fun p hp => N.newR p (List.mem_of_mem_take hp), fun a o e => ?_, N.fr, N.dom⟩, ⟨?_, ?_, ?_, ?_, ?_⟩⟩
  · show ω.rho <+: ω'.rho.take h.length
    rw [hrho]
    exact List.prefix_refl _
  · have e' : (if a ∈ ω'.rho.drop h.length then H' a else ω'.Phi a) = some o := e
    split at e'
    · rename_i hm
      refine .inr (.inl ?_)
      rcases N.newR a (List.mem_of_mem_drop hm) with z | z
      · exfalso
        have z' : a ∈ ω'.rho.take h.length := by rw [hrho]; exact z
        have nd := S'.nd
        rw [← List.take_append_drop h.length ω'.rho, List.nodup_append] at nd
        exact nd.2.2 a z' a hm rfl
      · exact z
    · exact N.newF a o e'
  · show (ω'.rho.take h.length).length = (h'.take h.length).length
    rw [List.length_take, List.length_take, S'.len]
  · exact S'.nd.sublist (List.take_sublist _ _)
  · intro i c p a b
    have hi : i < h.length := by
      have := (List.getElem?_eq_some_iff.mp a).1
      rw [List.length_take] at this
      omega
    rw [List.getElem?_take_of_lt hi] at a
    have b' : (ω'.rho.take h.length)[i]? = some p := b
    rw [List.getElem?_take_of_lt hi] at b'
    have k := S'.cells i c p a b'
    cases c with
    | lst xs => obtain ⟨k1, vs, k2, k3⟩ := k; exact ⟨k1, vs, k2, k3.pure hph k1⟩
    | dK xs => obtain ⟨k1, vs, k2, k3⟩ := k; exact ⟨k1, vs, k2, k3.pure hph k1⟩
    | dT xs => obtain ⟨k1, vs, k2, k3⟩ := k; exact ⟨k1, vs, k2, k3.pure hph k1.1⟩
    | dead => exact k
    | tab P F =>
      obtain ⟨k1, ps, k2, k3, k4⟩ := k
      exact ⟨k1, ps, k2, k3, fun pos cv hc => let ⟨c, e1, e2⟩ := k4 pos cv hc; ⟨c, e1, hph _ _ e2⟩⟩
    | ins c fs =>
      obtain ⟨p0, e0, k0⟩ := S.at_ (si i c fs hi a)
      rcases k with ⟨cc, dx, l, k2, k3⟩ | ⟨cc, kvs, l, ek, el, k2, k3⟩
      · rcases k0 with ⟨_, dx0, l0, k20, k30⟩ | ⟨c2, _⟩
        · exact .inl ⟨cc, dx, l, k2, RepKV.closed N.pre hrho hph k30 k3⟩
        · omega
      · rcases k0 with ⟨c2, _⟩ | ⟨_, kvs0, l0, ek0, _, _, k30⟩
        · omega
        · have : kvs0 = kvs := encK_inj (ek0.symm.trans ek)
          subst this
          exact .inr ⟨cc, kvs0, l, ek, el, k2, RepKT.closed N.pre hrho hph k30 k3⟩
  · intro a o e
    have e' : (if a ∈ ω'.rho.drop h.length then H' a else ω'.Phi a) = some o := e
    split at e'
    · exact e'
    · exact S'.phi a o e'
  · intro i p hp
    have hp' : (ω'.rho.take h.length)[i]? = some p := hp
    have hi : i < h.length := by
      have := (List.getElem?_eq_some_iff.mp hp').1
      rw [List.length_take] at this
      omega
    have hp2 := hp'
    rw [List.getElem?_take_of_lt hi] at hp2
    rw [List.getElem?_take_of_lt hi]
    refine (S'.dis i p hp2).imp id fun z => ?_
    show (if p ∈ ω'.rho.drop h.length then H' p else ω'.Phi p) = none
    rw [if_neg (fun m => by
      have nd := S'.nd
      rw [← List.take_append_drop h.length ω'.rho, List.nodup_append] at nd
      exact nd.2.2 p (List.mem_of_getElem? hp') p m rfl)]
    exact z
mutual
theorem frz_ok (S' : StOk K cl ω' h' H') (n : Nat) : ∀ {t t' : T} {v : V}, frz n h' t = some t' → Rep K ω' t v → Rep K (cutW ω' n H') t' v
  | .non, t', v, e, r => by simp only [frz, Option.some.injEq] at e; subst e; simpa only [Rep] using r
  | .bl _, t', v, e, r => by simp only [frz, Option.some.injEq] at e; subst e; simpa only [Rep] using r
  | .int _, t', v, e, r => by simp only [frz, Option.some.injEq] at e; subst e; simpa only [Rep] using r
  | .str _, t', v, e, r => by simp only [frz, Option.some.injEq] at e; subst e; simpa only [Rep] using r
  | .scr _, t', v, e, r => by
    simp only [frz, Option.some.injEq] at e
    subst e
    simp only [Rep] at r ⊢
    obtain ⟨p, e1, a⟩ := r
    exact ⟨p, e1, sqL_mono (cut_phi S' n) a⟩
  | .adr _ _ _ _, t', v, e, r => by simp [frz] at e
  | .fnc _, t', v, e, r => by simp [frz] at e
  | .unk, t', v, e, r => by simp only [frz, Option.some.injEq] at e; subst e; simpa only [Rep] using r
  | .emp, t', v, e, r => by
    simp only [frz, Option.some.injEq] at e
    subst e
    simp only [Rep] at r ⊢
    obtain ⟨p, e1, a⟩ := r
    exact ⟨p, e1, cut_phi S' n _ _ a⟩
  | .tup xs, t', v, e, r => by
    simp only [frz, Option.map_eq_some_iff] at e
    obtain ⟨ys, e1, rfl⟩ := e
    simp only [Rep] at r ⊢
    obtain ⟨p, vs, e2, a, b⟩ := r
    exact ⟨p, vs, e2, sqT_mono (cut_phi S' n) a, frzs_ok S' n e1 b⟩
  | .lst xs, t', v, e, r => by
    simp only [frz, Option.map_eq_some_iff] at e
    obtain ⟨ys, e1, rfl⟩ := e
    simp only [Rep] at r ⊢
    obtain ⟨p, vs, e2, a, b⟩ := r
    exact ⟨p, vs, e2, cut_phi S' n _ _ a, frzs_ok S' n e1 b⟩
  | .dct ks xs, t', v, e, r => by
    simp only [frz, Option.map_eq_some_iff] at e
    obtain ⟨ys, e1, rfl⟩ := e
    simp only [Rep] at r ⊢
    obtain ⟨p, vs, e2, a, b⟩ := r
    exact ⟨p, vs, e2, by rw [frzs_len e1]; exact fixR_mono (cut_phi S' n) a, frzs_ok S' n e1 b⟩
  | .loc m, t', v, e, r => by
    simp only [frz] at e
    split at e
    · rename_i hm
      cases e
      simp only [Rep] at r ⊢
      obtain ⟨p, e2, a⟩ := r
      refine ⟨p, e2, ?_⟩
      show (ω'.rho.take n)[m]? = some p
      rw [List.getElem?_take_of_lt hm]
      exact a
    · rename_i hm
      split at e
      · rename_i xs hn
        cases e
        obtain ⟨p, vs, rfl, q, b, c, d⟩ := lst_at S' r hn
        simp only [Rep]
        refine ⟨p, vs, rfl, ?_, c.pure (cut_phi S' n) d⟩
        show (if p ∈ ω'.rho.drop n then H' p else ω'.Phi p) = _
        rw [if_pos]
        · exact b
        · have hmn : n ≤ m := by omega
          refine List.mem_of_getElem? (i := m - n) ?_
          rw [List.getElem?_drop, Nat.add_sub_cancel' hmn]
          exact q
      · cases e
theorem frzs_ok (S' : StOk K cl ω' h' H') (n : Nat) : ∀ {ts ts' : List T} {vs : List V}, frzs n h' ts = some ts' → Reps K ω' ts vs → Reps K (cutW ω' n H') ts' vs
  | [], ts', vs, e, r => by simp only [frzs, Option.some.injEq] at e; subst e; simpa only [Reps] using r
  | x :: xs, ts', vs, e, r => by
    simp only [frzs] at e
    split at e
    · rename_i y ys e1 e2
      cases e
      obtain ⟨v, vr, rfl, a, b⟩ := r.inv
      exact Reps.cons (frz_ok S' n e1 a) (frzs_ok S' n e2 b)
    · cases e
end
theorem retF_ok {W : WX} {σ : L2.St} {t : T} {Q : VK} (S : StOk K cl ω h H) (q : PostG K cl W ω H σ (retF h t h') fun t _ ω' H' => ∀ v, Rep K ω' t v → Q v H') (N : Nx ω H ω' H') (S' : StOk K cl ω' h' H') {v : V} (r : Rep K ω' t v) : Q v H' := by
  unfold retF at q
  split at q
  · rename_i si
    obtain ⟨N2, S2⟩ := cut_ok S N S' si
    split at q
    · rename_i hp
      exact q _ H' N2 S2 v (frz_ok S' _ (frz_pu hp) r)
    · split at q
      · rename_i t' et
        exact q _ H' N2 S2 v (frz_ok S' _ et r)
      · exact q.elim
  · exact q.elim
theorem XOk.cut {e : Ex} {cls : Value} {d : Option Addr} (x : XOk K cl ω' H' e cls d) (hp : e.pu = true) {ω'' : Wd} (m : ∀ a o, ω'.Phi a = some o → ω''.Phi a = some o) : XOk K cl ω'' H' e cls d := by
  cases e with
  | txt c => exact x
  | fld c f t =>
    obtain ⟨a, b, dx, v, e1, e2, e3⟩ := x
    exact ⟨a, b, dx, v, e1, e2, e3.pure m b⟩
theorem fin_ok {E : XK} {keep : Bool} {o : SO} {Q : VK} (S : StOk K cl ω h H) (q : PostG K cl (fun cls d _ H' => E cls d H') ω H [] (finF keep h o) fun t _ ω' H' => ∀ v, Rep K ω' t v → Q v H') :
    PostS K cl (fun cls d _ H' => E cls d H') ω H o { nx := fun _ H' => Q .non H', rt := Q } := by
  cases o with
  | bad => exact q
  | bk env h' => exact q.elim
  | ct env h' => exact q.elim
  | rt t h' =>
    intro ω' H' v N S' r
    cases keep with
    | true => exact q ω' H' N S' v r
    | false => exact retF_ok S q N S' r
  | nx env h' =>
    intro ω' H' σ' N S' e
    cases keep with
    | true => exact q ω' H' N S' _ rep_non
    | false => exact retF_ok S (t := .non) q N S' rep_non
  | ex e env h' =>
    intro ω' H' σ' cls d N S' _ x
    cases keep with
    | true => exact q ω' H' cls d N S' x
    | false =>
      have q : PostG K cl (fun cls d _ H' => E cls d H') ω H [] (if sameIns h h' ∧ e.pu = true then Out.ex e (h'.take h.length) else .bad) _ := q
      split at q
      · rename_i c
        obtain ⟨N2, S2⟩ := cut_ok S N S' c.1
        exact q _ H' cls d N2 S2 (x.cut c.2 (cut_phi S' _))
      · exact q.elim
theorem startE_ok {n : Nat} {N : List Str} (hn : N.length = n) {ts : List T} {vs : List V} (r : Reps K ω ts vs) : EnvOk K ω (startE n ts) (L2.start N vs) := by
  unfold startE L2.start
  rw [hn, ← r.length]
  refine ⟨by simp [r.length], fun i t e => ?_⟩
  by_cases hi : i < ts.length
  · rw [List.getElem?_append_left (by simpa using hi), List.getElem?_map] at e
    rw [List.getElem?_append_left (by rw [List.length_map, ← r.length]; exact hi), List.getElem?_map]
    cases et : ts[i]? with
    | none => rw [et] at e; cases e
    | some u =>
      rw [et] at e
      cases e
      obtain ⟨v, e1, r1⟩ := r.get et
      exact ⟨v, by rw [e1]; rfl, r1⟩
  · rw [List.getElem?_append_right (by simpa using Nat.le_of_not_lt hi)] at e
    have := List.mem_of_getElem? e
    rw [List.mem_replicate] at this
    cases this.2
end
structure Ok (X : Cx) (W : WX) (k : Nat) : Prop where
  calm : X.calm = true
  nd : X.N.Nodup
  tk : L2N.Takes X W
  hp : PassesOwn (model X.prog X.w) X.A X.env X.xe
  room : Room k X.A
theorem tk0N {X : Cx} : L2N.Takes X (fun _ _ _ _ => False) := fun _ _ ⟨_, _, _, _, _, _, _, _, _, _, _, _, _, _, _, _, z⟩ => z.elim
theorem Ok.hu {X : Cx} {W : WX} {k : Nat} (c : Ok X W k) : X.A.units + 64 < cLine := c.room.units
theorem Ok.hu5 {X : Cx} {W : WX} {k : Nat} (c : Ok X W k) : X.A.units + 65 < cLine := by
  have := c.room.un
  omega
theorem Ok.hu0 {X : Cx} {W : WX} {k : Nat} (c : Ok X W k) : X.A.units < cLine := c.room.units0
theorem Ok.blk {X : Cx} {W : WX} {k : Nat} (c : Ok X W k) (s : Shared) (H : Hp) (scope : Scope) (cenv : Env) (fp : List Addr) : Ok (X.blk s H scope cenv fp) W0 k :=
  ⟨c.calm, c.nd, tk0N, PassesOwn.never, c.room⟩
section
variable {P : Program} {w : World} {K : PySem.W.Frag} {mg : Str → Option Value} {base : Heap} {cl : Nat → Addr}
end
def mCall (F : Fn) (r : M (List T)) : M T := fun env h => (r env h).bind fun as h1 => F as h1
section
variable {X : Cx} {W : WX} {cl : Nat → Addr} {k j n : Nat} {f : Addr} {fd : FuncData} {ps : List Str} {F : Fn} {x : Str} {p pos : Pos} {e : Expr} {es : List Expr} {r : M (List T)}
theorem PostG.reW {K : PySem.W.Frag} {α : Type} {ω : Wd} {H : Hp} {σ : L2.St} {o : Out α} {R : α → Store → Wd → Hp → Prop} (q : PostG K cl W ω H σ o R) : PostG K cl (fun cls d _ H' => W cls d σ H') ω H [] o R := by
  cases o with
  | ok a h => exact q
  | ex e h => exact q
  | bad => exact q
theorem call_step {K : PySem.W.Frag} (hn : ∀ ts h, ts.length ≠ n → F ts h = .bad) {σ : L2.St} {H : Hp} {Q : VK} (h : tE K cl W (mCall F r) σ H Q) : tA K cl W r σ H fun vs H1 => spF K cl F n vs H1 Q (WE W σ) := by
  obtain ⟨env, h, ω, he, hs, q⟩ := h
  refine ⟨env, h, ω, he, hs, (PostG.bind q).mono fun ts h1 ω1 H1 N1 S1 q1 vs rs => ?_⟩
  refine ⟨Classical.byContradiction fun z => ?_, ts, h1, ω1, S1, rs, q1.reW⟩
  rw [hn ts h1 (by rw [rs.length]; exact z)] at q1
  exact q1
theorem fn_len {nargs nslots : Nat} {keep : Bool} {body : MS} : ∀ ts h, ts.length ≠ nargs → fn nargs nslots keep body ts h = .bad := fun ts h z => by
  unfold fn
  rw [if_neg z]
theorem k_call (c : Ok X W k) (G : FnOk X.prog X.w X.K X.mg X.base (L2N.CX X.prog X.w) j f fd ps (spF X.K cl F n)) (hj : j ≤ k) (hn : ∀ ts h, ts.length ≠ n → F ts h = .bad) (hg : Gl X x) (hm : X.mg x = some (.ref f)) (hk : PySem.W.keepIn X.K (.ref f) = true) (hb : Binds X.K fd ps [])
    (ha : PA X (e :: es) (tA X.K cl W r)) (hdb : (x == ("__debug__" : Str)) = false := by decide) (he : starEach (e :: es) X.env = (false, eval e X.env) :: starEach es X.env := by rfl) (hpl : (backTo pos (starEach es X.env)).any (·.1) = false := by rfl) :
    PE X (.Call (.Name x p) (e :: es) [] pos) (tE X.K cl W (mCall F r)) :=
  (pe_callS G (c.room.mono hj) hg hm hk hb (fun σ => L2N.passAt c.tk σ) ha hdb he hpl).weak fun _ _ _ h => call_step hn h
theorem k_call0 (c : Ok X W k) (G : FnOk X.prog X.w X.K X.mg X.base (L2N.CX X.prog X.w) j f fd ps (spF X.K cl F n)) (hj : j ≤ k) (hn : ∀ ts h, ts.length ≠ n → F ts h = .bad) (hg : Gl X x) (hm : X.mg x = some (.ref f)) (hk : PySem.W.keepIn X.K (.ref f) = true) (hb : Binds X.K fd ps [])
    (hdb : (x == ("__debug__" : Str)) = false := by decide) : PE X (.Call (.Name x p) [] [] pos) (tE X.K cl W (mCall F mNil)) := by
  refine ⟨fun pins s σ H Q I h => ?_⟩
  refine wpAny_Call_Name_kw (ld_glob I hg hm ?_ hdb)
  obtain ⟨env, h, ω, he, hs, q⟩ := h
  have q' : spF X.K cl F n [] H Q (WE W σ) := by
    refine ⟨Classical.byContradiction fun z => ?_, [], h, ω, hs, Reps.nil, PostG.reW q⟩
    have q2 : PostG X.K cl W ω H σ (F [] h) _ := q
    rw [hn [] h (fun e => z (by simpa using e))] at q2
    exact q2
  exact PySem.W.callWith_K0 I.kIn hk (run_fnS (us := []) G (c.room.mono hj) hb (L2N.passAt c.tk σ) I .nil q')
end
end Sm
namespace Sm
open PySem PySem.Spec PyProof.Rows L2
structure Cal (P : Program) (w : World) (K : PySem.W.Frag) (mg : Str → Option Value) (base : Heap) (cl : Nat → Addr) (x : Str) (j : Nat) (ps : List Str) (F : Fn) (n : Nat) : Prop where
  ex : ∃ f fd, FnOk P w K mg base (L2N.CX P w) j f fd ps (spF K cl F n) ∧ mg x = some (.ref f) ∧ PySem.W.keepIn K (.ref f) = true ∧ Binds K fd ps []
  len : ∀ ts h, ts.length ≠ n → F ts h = .bad
section
variable {X : Cx} {W : WX} {cl : Nat → Addr} {k j n : Nat} {ps : List Str} {F : Fn} {x : Str} {p pos : Pos} {e : Expr} {es : List Expr} {r : M (List T)}
theorem q_call (c : Ok X W k) (G : Cal X.prog X.w X.K X.mg X.base cl x j ps F n) (hj : j ≤ k) (hg : Gl X x)
    (ha : PA X (e :: es) (tA X.K cl W r)) (hdb : (x == ("__debug__" : Str)) = false := by decide) (he : starEach (e :: es) X.env = (false, eval e X.env) :: starEach es X.env := by rfl) (hpl : (backTo pos (starEach es X.env)).any (·.1) = false := by rfl) :
    PE X (.Call (.Name x p) (e :: es) [] pos) (tE X.K cl W (mCall F r)) := by
  obtain ⟨f, fd, G1, m, kp, b⟩ := G.ex
  exact k_call c G1 hj G.len hg m kp b ha hdb he hpl
theorem q_call0 (c : Ok X W k) (G : Cal X.prog X.w X.K X.mg X.base cl x j ps F n) (hj : j ≤ k) (hg : Gl X x) (hdb : (x == ("__debug__" : Str)) = false := by decide) : PE X (.Call (.Name x p) [] [] pos) (tE X.K cl W (mCall F mNil)) := by
  obtain ⟨f, fd, G1, m, kp, b⟩ := G.ex
  exact k_call0 c G1 hj G.len hg m kp b hdb
end
section
variable {P : Program} {w : World} {K : PySem.W.Frag} {mg : Str → Option Value} {base : Heap} {cl : Nat → Addr}
theorem q_fnF {x qual : Str} {params : Arguments} {body : List Stmt} {scope : Scope} {f : Addr} {fd : FuncData} {N ps : List Str} {k nargs nslots : Nat} {keep : Bool} {sem : MS} (F : FunD K x qual params body scope [] [] f fd) (S : FnScope N ps scope) (hn : N.length = nslots) (hps : ps.length = nargs)
    (hB : ∀ (cdv : Value) (A : Around) (outer : List Env) (s : Shared) (H : Hp) (E : XK), Ok (cxOf (L2N.CX P w) P w K mg base N qual scope f cdv A outer s H E) (fun cls d _ H => E cls d H) k →
      PSs (cxOf (L2N.CX P w) P w K mg base N qual scope f cdv A outer s H E) body (tS K cl (fun cls d _ H => E cls d H) sem)) :
    FnOk P w K mg base (L2N.CX P w) (k + 1) f fd ps (spF K cl (fn nargs nslots keep sem) nargs) := by
  refine F.ok S (fun vs H Q E h => h.1.trans hps.symm) (fun cdv A outer s H vs Q E hr h => ?_)
  obtain ⟨hl, ts, h, ω, hS, hR, hP⟩ := h
  refine ⟨_, hB cdv A outer s H E ⟨rfl, S.nd, L2N.takes_of rfl rfl rfl rfl, passes_of rfl, hr⟩, startE nslots ts, h, ω, startE_ok hn hR, hS, ?_⟩
  unfold fn at hP
  split at hP
  · exact fin_ok hS hP
  · exact hP.elim
theorem q_fn {x qual : Str} {params : Arguments} {body : List Stmt} {scope : Scope} {f : Addr} {fd : FuncData} {N ps : List Str} {k nargs nslots : Nat} {keep : Bool} {sem : MS} (F : FunD K x qual params body scope [] [] f fd) (S : FnScope N ps scope) (hn : N.length = nslots) (hps : ps.length = nargs)
    (hm : mg x = some (.ref f)) (hb : Binds K fd ps [])
    (hB : ∀ (cdv : Value) (A : Around) (outer : List Env) (s : Shared) (H : Hp) (E : XK), Ok (cxOf (L2N.CX P w) P w K mg base N qual scope f cdv A outer s H E) (fun cls d _ H => E cls d H) k →
      PSs (cxOf (L2N.CX P w) P w K mg base N qual scope f cdv A outer s H E) body (tS K cl (fun cls d _ H => E cls d H) sem)) :
    Cal P w K mg base cl x (k + 1) ps (fn nargs nslots keep sem) nargs :=
  ⟨⟨f, fd, q_fnF F S hn hps hB, hm, F.kp, hb⟩, fn_len⟩
end
theorem walk_ofW {l : PySem.W.OpenLaw} {n k : Nat} {q : Program} {loose : List Str} {XP : (Str → Option Value) → Heap → Prop} {YP : World → Heap → Prop} {d : DefRec} {x : Str} {F : Fn}
    (hn : l.most = some n) (hn2 : n ≤ sizeLine) (hdf : d.params.defaults = []) (hr : Room k callerA)
    (hF : ∀ (w : World) (mg : Str → Option Value) (fa : Addr) (h : Heap), YP w h → h.Ns mainGlobals mg → mg d.name = some (.ref fa) → ∃ (K : PySem.W.Frag) (cl : Nat → Addr) (fd : FuncData), K.In h ∧ (∀ (s : Shared) (u : Value), BindsTo s fd ⟨[u], []⟩ [(x, u)]) ∧
      ∀ base : Heap, K.In base → base.Ns mainGlobals mg → FnOk l.prog w K mg base (L2N.CX l.prog w) k fa fd [x] (spF K cl F 1))
    (hL : ∀ ns : List Int, ns.length ≤ n → ∃ h', F [.scr ns] [] = .ok (.bl true) h') :
    PySem.W.WalkO q loose XP YP l.row.toRowW d [] (fun f vs => PySem.call f vs) := by
  refine Att.attach_call hn hdf fun w _ s1 mg _ fa _ _ _ _ a vs ns G Y _ _ _ mgd lies arei most gens => ?_
  have ⟨K, cl, fd, KX, bind1, ok1⟩ := hF w mg fa _ Y G.T.g mgd
  refine law_call (CX := L2N.CX l.prog w) KX G.T.g G.T.b G.T.builtins G.T.nolimit gens lies arei (Nat.le_trans most hn2) hr ok1 bind1 (fun H _ sq => ⟨rfl, [.scr ns], [], ⟨[], H⟩, ?_, Reps.one ?_, ?_⟩) ?_
  · exact ⟨rfl, List.nodup_nil, nofun, fun _ _ e => e, nofun⟩
  · simp only [Rep]
    exact ⟨a, rfl, sq⟩
  · have ⟨h', e⟩ := hL ns most
    rw [e]
    intro _ _ _ _ v r
    exact r.bl_inv
  · intro H e s' z
    obtain ⟨_, _, _, _, _, _, _, _, _, _, _, _, z⟩ := z
    exact z.elim
end Sm
namespace Sm
open PySem PySem.Spec PyProof.Rows L2
section
variable {X : Cx} {W : WX} {cl : Nat → Addr} {k : Nat} {m n : M T} {r : M (List T)} {e a b : Expr} {es : List Expr} {p p2 pos : Pos} {f : F2}
theorem q_var (i : Nat) {x : Str} (hN : X.N[i]? = some x := by rfl) (hv : Vis X.env.scope x := by first | exact Or.inl rfl | exact Or.inr (Or.inl rfl) | exact Or.inr (Or.inr rfl)) (hd : (x == ("__debug__" : Str)) = false := by decide)
    (hcd : (x == ("__classdict__" : Str)) = false := by decide) : PE X (.Name x pos) (tE X.K cl W (mVar i)) := k_var (pe_var hN hv hd hcd)
theorem q_set (nd : X.N.Nodup) (i : Nat) {x : Str} {pos' : Pos} (he : PE X e (tE X.K cl W m)) (hi : X.N[i]? = some x := by rfl) (hx : Loc X.env.scope x := by first | exact .inl rfl | exact .inr rfl) (hs : swapsWith e (some (.Name x pos')) pos.line X.env = pure false := by rfl)
    (hf : X.fn x = true ∨ X.env.scope.names.lookup x = some .local := by first | exact .inl rfl | exact .inr rfl) : PS X (.Assign [.Name x pos'] e pos) (tS X.K cl W (sSet i m)) := ks_set nd hi hx he hs hf
theorem q_one (nd : X.N.Nodup) (i : Nat) {x : Str} (hi : X.N[i]? = some x := by rfl) (hx : Loc X.env.scope x := by first | exact .inl rfl | exact .inr rfl) (hf : X.fn x = true ∨ X.env.scope.names.lookup x = some .local := by first | exact .inl rfl | exact .inr rfl) : PG X (.Name x pos) (gT X.K (.one i)) := kg_one nd hi hx hf
theorem q_gcons (nd : X.N.Nodup) (i : Nat) {x : Str} {p : Pos} {es : List Expr} {is : List Nat} (h2 : PGs X es (gMany is)) (hi : X.N[i]? = some x := by rfl) (hx : Loc X.env.scope x := by first | exact .inl rfl | exact .inr rfl) (hf : X.fn x = true ∨ X.env.scope.names.lookup x = some .local := by first | exact .inl rfl | exact .inr rfl)
    (hs : (assignEach (.Name x p :: es) X.env).map (·.2) = assign (.Name x p) X.env :: (assignEach es X.env).map (·.2) := by rfl) : PGs X (.Name x p :: es) (gMany (i :: is)) := kgs_cons nd hi hx h2 hf hs
theorem q_le (ha : PE X a (tE X.K cl W m)) (hb : PE X b (tE X.K cl W n)) : PE X (.Compare a [.LtE] [b] pos) (tE X.K cl W (mBin fLe m n)) := k_cmp o_le (nomark _) ha hb
theorem q_ge (ha : PE X a (tE X.K cl W m)) (hb : PE X b (tE X.K cl W n)) : PE X (.Compare a [.GtE] [b] pos) (tE X.K cl W (mBin fGe m n)) := k_cmp o_ge (nomark _) ha hb
theorem q_is (ha : PE X a (tE X.K cl W m)) (hb : PE X b (tE X.K cl W n)) : PE X (.Compare a [.Is] [b] pos) (tE X.K cl W (mBin fIs m n)) := k_cmp o_is (nomark _) ha hb
theorem qt_eq (hu : X.A.units + 64 < cLine) (ha : PE X a (tE X.K cl W m)) (hb : PE X b (tE X.K cl W n)) : PT X (.Compare a [.Eq] [b] pos) (tT X.K cl W (mTst (mBin fEq m n))) := kt_cmp (o_eq hu) (nomark _) ha hb
theorem qt_ne (hu : X.A.units + 64 < cLine) (ha : PE X a (tE X.K cl W m)) (hb : PE X b (tE X.K cl W n)) : PT X (.Compare a [.NotEq] [b] pos) (tT X.K cl W (mTst (mBin fNe m n))) := kt_cmp (o_ne hu) (nomark _) ha hb
theorem qt_lt (hu : X.A.units < cLine) (ha : PE X a (tE X.K cl W m)) (hb : PE X b (tE X.K cl W n)) : PT X (.Compare a [.Lt] [b] pos) (tT X.K cl W (mTst (mBin fLt m n))) := kt_cmp (o_lt hu) (nomark _) ha hb
theorem qt_le (ha : PE X a (tE X.K cl W m)) (hb : PE X b (tE X.K cl W n)) : PT X (.Compare a [.LtE] [b] pos) (tT X.K cl W (mTst (mBin fLe m n))) := kt_cmp o_le (nomark _) ha hb
theorem qt_gt (ha : PE X a (tE X.K cl W m)) (hb : PE X b (tE X.K cl W n)) : PT X (.Compare a [.Gt] [b] pos) (tT X.K cl W (mTst (mBin fGt m n))) := kt_cmp o_gt (nomark _) ha hb
theorem qt_ge (ha : PE X a (tE X.K cl W m)) (hb : PE X b (tE X.K cl W n)) : PT X (.Compare a [.GtE] [b] pos) (tT X.K cl W (mTst (mBin fGe m n))) := kt_cmp o_ge (nomark _) ha hb
theorem qt_is (ha : PE X a (tE X.K cl W m)) (hb : PE X b (tE X.K cl W n)) : PT X (.Compare a [.Is] [b] pos) (tT X.K cl W (mTst (mBin fIs m n))) := kt_cmp o_is (nomark _) ha hb
theorem qt_isnot (ha : PE X a (tE X.K cl W m)) (hb : PE X b (tE X.K cl W n)) : PT X (.Compare a [.IsNot] [b] pos) (tT X.K cl W (mTst (mBin fIsNot m n))) := kt_cmp o_isnot (nomark _) ha hb
theorem qt_notin (hu : X.A.units + 65 < cLine) (ha : PE X a (tE X.K cl W m)) (hb : PE X b (tE X.K cl W n)) (hm : behindInMarks .NotIn b = false := by rfl) : PT X (.Compare a [.NotIn] [b] pos) (tT X.K cl W (mTst (mBin fNotIn m n))) := kt_cmp (o_notin hu) hm ha hb
theorem q_idx (ha : PE X a (tE X.K cl W m)) (hb : PE X b (tE X.K cl W n)) (hs : PlainIx b := by exact fun _ _ => rfl) : PE X (.Subscript a b pos) (tE X.K cl W (mBin fIdx m n)) := k_idx hs ha hb
theorem q_len (z : X.mg "len" = none) (ha : PA X (e :: es) (tA X.K cl W r)) (hg : Gl X "len" := by rfl) (he : starEach (e :: es) X.env = (false, eval e X.env) :: starEach es X.env := by rfl) (hpl : (backTo pos (starEach es X.env)).any (·.1) = false := by rfl) : PE X (.Call (.Name "len" p) (e :: es) [] pos) (tE X.K cl W (mCallF fLen r)) := k_callB c_len hg z boot_len ha (by decide) (by decide) he hpl
theorem q_all (c : Ok X W k) (z : X.mg "all" = none) (ha : PA X (e :: es) (tA X.K cl W r)) (hg : Gl X "all" := by rfl) (he : starEach (e :: es) X.env = (false, eval e X.env) :: starEach es X.env := by rfl) (hpl : (backTo pos (starEach es X.env)).any (·.1) = false := by rfl) : PE X (.Call (.Name "all" p) (e :: es) [] pos) (tE X.K cl W (mCallF fAll r)) := k_callB (c_all c.calm) hg z boot_all ha (by decide) (by decide) he hpl
theorem q_any (c : Ok X W k) (z : X.mg "any" = none) (ha : PA X (e :: es) (tA X.K cl W r)) (hg : Gl X "any" := by rfl) (he : starEach (e :: es) X.env = (false, eval e X.env) :: starEach es X.env := by rfl) (hpl : (backTo pos (starEach es X.env)).any (·.1) = false := by rfl) : PE X (.Call (.Name "any" p) (e :: es) [] pos) (tE X.K cl W (mCallF fAny r)) := k_callB (c_any c.calm) hg z boot_any ha (by decide) (by decide) he hpl
theorem q_max (c : Ok X W k) (z : X.mg "max" = none) (ha : PA X (e :: es) (tA X.K cl W r)) (hg : Gl X "max" := by rfl) (he : starEach (e :: es) X.env = (false, eval e X.env) :: starEach es X.env := by rfl) (hpl : (backTo pos (starEach es X.env)).any (·.1) = false := by rfl) : PE X (.Call (.Name "max" p) (e :: es) [] pos) (tE X.K cl W (mCallF fMax r)) := k_callB (c_max c.calm) hg z boot_max ha (by decide) (by decide) he hpl
theorem q_min (c : Ok X W k) (z : X.mg "min" = none) (ha : PA X (e :: es) (tA X.K cl W r)) (hg : Gl X "min" := by rfl) (he : starEach (e :: es) X.env = (false, eval e X.env) :: starEach es X.env := by rfl) (hpl : (backTo pos (starEach es X.env)).any (·.1) = false := by rfl) : PE X (.Call (.Name "min" p) (e :: es) [] pos) (tE X.K cl W (mCallF fMin r)) := k_callB (c_min c.calm c.hu) hg z boot_min ha (by decide) (by decide) he hpl
theorem q_tuple (z : X.mg "tuple" = none) (ha : PA X (e :: es) (tA X.K cl W r)) (hg : Gl X "tuple" := by rfl) (he : starEach (e :: es) X.env = (false, eval e X.env) :: starEach es X.env := by rfl) (hpl : (backTo pos (starEach es X.env)).any (·.1) = false := by rfl) : PE X (.Call (.Name "tuple" p) (e :: es) [] pos) (tE X.K cl W (mCallF fTuple r)) := k_callTy c_tuple hg z boot_tuple ha (by decide) (by decide) he hpl
theorem qn_list (z : X.mg "list" = none) (ha : PA X (e :: es) (tA X.K cl W r)) (hg : Gl X "list" := by rfl) (he : starEach (e :: es) X.env = (false, eval e X.env) :: starEach es X.env := by rfl) (hpl : (backTo pos (starEach es X.env)).any (·.1) = false := by rfl) : PE X (.Call (.Name "list" p) (e :: es) [] pos) (tN X.K cl W (mNewA fList r)) := kn_callTy n_list hg z boot_list ha (by decide) (by decide) he hpl
theorem q_glob {x : Str} {t : T} {v : V} {u : Value} (hm : X.mg x = some u) (rv : RelV v u) (r : ∀ ω, Rep X.K ω t v) (hg : Gl X x := by rfl) (hd : (x == ("__debug__" : Str)) = false := by decide) : PE X (.Name x pos) (tE X.K cl W (mC t)) := k_const (pe_glob hg hm rv hd) r
end
def Con (K : PySem.W.Frag) (mg : Str → Option Value) (x : Str) (t : T) : Prop := ∃ v u, mg x = some u ∧ RelV v u ∧ ∀ ω, Rep K ω t v
theorem q_con {X : Cx} {W : WX} {cl : Nat → Addr} {x : Str} {t : T} {pos : Pos} (h : Con X.K X.mg x t) (hg : Gl X x := by rfl) (hd : (x == ("__debug__" : Str)) = false := by decide) : PE X (.Name x pos) (tE X.K cl W (mC t)) := by
  obtain ⟨v, u, a, b, c⟩ := h
  exact q_glob a b c hg hd
theorem con_ints {K : PySem.W.Frag} {mg : Str → Option Value} {x : Str} {ns : List Int} (hm : mg x = some (.ref (He.ga K x))) (h : He.tupB K x (ns.map He.Dv.int) = true) : Con K mg x (.tup (ns.map T.int)) := by
  refine ⟨.ref (He.ga K x), _, hm, rfl, fun ω => ?_⟩
  simp only [Rep]
  refine ⟨_, _, rfl, He.tupB_ok h ω.Phi, ?_⟩
  clear h
  induction ns with
  | nil => exact Reps.nil
  | cons n r ih => exact Reps.cons rep_int ih
def fNeg : F1
  | .int i, _ => some (.int (-i))
  | _, _ => none
section
variable {X : Cx} {cl : Nat → Addr} {W : WX} {e : Expr} {m : M T} {mb : M Bool} {pos : Pos}
theorem q_neg (he : PE X e (tE X.K cl W m)) : PE X (.UnaryOp .USub e pos) (tE X.K cl W (mUn fNeg m)) := by
  refine (pe_un un_neg he).weak fun σ H Q ⟨env, h, ω, he, hs, q⟩ => ⟨env, h, ω, he, hs, (PostG.bind q).mono fun t h1 ω1 H1 N1 S1 q1 v r => ?_⟩
  obtain ⟨u, e1, q2⟩ := q1.ofO
  cases t with
  | int i =>
    cases e1
    exact ⟨i, r.int_inv, q2 ω1 H1 (Nx.refl _ _) S1 _ rep_int⟩
  | _ => cases e1
theorem kts_nil : PTs X [] (tT X.K cl W mYes) := ⟨fun pins s σ H Q I ⟨env, h, ω, _, S, q⟩ => pts_nil.run pins s σ H Q I (q ω H (Nx.refl _ _) S)⟩
theorem kts_one (h : PT X e (tT X.K cl W mb)) : PTs X [e] (tT X.K cl W mb) := pts_one h
end
end Sm
namespace Sm
open PySem PySem.Spec PyProof.Rows L2
def Out.wp {α : Type} (o : Out α) (Q : α → Store → Prop) (X : Ex → Store → Prop) : Prop := match o with
  | .ok a h => Q a h
  | .ex e h => X e h
  | .bad => False
structure Pst where
  nx : Env' → Store → Prop
  rt : T → Store → Prop
  bk : Env' → Store → Prop
  ct : Env' → Store → Prop
  ex : Ex → Env' → Store → Prop
def SO.wp (o : SO) (P : Pst) : Prop := match o with
  | .nx e h => P.nx e h
  | .rt t h => P.rt t h
  | .bk e h => P.bk e h
  | .ct e h => P.ct e h
  | .ex x e h => P.ex x e h
  | .bad => False
section
variable {α β : Type} {Q : α → Store → Prop} {X : Ex → Store → Prop} {P : Pst} {env : Env'} {h : Store}
@[simp] theorem wp_ok {a : α} : (Out.ok a h).wp Q X = Q a h := rfl
@[simp] theorem wp_ex {e : Ex} : (Out.ex e h : Out α).wp Q X = X e h := rfl
@[simp] theorem wp_bad : (Out.bad : Out α).wp Q X = False := rfl
theorem wp_bind {o : Out β} {k : β → Store → Out α} : (o.bind k).wp Q X = o.wp (fun a h => (k a h).wp Q X) X := by cases o <;> rfl
@[simp] theorem so_nx : (SO.nx env h).wp P = P.nx env h := rfl
@[simp] theorem so_rt {t : T} : (SO.rt t h).wp P = P.rt t h := rfl
@[simp] theorem so_bk : (SO.bk env h).wp P = P.bk env h := rfl
@[simp] theorem so_ct : (SO.ct env h).wp P = P.ct env h := rfl
@[simp] theorem so_ex {e : Ex} : (SO.ex e env h).wp P = P.ex e env h := rfl
@[simp] theorem so_bad : SO.bad.wp P = False := rfl
theorem so_seq {o : SO} {k : MS} : (o.seq k).wp P = o.wp { P with nx := fun e h => (k e h).wp P } := by cases o <;> rfl
theorem so_bindE {o : Out β} {k : β → Store → SO} : (bindE o env k).wp P = o.wp (fun a h => (k a h).wp P) (fun e h => P.ex e env h) := by cases o <;> rfl
theorem Out.wp_mono {o : Out α} {Q' : α → Store → Prop} {X' : Ex → Store → Prop} (q : o.wp Q X) (f : ∀ a h, Q a h → Q' a h) (g : ∀ e h, X e h → X' e h) : o.wp Q' X' := by
  cases o with
  | ok a h => exact f a h q
  | ex e h => exact g e h q
  | bad => exact q
theorem Out.wp_eq {o : Out α} {a : α} (q : o.wp (fun b h' => b = a ∧ h' = h) (fun _ _ => False)) : o = .ok a h := by
  cases o with
  | ok b h' => obtain ⟨rfl, rfl⟩ := q; rfl
  | ex e h' => exact q.elim
  | bad => exact q.elim
theorem Out.wp_eq' {o : Out α} {a : α} {h1 : Store} (q : o.wp (fun b h' => b = a ∧ h' = h1) (fun _ _ => False)) : o = .ok a h1 := by
  cases o with
  | ok b h' => obtain ⟨rfl, rfl⟩ := q; rfl
  | ex e h' => exact q.elim
  | bad => exact q.elim
theorem SO.wp_mono {o : SO} {P' : Pst} (q : o.wp P) (n : ∀ e h, P.nx e h → P'.nx e h) (r : ∀ t h, P.rt t h → P'.rt t h) (b : ∀ e h, P.bk e h → P'.bk e h) (c : ∀ e h, P.ct e h → P'.ct e h) (x : ∀ z e h, P.ex z e h → P'.ex z e h) : o.wp P' := by
  cases o with
  | nx e h => exact n e h q
  | rt t h => exact r t h q
  | bk e h => exact b e h q
  | ct e h => exact c e h q
  | ex z e h => exact x z e h q
  | bad => exact q
@[simp] theorem wp_ite {c : Prop} [Decidable c] {a : T} {Q : T → Store → Prop} : (Out.ofO (if c then some a else none) h).wp Q X = (c ∧ Q a h) := by
  by_cases k : c
  · rw [if_pos k, eq_true k]; simp
  · rw [if_neg k, eq_false k]; simp [Out.wp, Out.ofO]
@[simp] theorem wp_iteB {c : Prop} [Decidable c] {o : Out α} : (if c then o else Out.bad).wp Q X = (c ∧ o.wp Q X) := by
  by_cases k : c
  · rw [if_pos k, eq_true k, true_and]
  · rw [if_neg k, eq_false k, false_and]; rfl
@[simp] theorem so_iteB {c : Prop} [Decidable c] {o : SO} : (if c then o else SO.bad).wp P = (c ∧ o.wp P) := by
  by_cases k : c
  · rw [if_pos k, eq_true k, true_and]
  · rw [if_neg k, eq_false k, false_and]; rfl
theorem forLoop_wp {gs : List (Nat × List T)} {tg : Tgt} {kill : List Nat} {body : MS} (items : List T) (I : Nat → Env' → Store → Prop)
    (step : ∀ i x env h, items[i]? = some x → I i env h → gsOk h gs ∧ ∃ env1, bindT tg x env = some env1 ∧
      (body env1 h).wp { nx := fun e h => I (i + 1) (dropE kill e) h, ct := fun e h => I (i + 1) (dropE kill e) h, bk := P.nx, rt := P.rt, ex := P.ex })
    (last : ∀ env h, I items.length env h → gsOk h gs ∧ P.nx env h) (h0 : I 0 env h) : (forLoop gs tg kill body items env h).wp P := by
  have key : ∀ (r : List T) (i : Nat) (env : Env') (h : Store), items.drop i = r → i ≤ items.length → I i env h → (forLoop gs tg kill body r env h).wp P := by
    intro r
    induction r with
    | nil =>
      intro i env h e hi hI
      have hl : i = items.length := by
        have := congrArg List.length e
        rw [List.length_drop] at this
        simp at this
        omega
      subst hl
      obtain ⟨g, p⟩ := last env h hI
      unfold forLoop
      rw [if_pos g]
      exact p
    | cons x r ih =>
      intro i env h e hi hI
      have hx : items[i]? = some x := by
        have := congrArg (·[0]?) e
        simpa using this
      have hlt : i < items.length := (List.getElem?_eq_some_iff.mp hx).1
      obtain ⟨g, env1, b1, w⟩ := step i x env h hx hI
      have er : items.drop (i + 1) = r := by
        rw [← List.drop_drop, e]
        rfl
      unfold forLoop
      rw [if_pos g, b1]
      show SO.wp (match body env1 h with
        | .nx env2 h2 => forLoop gs tg kill body r (dropE kill env2) h2
        | .ct env2 h2 => forLoop gs tg kill body r (dropE kill env2) h2
        | .bk env2 h2 => .nx env2 h2
        | o => o) P
      revert w
      cases body env1 h with
      | nx e2 h2 => exact fun w => ih (i + 1) _ _ er hlt w
      | ct e2 h2 => exact fun w => ih (i + 1) _ _ er hlt w
      | bk e2 h2 => exact fun w => w
      | rt t h2 => exact fun w => w
      | ex z e2 h2 => exact fun w => w
      | bad => exact fun w => w
  exact key items 0 env h rfl (Nat.zero_le _) h0
theorem compLoop_wp {Q : List T → Store → Prop} {gs : List (Nat × List T)} {tg : Tgt} {tt : M Bool} {me : M T} (items : List T) (I : Nat → List T → Store → Prop)
    (step : ∀ i x acc h, items[i]? = some x → acc.length ≤ i → I i acc h → gsOk h gs ∧ ∃ env1, bindT tg x env = some env1 ∧ (tt env1 h).wp (fun b h1 => if b = true then (me env1 h1).wp (fun y h2 => I (i + 1) (acc ++ [y]) h2) (fun _ _ => False) else I (i + 1) acc h1) (fun _ _ => False))
    (last : ∀ acc h, I items.length acc h → gsOk h gs ∧ Q acc h) (hn : items.length ≤ 100000) (h0 : I 0 [] h) : (compLoop gs tg tt me env items [] h).wp Q X := by
  have key : ∀ (r : List T) (i : Nat) (acc : List T) (h : Store), items.drop i = r → i ≤ items.length → acc.length ≤ i → I i acc h → (compLoop gs tg tt me env r acc h).wp Q X := by
    intro r
    induction r with
    | nil =>
      intro i acc h e hi _ hI
      have hl : i = items.length := by
        have := congrArg List.length e
        rw [List.length_drop] at this
        simp at this
        omega
      subst hl
      obtain ⟨g, p⟩ := last acc h hI
      unfold compLoop
      rw [if_pos g]
      exact p
    | cons x r ih =>
      intro i acc h e hi ha hI
      have hx : items[i]? = some x := by
        have := congrArg (·[0]?) e
        simpa using this
      have hlt : i < items.length := (List.getElem?_eq_some_iff.mp hx).1
      obtain ⟨g, env1, b1, w⟩ := step i x acc h hx ha hI
      have er : items.drop (i + 1) = r := by
        rw [← List.drop_drop, e]
        rfl
      unfold compLoop
      rw [if_pos g, b1]
      show ((tt env1 h).bindN _).wp Q X
      revert w
      cases tt env1 h with
      | bad => exact fun w => w.elim
      | ex z h1 => exact fun w => w.elim
      | ok b h1 =>
        intro w
        have w : if b = true then (me env1 h1).wp (fun y h2 => I (i + 1) (acc ++ [y]) h2) (fun _ _ => False) else I (i + 1) acc h1 := w
        show Out.wp (if b = true then _ else _) Q X
        cases b with
        | false =>
          rw [if_neg Bool.false_ne_true] at w ⊢
          exact ih (i + 1) acc h1 er hlt (by omega) w
        | true =>
          rw [if_pos rfl] at w ⊢
          revert w
          cases me env1 h1 with
          | bad => exact fun w => w.elim
          | ex z h2 => exact fun w => w.elim
          | ok y h2 =>
            intro w
            show Out.wp (if acc.length < 100000 then _ else _) Q X
            rw [if_pos (by omega)]
            exact ih (i + 1) (acc ++ [y]) h2 er hlt (by rw [List.length_append]; simp; omega) w
  exact key items 0 [] h rfl (Nat.zero_le _) (Nat.le_refl _) h0
theorem compLoop_pure {gs : List (Nat × List T)} {tg : Tgt} {tt : M Bool} {me : M T} (items : List T) (p : T → Bool) (f : T → T) (g : gsOk h gs) (hn : items.length ≤ 100000)
    (el : ∀ x ∈ items, ∃ env1, bindT tg x env = some env1 ∧ tt env1 h = .ok (p x) h ∧ (p x = true → me env1 h = .ok (f x) h)) : compLoop gs tg tt me env items [] h = .ok ((items.filter p).map f) h := by
  have key : ∀ (r acc : List T), (∀ x ∈ r, ∃ env1, bindT tg x env = some env1 ∧ tt env1 h = .ok (p x) h ∧ (p x = true → me env1 h = .ok (f x) h)) → acc.length + r.length ≤ 100000 → compLoop gs tg tt me env r acc h = .ok (acc ++ (r.filter p).map f) h := by
    intro r
    induction r with
    | nil =>
      intro acc _ _
      unfold compLoop
      rw [if_pos g]
      simp
    | cons x r ih =>
      intro acc hel hl
      rw [List.length_cons] at hl
      obtain ⟨env1, b1, t1, m1⟩ := hel x (List.mem_cons_self ..)
      unfold compLoop
      rw [if_pos g, b1]
      show (tt env1 h).bindN _ = _
      rw [t1, bindN_ok]
      cases hp : p x with
      | false =>
        rw [if_neg Bool.false_ne_true, ih acc (fun y hy => hel y (List.mem_cons_of_mem _ hy)) (by omega), List.filter_cons_of_neg (by rw [hp]; exact Bool.false_ne_true)]
      | true =>
        rw [if_pos rfl, m1 hp, bindN_ok, if_pos (by omega), ih (acc ++ [f x]) (fun y hy => hel y (List.mem_cons_of_mem _ hy)) (by rw [List.length_append]; simp; omega), List.filter_cons_of_pos hp]
        simp
  have := key items [] el (by simpa using hn)
  simpa using this
theorem compLoop_map {gs : List (Nat × List T)} {tg : Tgt} {me : M T} (items : List T) (f : T → T) (g : gsOk h gs) (hn : items.length ≤ 100000)
    (el : ∀ x ∈ items, ∃ env1, bindT tg x env = some env1 ∧ me env1 h = .ok (f x) h) : compLoop gs tg mYes me env items [] h = .ok (items.map f) h := by
  have := compLoop_pure (tg := tg) (tt := mYes) (me := me) (env := env) (h := h) items (fun _ => true) f g hn fun x hx => let ⟨e, a, b⟩ := el x hx; ⟨e, a, rfl, fun _ => b⟩
  rw [this, List.filter_eq_self.mpr fun _ _ => rfl]
theorem whileL_wp {c : M Bool} {kill : List Nat} {body : MS} (I : Nat → Env' → Store → Prop)
    (step : ∀ n env h, I n env h → (c env h).wp (fun b h1 => if b = true then (body env h1).wp { nx := fun e h => ∃ m, m < n ∧ I m (dropE kill e) h, ct := fun e h => ∃ m, m < n ∧ I m (dropE kill e) h, bk := P.nx, rt := P.rt, ex := P.ex } else P.nx env h1) (fun e h1 => P.ex e env h1))
    (n : Nat) (h0 : I n env h) : (whileL c kill body env h).wp P := by
  induction n using Nat.strongRecOn generalizing env h with
  | ind n ih =>
    have w := step n env h h0
    rw [whileL_eq]
    unfold wStep
    revert w
    cases c env h with
    | bad => exact fun w => w
    | ex e h1 => exact fun w => w
    | ok b h1 =>
      intro w
      have w : if b = true then (body env h1).wp { nx := fun e h => ∃ m, m < n ∧ I m (dropE kill e) h, ct := fun e h => ∃ m, m < n ∧ I m (dropE kill e) h, bk := P.nx, rt := P.rt, ex := P.ex } else P.nx env h1 := w
      cases b with
      | false => rwa [if_neg Bool.false_ne_true] at w
      | true =>
        rw [if_pos rfl] at w
        show SO.wp (match (match body env h1 with
          | .nx env2 h2 => WS.go (dropE kill env2) h2
          | .ct env2 h2 => WS.go (dropE kill env2) h2
          | .bk env2 h2 => WS.out (.nx env2 h2)
          | o => WS.out o) with
          | .out o => o
          | .go env2 h2 => whileL c kill body env2 h2) P
        revert w
        cases body env h1 with
        | bad => exact fun w => w
        | nx e2 h2 => exact fun ⟨m, lt, i⟩ => ih m lt i
        | ct e2 h2 => exact fun ⟨m, lt, i⟩ => ih m lt i
        | bk e2 h2 => exact fun w => w
        | rt t h2 => exact fun w => w
        | ex e e2 h2 => exact fun w => w
def fnP (h : Store) (Q : T → Store → Prop) (X : Ex → Store → Prop) : Pst where
  nx _ h' := sameIns h h' ∧ Q .non (h'.take h.length)
  rt t h' := sameIns h h' ∧ ((t.pu = true ∧ Q t (h'.take h.length)) ∨ (t.pu = false ∧ ∃ t', frz h.length h' t = some t' ∧ Q t' (h'.take h.length)))
  bk _ _ := False
  ct _ _ := False
  ex e _ h' := sameIns h h' ∧ e.pu = true ∧ X e (h'.take h.length)
def fnK (Q : T → Store → Prop) (X : Ex → Store → Prop) : Pst where
  nx _ h' := Q .non h'
  rt t h' := Q t h'
  bk _ _ := False
  ct _ _ := False
  ex e _ h' := X e h'
theorem retF_wp {Q : T → Store → Prop} {h h' : Store} {t : T} (s : sameIns h h') (q : (t.pu = true ∧ Q t (h'.take h.length)) ∨ (t.pu = false ∧ ∃ t', frz h.length h' t = some t' ∧ Q t' (h'.take h.length))) : (retF h t h').wp Q X := by
  unfold retF
  rw [if_pos s]
  obtain ⟨a, b⟩ | ⟨a, t', b, c⟩ := q
  · rw [if_pos a]
    exact b
  · rw [if_neg (by rw [a]; exact Bool.false_ne_true), b]
    exact c
theorem fn_wp {Q : T → Store → Prop} {n k : Nat} {body : MS} {ts : List T} (hl : ts.length = n) (w : (body (startE k ts) h).wp (fnP h Q X)) : (fn n k false body ts h).wp Q X := by
  unfold fn
  rw [if_pos hl]
  revert w
  cases body (startE k ts) h with
  | bad => exact fun w => w
  | bk e h' => exact fun w => w
  | ct e h' => exact fun w => w
  | nx e h' => exact fun ⟨s, q⟩ => retF_wp s (.inl ⟨rfl, q⟩)
  | rt t h' => exact fun ⟨s, q⟩ => retF_wp s q
  | ex e e' h' =>
    intro ⟨s, p, q⟩
    show Out.wp (if _ then _ else _) Q X
    rw [if_pos ⟨s, p⟩]
    exact q
theorem fnK_wp {Q : T → Store → Prop} {n k : Nat} {body : MS} {ts : List T} (hl : ts.length = n) (w : (body (startE k ts) h).wp (fnK Q X)) : (fn n k true body ts h).wp Q X := by
  unfold fn
  rw [if_pos hl]
  revert w
  cases body (startE k ts) h with
  | bad => exact fun w => w
  | bk e h' => exact fun w => w
  | ct e h' => exact fun w => w
  | nx e h' => exact fun w => w
  | rt t h' => exact fun w => w
  | ex e e' h' => exact fun w => w
end
section
variable {h h' : Store} {n : Nat}
theorem si_refl : sameIns h h := fun _ _ _ _ e => e
theorem si_app (l : Store) (a : sameIns h h') (hl : h'.length = h.length) : sameIns h (h' ++ l) := fun i c fs hi e => a i c fs hi (by rwa [List.getElem?_append_left (by omega)] at e)
theorem si_set {xs : List T} (a : sameIns h h') : sameIns h (h'.set n (.lst xs)) := fun i c fs hi e => by
  by_cases hn : n = i
  · subst hn
    rw [List.getElem?_set_self' ] at e
    cases hh : h'[n]? with
    | none => rw [hh] at e; cases e
    | some z => rw [hh] at e; cases e
  · rw [List.getElem?_set_ne hn] at e
    exact a i c fs hi e
def potAt (h : Store) (n : Nat) (v : Int) : Prop := h[n]? = some (.lst [.int v]) ∧ 0 ≤ v
theorem potAt.lt {v : Int} (p : potAt h n v) : n < h.length := (List.getElem?_eq_some_iff.mp p.1).1
theorem potAt.set {v w : Int} (p : potAt h n v) (hw : 0 ≤ w) : potAt (h.set n (.lst [.int w])) n w := ⟨List.getElem?_set_self p.lt, hw⟩
theorem potAt.app {v : Int} (p : potAt h n v) (l : Store) : potAt (h ++ l) n v := ⟨by rw [List.getElem?_append_left p.lt]; exact p.1, p.2⟩
end
section
variable {α : Type} {ts : List α}
theorem ixN_p {n : Nat} {i : Int} (h : 0 ≤ i) (hn : i < n) : ixN n i = some i.toNat := by
  unfold ixN
  simp [h, hn]
theorem atI_p {i : Int} (h : 0 ≤ i) (hn : i < ts.length) : atI ts i = ts[i.toNat]? := by
  unfold atI
  rw [ixN_p h hn]
  rfl
@[simp] theorem atI_0 {x : α} : atI (x :: ts) 0 = some x := by rw [atI_p (by decide) (by simp only [List.length_cons]; omega)]; rfl
@[simp] theorem atI_1 {x y : α} : atI (x :: y :: ts) 1 = some y := by rw [atI_p (by decide) (by simp only [List.length_cons]; omega)]; rfl
@[simp] theorem atI_2 {x y z : α} : atI (x :: y :: z :: ts) 2 = some z := by rw [atI_p (by decide) (by simp only [List.length_cons]; omega)]; rfl
@[simp] theorem atI_3 {x y z w : α} : atI (x :: y :: z :: w :: ts) 3 = some w := by rw [atI_p (by decide) (by simp only [List.length_cons]; omega)]; rfl
end
theorem mulB_r {i j : Int} (h : j.natAbs < 2 ^ 64) : mulB i j = true := by
  have : Builtin.Int.intBits j ≤ 64 := by
    unfold Builtin.Int.intBits
    split
    · omega
    · rename_i z
      have z' : j.natAbs ≠ 0 := by
        intro e
        apply z
        simp [Int.natAbs_eq_zero.mp e]
      have := (Nat.log2_lt z').mpr h
      omega
  unfold mulB
  have e : decide (Builtin.Int.intBits j > shortFactorBits) = false := by
    apply decide_eq_false
    show ¬ _ > 64
    omega
  rw [e, Bool.and_false, Bool.false_and]
  rfl
theorem mulB_l {i j : Int} (h : i.natAbs < 2 ^ 64) : mulB i j = true := by
  have := mulB_r (i := j) h
  unfold mulB at this ⊢
  rw [Bool.and_comm (decide (Builtin.Int.intBits i > _)), Int.add_comm]
  exact this
theorem divB_s {j : Int} (h0 : j ≠ 0) (h : j.natAbs < 2 ^ 64) : divB j = true := by
  unfold divB
  have z' : j.natAbs ≠ 0 := by omega
  have := (Nat.log2_lt z').mpr h
  rw [decide_eq_true h0, decide_eq_true (by omega)]
  rfl
theorem fdiv_p {i j : Int} (h : 0 ≤ j) : i.fdiv j = i / j := Int.fdiv_eq_ediv_of_nonneg i h
theorem fmod_p {i j : Int} (h : 0 ≤ j) : i.fmod j = i % j := Int.fmod_eq_emod_of_nonneg i h
end Sm
namespace Sm
open PySem PySem.Spec PyProof.Rows L2
section
variable {env : Env'} {h : Store} {m n p : M T} {r : M (List T)} {c d : M Bool} {a b : MS} {i j : Nat} {f : F2} {g : FA}
@[simp] theorem q1_var : mVar i env h = match env[i]? with
  | some (some t) => .ok t h
  | _ => .bad := rfl
@[simp] theorem q1_C {t : T} : mC t env h = .ok t h := rfl
@[simp] theorem q1_bin : mBin f m n env h = (m env h).bind fun a h1 => (n env h1).bind fun b h2 => Out.ofO (f a b h2) h2 := rfl
@[simp] theorem q1_un {f : F1} : mUn f m env h = (m env h).bind fun a h1 => Out.ofO (f a h1) h1 := rfl
def asB : T → Store → Out Bool
  | .bl b, h => .ok b h
  | _, _ => .bad
@[simp] theorem asB_bl {b : Bool} : asB (.bl b) h = .ok b h := rfl
@[simp] theorem q1_tst : mTst m env h = (m env h).bind asB := by
  unfold mTst
  cases m env h with
  | ok t h1 => cases t <;> rfl
  | _ => rfl
@[simp] theorem q1_tru : mTru m env h = (m env h).bind fun a h1 => Out.ofO (truF a h1) h1 := rfl
@[simp] theorem q1_andT : mAndT c d env h = (c env h).bind fun a h1 => if a = true then d env h1 else .ok false h1 := rfl
@[simp] theorem q1_orT : mOrT c d env h = (c env h).bind fun a h1 => if a = true then .ok true h1 else d env h1 := rfl
@[simp] theorem q1_notT : mNotT c env h = (c env h).bind fun a h1 => .ok (!a) h1 := rfl
@[simp] theorem q1_andV : mAndV m n env h = ((m env h).bind asB).bind fun a h1 => if a = true then n env h1 else .ok (.bl false) h1 := by
  unfold mAndV
  cases m env h with
  | ok t h1 => cases t <;> rfl
  | _ => rfl
@[simp] theorem q1_orV : mOrV m n env h = ((m env h).bind asB).bind fun a h1 => if a = true then .ok (.bl true) h1 else n env h1 := by
  unfold mOrV
  cases m env h with
  | ok t h1 => cases t <;> rfl
  | _ => rfl
@[simp] theorem q1_notV : mNotV m env h = ((m env h).bind asB).bind fun a h1 => .ok (.bl (!a)) h1 := by
  unfold mNotV
  cases m env h with
  | ok t h1 => cases t <;> rfl
  | _ => rfl
@[simp] theorem q1_if : mIf c m n env h = (c env h).bind fun a h1 => if a = true then m env h1 else n env h1 := rfl
@[simp] theorem q1_chain {g : F2} : mChain f g m n p env h = (m env h).bind fun a h1 => (n env h1).bind fun b h2 => ((Out.ofO (f a b h2) h2).bind asB).bind fun c h3 => if c = true then (p env h3).bind fun d h4 => Out.ofO (g b d h4) h4 else .ok (.bl false) h3 := by
  unfold mChain
  congr 1
  funext a h1
  congr 1
  funext b h2
  cases Out.ofO (f a b h2) h2 with
  | ok t h1 => cases t <;> rfl
  | _ => rfl
@[simp] theorem q1_nil : mNil env h = .ok [] h := rfl
@[simp] theorem q1_cons : mCons m r env h = (m env h).bind fun a h1 => (r env h1).bind fun as h2 => .ok (a :: as) h2 := rfl
@[simp] theorem q1_tup : mTup r env h = (r env h).bind fun ts h1 => if ts.length ≤ 10000 then .ok (.tup ts) h1 else .bad := rfl
@[simp] theorem q1_lst : mLst r env h = (r env h).bind fun ts h1 => if ts.length ≤ 10000 then .ok ts h1 else .bad := rfl
@[simp] theorem q1_frz : mFrz r env h = (r env h).bind fun ts h1 => .ok (.lst ts) h1 := rfl
@[simp] theorem q1_cell : mCell r env h = (r env h).bind fun ts h1 => if pus ts = true then .ok (.loc h1.length) (h1 ++ [.lst ts]) else .bad := rfl
@[simp] theorem q1_new2 {f : T → T → Store → Option (List T)} : mNew2 f m n env h = (m env h).bind fun a h1 => (n env h1).bind fun b h2 => Out.ofO (f a b h2) h2 := rfl
@[simp] theorem q1_newA {f : List T → Store → Option (List T)} : mNewA f r env h = (r env h).bind fun as h1 => Out.ofO (f as h1) h1 := rfl
@[simp] theorem q1_callF : mCallF g r env h = (r env h).bind fun as h1 => Out.ofO (g as h1) h1 := rfl
@[simp] theorem q1_call {F : Fn} : mCall F r env h = (r env h).bind fun as h1 => F as h1 := rfl
@[simp] theorem q1_meth {f : FM} : mMethL f m r env h = (m env h).bind fun a h1 => match lstOf h1 a with
  | some _ => (r env h1).bind fun as h2 => outM (f a as h2)
  | none => .bad := rfl
@[simp] theorem q1_sl {lo hi : M (Option Int)} : mSl m lo hi env h = (m env h).bind fun a h1 => (lo env h1).bind fun l h2 => (hi env h2).bind fun u h3 => Out.ofO (fSl a l u h3) h3 := rfl
@[simp] theorem q1_part0 : mPart none env h = .ok none h := rfl
def asI : T → Store → Out (Option Int)
  | .int b, h => .ok (some b) h
  | _, _ => .bad
@[simp] theorem asI_int {b : Int} : asI (.int b) h = .ok (some b) h := rfl
@[simp] theorem q1_part1 : mPart (some m) env h = (m env h).bind asI := by
  show (m env h).bind _ = _
  cases m env h with
  | ok t h1 => cases t <;> rfl
  | _ => rfl
@[simp] theorem q1_yes : mYes env h = .ok true h := rfl
def asR1 : List T → Store → Out Src
  | [.int j], h => if j < 1000000 ∧ -1000000 < j then .ok ⟨rangeT 0 j.toNat, []⟩ h else .bad
  | _, _ => .bad
def asR2 : List T → Store → Out Src
  | [.int i, .int j], h => if i < 1000000 ∧ -1000000 < i ∧ j < 1000000 ∧ -1000000 < j then .ok ⟨rangeT i (j - i).toNat, []⟩ h else .bad
  | _, _ => .bad
@[simp] theorem q1_range1 : mRange1 r env h = (r env h).bind asR1 := by
  unfold mRange1
  congr 1
  funext as h1
  rcases as with _ | ⟨a, _ | ⟨b, l⟩⟩
  · rfl
  · cases a <;> rfl
  · cases a <;> rfl
@[simp] theorem q1_range2 : mRange2 r env h = (r env h).bind asR2 := by
  unfold mRange2
  congr 1
  funext as h1
  rcases as with _ | ⟨a, _ | ⟨b, _ | ⟨c, l⟩⟩⟩
  · rfl
  · cases a <;> rfl
  · cases a <;> cases b <;> rfl
  · cases a <;> cases b <;> rfl
theorem asR1_ok {k : Int} (a : k < 1000000) (b : -1000000 < k) : asR1 [.int k] h = .ok ⟨rangeT 0 k.toNat, []⟩ h := if_pos ⟨a, b⟩
theorem asR2_ok {k l : Int} (a : k < 1000000) (b : -1000000 < k) (c : l < 1000000) (d : -1000000 < l) : asR2 [.int k, .int l] h = .ok ⟨rangeT k (l - k).toNat, []⟩ h := if_pos ⟨a, b, c, d⟩
def asS : T → Store → Out Src
  | .str z, h => .ok ⟨z.cps.toList.map fun c => .str ⟨#[c]⟩, []⟩ h
  | t, h => match seqK h t with
    | some (_, xs) => .ok ⟨xs, gdOf h t⟩ h
    | none => .bad
@[simp] theorem q1_seqS : mSeq m env h = (m env h).bind asS := by
  unfold mSeq
  cases m env h with
  | ok t h1 => cases t <;> rfl
  | _ => rfl
@[simp] theorem asS_tup {xs : List T} : asS (.tup xs) h = .ok ⟨xs, []⟩ h := rfl
@[simp] theorem asS_lst {xs : List T} : asS (.lst xs) h = .ok ⟨xs, []⟩ h := rfl
@[simp] theorem q2_nil : sNil env h = .nx env h := rfl
@[simp] theorem q2_seq : sSeq a b env h = (a env h).seq b := rfl
@[simp] theorem q2_ret : sRet m env h = bindE (m env h) env fun t h1 => .rt t h1 := rfl
@[simp] theorem q2_retN : sRetN env h = .rt .non h := rfl
@[simp] theorem q2_exp : sExp m env h = bindE (m env h) env fun _ h1 => .nx env h1 := rfl
@[simp] theorem q2_if : sIf c a b env h = bindE (c env h) env fun k h1 => if k = true then a env h1 else b env h1 := rfl
@[simp] theorem q2_set : sSet i m env h = bindE (m env h) env fun t h1 => .nx (env.set i (some t)) h1 := rfl
@[simp] theorem q2_asg {g : Tgt} : sAsg g m env h = bindE (m env h) env fun t h1 => match bindT g t env with
  | some env1 => .nx env1 h1
  | none => .bad := rfl
@[simp] theorem q2_par : sPar i j m n env h = bindE (m env h) env fun t h1 => bindE (n env h1) env fun u h2 => .nx ((env.set i (some t)).set j (some u)) h2 := rfl
@[simp] theorem q2_brk : sBreak env h = .bk env h := rfl
@[simp] theorem q2_cnt : sCont env h = .ct env h := rfl
def setC (h : Store) (n : Nat) (k : Int) (v : T) (env : Env') : SO := match cellL h n with
  | some xs => match ixN xs.length k with
    | some j => if v.pu = true then .nx env (h.set n (.lst (xs.set j v))) else .bad
    | none => .bad
  | none => .bad
def asLK : T → T → (Nat → Int → SO) → SO
  | .loc n, .int k, q => q n k
  | _, _, _ => .bad
@[simp] theorem asLK_ok {n : Nat} {k : Int} {q : Nat → Int → SO} : asLK (.loc n) (.int k) q = q n k := rfl
@[simp] theorem q2_item {mo mi : M T} : sItem m mo mi env h = bindE (m env h) env fun v h1 => bindE (mo env h1) env fun a h2 => bindE (mi env h2) env fun i h3 => asLK a i fun n k => setC h3 n k v env := by
  unfold sItem
  congr 1
  funext v h1
  congr 1
  funext a h2
  congr 1
  funext i h3
  cases a <;> cases i <;> rfl
theorem setC_ok {n : Nat} {k : Int} {v : T} {xs : List T} (e : h[n]? = some (.lst xs)) (h0 : 0 ≤ k) (h1 : k < xs.length) (hv : v.pu = true) : setC h n k v env = .nx env (h.set n (.lst (xs.set k.toNat v))) := by
  unfold setC cellL
  rw [e]
  simp [ixN_p h0 h1, hv]
end
section
variable {x y : Int} {h : Store} {s t : T} {b : Bool}
@[simp] theorem q3_add : fAdd (.int x) (.int y) h = some (.int (x + y)) := rfl
@[simp] theorem q3_sub : fSub (.int x) (.int y) h = some (.int (x - y)) := rfl
@[simp] theorem q3_mul : fMul (.int x) (.int y) h = if mulB x y = true then some (.int (x * y)) else none := rfl
@[simp] theorem q3_fdiv : fFdiv (.int x) (.int y) h = if divB y = true then some (.int (x.fdiv y)) else none := rfl
@[simp] theorem q3_mod : fMod (.int x) (.int y) h = if y ≠ 0 then some (.int (x.fmod y)) else none := rfl
@[simp] theorem q3_neg : fNeg (.int x) h = some (.int (-x)) := rfl
@[simp] theorem q3_lt : fLt (.int x) (.int y) h = some (.bl (decide (x < y))) := rfl
@[simp] theorem q3_le : fLe (.int x) (.int y) h = some (.bl (decide (x ≤ y))) := rfl
@[simp] theorem q3_gt : fGt (.int x) (.int y) h = some (.bl (decide (y < x))) := rfl
@[simp] theorem q3_ge : fGe (.int x) (.int y) h = some (.bl (decide (y ≤ x))) := rfl
@[simp] theorem q3_eq : fEq (.int x) (.int y) h = some (.bl (decide (x = y))) := rfl
@[simp] theorem q3_ne : fNe (.int x) (.int y) h = some (.bl (!decide (x = y))) := rfl
@[simp] theorem q3_eqB {c : Bool} : fEq (.bl b) (.bl c) h = some (.bl (decide (b = c))) := rfl
@[simp] theorem q3_neB {c : Bool} : fNe (.bl b) (.bl c) h = some (.bl (!decide (b = c))) := rfl
@[simp] theorem q3_eqS {z w : Str} : fEq (.str z) (.str w) h = some (.bl (decide (z = w))) := rfl
@[simp] theorem q3_isN : fIs s .non h = some (.bl (isNon s)) := by cases s <;> rfl
@[simp] theorem q3_isnotN : fIsNot s .non h = some (.bl (!isNon s)) := by cases s <;> rfl
@[simp] theorem isNon_non : isNon .non = true := rfl
@[simp] theorem isNon_int : isNon (.int x) = false := rfl
@[simp] theorem isNon_bl : isNon (.bl b) = false := rfl
@[simp] theorem isNon_tup {xs : List T} : isNon (.tup xs) = false := rfl
@[simp] theorem isNon_lst {xs : List T} : isNon (.lst xs) = false := rfl
@[simp] theorem isNon_str {z : Str} : isNon (.str z) = false := rfl
@[simp] theorem isNon_loc {n : Nat} : isNon (.loc n) = false := rfl
@[simp] theorem isi_non_int : fIsi "int" .non h = some (.bl false) := rfl
@[simp] theorem isi_non_bool : fIsi "bool" .non h = some (.bl false) := rfl
@[simp] theorem isi_non_str : fIsi "str" .non h = some (.bl false) := rfl
@[simp] theorem isi_non_tuple : fIsi "tuple" .non h = some (.bl false) := rfl
@[simp] theorem isi_non_list : fIsi "list" .non h = some (.bl false) := rfl
@[simp] theorem isi_non_dict : fIsi "dict" .non h = some (.bl false) := rfl
@[simp] theorem isi_bl_int : fIsi "int" (.bl b) h = some (.bl true) := rfl
@[simp] theorem isi_bl_bool : fIsi "bool" (.bl b) h = some (.bl true) := rfl
@[simp] theorem isi_bl_str : fIsi "str" (.bl b) h = some (.bl false) := rfl
@[simp] theorem isi_bl_tuple : fIsi "tuple" (.bl b) h = some (.bl false) := rfl
@[simp] theorem isi_bl_list : fIsi "list" (.bl b) h = some (.bl false) := rfl
@[simp] theorem isi_bl_dict : fIsi "dict" (.bl b) h = some (.bl false) := rfl
@[simp] theorem isi_int_int : fIsi "int" (.int x) h = some (.bl true) := rfl
@[simp] theorem isi_int_bool : fIsi "bool" (.int x) h = some (.bl false) := rfl
@[simp] theorem isi_int_str : fIsi "str" (.int x) h = some (.bl false) := rfl
@[simp] theorem isi_int_tuple : fIsi "tuple" (.int x) h = some (.bl false) := rfl
@[simp] theorem isi_int_list : fIsi "list" (.int x) h = some (.bl false) := rfl
@[simp] theorem isi_int_dict : fIsi "dict" (.int x) h = some (.bl false) := rfl
@[simp] theorem isi_str_int {z : Str} : fIsi "int" (.str z) h = some (.bl false) := rfl
@[simp] theorem isi_str_bool {z : Str} : fIsi "bool" (.str z) h = some (.bl false) := rfl
@[simp] theorem isi_str_str {z : Str} : fIsi "str" (.str z) h = some (.bl true) := rfl
@[simp] theorem isi_str_tuple {z : Str} : fIsi "tuple" (.str z) h = some (.bl false) := rfl
@[simp] theorem isi_str_list {z : Str} : fIsi "list" (.str z) h = some (.bl false) := rfl
@[simp] theorem isi_str_dict {z : Str} : fIsi "dict" (.str z) h = some (.bl false) := rfl
@[simp] theorem isi_tup_int {xs : List T} : fIsi "int" (.tup xs) h = some (.bl false) := rfl
@[simp] theorem isi_tup_bool {xs : List T} : fIsi "bool" (.tup xs) h = some (.bl false) := rfl
@[simp] theorem isi_tup_str {xs : List T} : fIsi "str" (.tup xs) h = some (.bl false) := rfl
@[simp] theorem isi_tup_tuple {xs : List T} : fIsi "tuple" (.tup xs) h = some (.bl true) := rfl
@[simp] theorem isi_tup_list {xs : List T} : fIsi "list" (.tup xs) h = some (.bl false) := rfl
@[simp] theorem isi_tup_dict {xs : List T} : fIsi "dict" (.tup xs) h = some (.bl false) := rfl
@[simp] theorem isi_lst_int {xs : List T} : fIsi "int" (.lst xs) h = some (.bl false) := rfl
@[simp] theorem isi_lst_bool {xs : List T} : fIsi "bool" (.lst xs) h = some (.bl false) := rfl
@[simp] theorem isi_lst_str {xs : List T} : fIsi "str" (.lst xs) h = some (.bl false) := rfl
@[simp] theorem isi_lst_tuple {xs : List T} : fIsi "tuple" (.lst xs) h = some (.bl false) := rfl
@[simp] theorem isi_lst_list {xs : List T} : fIsi "list" (.lst xs) h = some (.bl true) := rfl
@[simp] theorem isi_lst_dict {xs : List T} : fIsi "dict" (.lst xs) h = some (.bl false) := rfl
@[simp] theorem q3_len {xs : List T} : fLen [.tup xs] h = some (.int xs.length) := rfl
@[simp] theorem q3_lenL {xs : List T} : fLen [.lst xs] h = some (.int xs.length) := rfl
@[simp] theorem q3_lenS {ns : List Int} : fLen [.scr ns] h = some (.int ns.length) := by
  show some (T.int ((ns.map T.int).length : Nat)) = _
  rw [List.length_map]
theorem q3_lenC {n : Nat} {xs : List T} (e : h[n]? = some (.lst xs)) : fLen [.loc n] h = some (.int xs.length) := by
  simp [fLen, e]
@[simp] theorem q3_idx {xs : List T} : fIdx (.tup xs) (.int x) h = atI xs x := rfl
@[simp] theorem q3_idxL {xs : List T} : fIdx (.lst xs) (.int x) h = atI xs x := rfl
@[simp] theorem q3_idxS {ns : List Int} : fIdx (.scr ns) (.int x) h = atI (ns.map T.int) x := rfl
theorem q3_idxC {n : Nat} {xs : List T} (e : h[n]? = some (.lst xs)) : fIdx (.loc n) (.int x) h = atI xs x := by
  simp [fIdx, e]
@[simp] theorem q3_int : fInt [.int x] h = some (.int x) := rfl
@[simp] theorem pu_int : (T.int x).pu = true := rfl
@[simp] theorem pu_bl : (T.bl b).pu = true := rfl
@[simp] theorem pu_non : T.non.pu = true := rfl
@[simp] theorem pu_str {z : Str} : (T.str z).pu = true := rfl
@[simp] theorem pu_loc {n : Nat} : (T.loc n).pu = false := rfl
@[simp] theorem pu_tup {xs : List T} : (T.tup xs).pu = pus xs := by simp only [T.pu]
@[simp] theorem pu_lst {xs : List T} : (T.lst xs).pu = pus xs := by simp only [T.pu]
@[simp] theorem pus_nil : pus [] = true := by simp only [pus]
@[simp] theorem pus_cons {xs : List T} : pus (s :: xs) = (s.pu && pus xs) := by simp only [pus]
@[simp] theorem pus_ints {ns : List Int} : pus (ns.map T.int) = true := by induction ns <;> simp_all
theorem pus_iff {xs : List T} : pus xs = true ↔ ∀ x ∈ xs, x.pu = true := by induction xs <;> simp_all
@[simp] theorem b_one {i : Nat} {env : Env'} : bindT (.one i) t env = some (env.set i (some t)) := rfl
@[simp] theorem b_tup {is : List Nat} {ts : List T} {env : Env'} : bindT (.tup is) (.tup ts) env = if ts.length = is.length then some (setT is ts env) else none := rfl
@[simp] theorem drop_nil {env : Env'} : dropE [] env = env := rfl
@[simp] theorem drop_cons {v : Nat} {vs : List Nat} {env : Env'} : dropE (v :: vs) env = (dropE vs env).set v none := rfl
end
section
variable {h l : Store} {n : Nat} {c d : Cell}
@[simp] theorem take_set_self : (h.set n c).take h.length = h.set n c := by
  apply List.take_of_length_le
  rw [List.length_set]
  exact Nat.le_refl _
@[simp] theorem take_set_app : (h.set n c ++ l).take h.length = h.set n c := by
  have e : h.length = (h.set n c).length := List.length_set.symm
  rw [e]
  exact List.take_left
theorem at_end {m : Nat} (e : h.length = m) : (h ++ [c])[m]? = some c := by subst e; simp
theorem set_end {m : Nat} (e : h.length = m) : (h ++ [c]).set m d = h ++ [d] := by subst e; simp
theorem at_old (e : n < h.length) : (h ++ l)[n]? = h[n]? := List.getElem?_append_left e
theorem set_old (e : n < h.length) : (h ++ l).set n d = h.set n d ++ l := List.set_append_left _ _ e
theorem si_setR {xs : List T} : sameIns h (h.set n (.lst xs)) := si_set si_refl
theorem si_appR : sameIns h (h ++ l) := si_app l si_refl rfl
theorem si_setA {xs : List T} : sameIns h (h.set n (.lst xs) ++ l) := si_app l si_setR List.length_set
end
def pst (h : Store) (n : Nat) (v : Int) : Store := h.set n (.lst [.int v])
section
variable {h l : Store} {n m : Nat} {v w : Int} {c d : Cell} {env : Env'} {xs ys : List T} {y : T}
@[simp] theorem pst_len : (pst h n v).length = h.length := List.length_set
@[simp] theorem pst_pst : pst (pst h n v) n w = pst h n w := List.set_set ..
theorem pst_app (e : n < h.length) : pst (h ++ l) n w = pst h n w ++ l := set_old e
theorem pst_app2 (e : n < h.length) : pst (pst h n v ++ l) n w = pst h n w ++ l := by rw [pst_app (by rw [pst_len]; exact e), pst_pst]
@[simp] theorem take_pst : (pst h n v).take h.length = pst h n v := take_set_self
@[simp] theorem take_pst_app : (pst h n v ++ l).take h.length = pst h n v := take_set_app
@[simp] theorem si_pst : sameIns h (pst h n v) := si_setR
@[simp] theorem si_pst_app : sameIns h (pst h n v ++ l) := si_setA
@[simp] theorem si_self : sameIns h h := si_refl
@[simp] theorem si_more : sameIns h (h ++ l) := si_appR
theorem potAt.pst (p : potAt h n v) (hw : 0 ≤ w) : potAt (pst h n w) n w := p.set hw
theorem potAt.old (p : n < h.length) (hw : 0 ≤ w) : potAt (Sm.pst h n w) n w := ⟨List.getElem?_set_self p, hw⟩
theorem setP (p : potAt h n v) : setC h n 0 (.int w) env = .nx env (pst h n w) := setC_ok p.1 (by decide) (by simp) rfl
@[simp] theorem q4_append (e : h[n]? = some (.lst xs)) (hl : xs.length < 100000) (hy : y.pu = true) : outM (fAppend (.loc n) [y] h) = .ok .non (h.set n (.lst (xs ++ [y]))) := by
  simp [fAppend, cellL, e, hl, hy, outM]
theorem e_append (e : h.length = m) (hl : xs.length < 100000) (hy : y.pu = true) : outM (fAppend (.loc m) [y] (h ++ [.lst xs])) = .ok .non (h ++ [.lst (xs ++ [y])]) := by
  rw [q4_append (at_end e) hl hy, set_end e]
theorem e_tup (e : h.length = m) : fTuple [.loc m] (h ++ [.lst xs]) = some (.tup xs) := by simp [fTuple, at_end e]
theorem e_len (e : h.length = m) : fLen [.loc m] (h ++ [.lst xs]) = some (.int xs.length) := q3_lenC (at_end e)
theorem e_idx {x : Int} (e : h.length = m) : fIdx (.loc m) (.int x) (h ++ [.lst xs]) = atI xs x := q3_idxC (at_end e)
theorem e_set {k : Int} (e : h.length = m) (h0 : 0 ≤ k) (h1 : k < xs.length) (hy : y.pu = true) : setC (h ++ [.lst xs]) m k y env = .nx env (h ++ [.lst (xs.set k.toNat y)]) := by
  rw [setC_ok (at_end e) h0 h1 hy, set_end e]
@[simp] theorem tup_lst : fTuple [.lst xs] h = some (.tup xs) := by simp [fTuple]
@[simp] theorem pus_app : pus (xs ++ ys) = (pus xs && pus ys) := pus_append ..
end
theorem bls_map {α : Type} (p : α → Bool) (l : List α) : blsOf? (l.map fun x => T.bl (p x)) = some (l.map p) := by
  induction l with
  | nil => rfl
  | cons x r ih => simp [blsOf?, ih]
theorem ints_map (ns : List Int) : intsOf? (ns.map T.int) = some ns := by
  induction ns with
  | nil => rfl
  | cons x r ih => simp [intsOf?, ih]
theorem all_map {α : Type} {h : Store} (p : α → Bool) (l : List α) : fAll [.lst (l.map fun x => T.bl (p x))] h = some (.bl (l.all p)) := by
  simp [fAll, bls_map]
theorem any_map {α : Type} {h : Store} (p : α → Bool) (l : List α) : fAny [.lst (l.map fun x => T.bl (p x))] h = some (.bl (l.any p)) := by
  simp [fAny, bls_map]
@[simp] theorem list_tup {h : Store} {xs : List T} : fList [.tup xs] h = some xs := rfl
@[simp] theorem list_lst {h : Store} {xs : List T} : fList [.lst xs] h = some xs := rfl
theorem cat_lst {h : Store} {xs ys : List T} (c : xs.length + ys.length ≤ 100000) : fCat (.lst xs) (.lst ys) h = some (xs ++ ys) := if_pos c
theorem add_tup {h : Store} {xs ys : List T} (c : xs.length + ys.length ≤ 100000) : fAdd (.tup xs) (.tup ys) h = some (.tup (xs ++ ys)) := if_pos c
theorem rep_one {t : T} (k : Nat) : (List.replicate k [t]).flatten = List.replicate k t := by
  induction k with
  | zero => rfl
  | succ k ih => rw [List.replicate_succ, List.flatten_cons, ih]; rfl
theorem mul_one {h : Store} {t : T} {k : Int} (c1 : k < 100000) (c2 : -100000 < k) : fMul (.lst [t]) (.int k) h = some (.lst (List.replicate k.toNat t)) := by
  simp [fMul, rep_one, c1, c2]
@[simp] theorem pus_rep {k : Nat} {t : T} : pus (List.replicate k t) = (decide (k = 0) || t.pu) := by
  induction k with
  | zero => rfl
  | succ k ih => rw [List.replicate_succ, pus_cons, ih]; cases t.pu <;> simp
@[simp] theorem si_nil {h : Store} : sameIns [] h := fun i c fs hi _ => absurd hi (Nat.not_lt_zero i)
theorem range_at {a : Int} {n i : Nat} {x : T} (e : (rangeT a n)[i]? = some x) : x = .int (a + i) ∧ i < n := by
  unfold rangeT at e
  rw [List.getElem?_map] at e
  by_cases hi : i < n
  · rw [List.getElem?_range hi] at e
    exact ⟨(Option.some.inj e).symm, hi⟩
  · rw [List.getElem?_eq_none (by rw [List.length_range]; omega)] at e
    cases e
end Sm
namespace Sm
open PySem PySem.Spec PyProof.Rows L2
def okD : Nat → T → Prop
  | _, .non => True
  | _, .bl _ => True
  | _, .int _ => True
  | _, .str x => PyData.strOk x = true
  | n + 1, .tup xs => ∀ x ∈ xs, okD n x
  | n + 1, .lst xs => ∀ x ∈ xs, okD n x
  | _, _ => False
def datO (t : T) : PyData := (dat t).getD .none
theorem dats_of : ∀ {xs : List T}, (∀ x ∈ xs, ∃ d, dat x = some d) → dats xs = some (xs.map datO)
  | [], _ => by simp only [dats, List.map_nil]
  | x :: r, h => by
    obtain ⟨d, e⟩ := h x (List.mem_cons_self ..)
    simp only [dats, e, dats_of fun y m => h y (List.mem_cons_of_mem _ m), List.map_cons, datO, Option.getD_some]
theorem okD_dat : ∀ {n : Nat} {t : T}, okD n t → ∃ d, dat t = some d ∧ d.canLay0 = true ∧ d.depth ≤ n := by
  intro n
  induction n with
  | zero =>
    intro t h
    cases t with
    | non => exact ⟨_, rfl, by simp only [PyData.canLay0], by simp only [PyData.depth]; exact Nat.le_refl _⟩
    | bl b => exact ⟨_, rfl, by simp only [PyData.canLay0], by simp only [PyData.depth]; exact Nat.le_refl _⟩
    | int i => exact ⟨_, rfl, by simp only [PyData.canLay0], by simp only [PyData.depth]; exact Nat.le_refl _⟩
    | str x => exact ⟨_, rfl, by simp only [PyData.canLay0]; exact h, by simp only [PyData.depth]; exact Nat.le_refl _⟩
    | tup xs => exact absurd h (by simp [okD])
    | lst xs => exact absurd h (by simp [okD])
    | loc m => exact absurd h (by simp [okD])
    | scr m => exact absurd h (by simp [okD])
    | emp => exact absurd h (by simp [okD])
    | adr m d f ts => exact absurd h (by simp [okD])
    | fnc x => exact absurd h (by simp [okD])
    | unk => exact absurd h (by simp [okD])
    | dct ks ts => exact absurd h (by simp [okD])
  | succ n ih =>
    have many : ∀ xs : List T, (∀ x ∈ xs, okD n x) → dats xs = some (xs.map datO) ∧ PyData.canLayAll0 (xs.map datO) = true ∧ PyData.depthAll (xs.map datO) ≤ n := by
      intro xs h
      refine ⟨dats_of fun x m => let ⟨d, e, _⟩ := ih (h x m); ⟨d, e⟩, ?_, ?_⟩
      · induction xs with
        | nil => simp only [List.map_nil, PyData.canLayAll0]
        | cons x r ih2 =>
          obtain ⟨d, e, c, _⟩ := ih (h x (List.mem_cons_self ..))
          simp only [List.map_cons, PyData.canLayAll0, ih2 fun y m => h y (List.mem_cons_of_mem _ m), Bool.and_true]
          simp only [datO, e, Option.getD_some, c]
      · induction xs with
        | nil => simp only [List.map_nil, PyData.depthAll]; exact Nat.zero_le _
        | cons x r ih2 =>
          obtain ⟨d, e, _, c⟩ := ih (h x (List.mem_cons_self ..))
          have := ih2 fun y m => h y (List.mem_cons_of_mem _ m)
          simp only [List.map_cons, PyData.depthAll, datO, e, Option.getD_some]
          exact Nat.max_le.mpr ⟨c, this⟩
    intro t h
    cases t with
    | non => exact ⟨_, rfl, by simp only [PyData.canLay0], by simp only [PyData.depth]; exact Nat.zero_le _⟩
    | bl b => exact ⟨_, rfl, by simp only [PyData.canLay0], by simp only [PyData.depth]; exact Nat.zero_le _⟩
    | int i => exact ⟨_, rfl, by simp only [PyData.canLay0], by simp only [PyData.depth]; exact Nat.zero_le _⟩
    | str x => exact ⟨_, rfl, by simp only [PyData.canLay0]; exact h, by simp only [PyData.depth]; exact Nat.zero_le _⟩
    | tup xs =>
      obtain ⟨a, b, c⟩ := many xs h
      exact ⟨.tuple (xs.map datO), by simp only [dat, a, Option.map_some], by simp only [PyData.canLay0]; exact b, by simp only [PyData.depth]; omega⟩
    | lst xs =>
      obtain ⟨a, b, c⟩ := many xs h
      exact ⟨.list (xs.map datO), by simp only [dat, a, Option.map_some], by simp only [PyData.canLay0]; exact b, by simp only [PyData.depth]; omega⟩
    | loc m => exact absurd h (by simp [okD])
    | scr m => exact absurd h (by simp [okD])
    | adr m d f ts => exact absurd h (by simp [okD])
    | fnc x => exact absurd h (by simp [okD])
    | unk => exact absurd h (by simp [okD])
    | dct ks ts => exact absurd h (by simp [okD])
    | emp => exact absurd h (by simp [okD])
def beqT (a b : T) : Bool := PyData.eqv (datO a) (datO b)
theorem eqG_ok {a b : T} {h : Store} {n m : Nat} (ha : okD n a) (hb : okD m b) (hn : n ≤ 64) (hm : m ≤ 64) : eqG a b h = some (beqT a b) := by
  obtain ⟨d, e1, c1, l1⟩ := okD_dat ha
  obtain ⟨e, e2, c2, l2⟩ := okD_dat hb
  have s1 : datS h a = some d := by cases a <;> first | exact e1 | (simp [dat] at e1)
  have s2 : datS h b = some e := by cases b <;> first | exact e2 | (simp [dat] at e2)
  unfold eqG
  rw [s1, s2]
  have k1 : SeqAt.shaped d = true := by unfold SeqAt.shaped; rw [c1, decide_eq_true (by omega)]; rfl
  have k2 : SeqAt.shaped e = true := by unfold SeqAt.shaped; rw [c2, decide_eq_true (by omega)]; rfl
  show (if _ then _ else _) = _
  rw [if_pos ⟨k1, k2⟩]
  simp only [beqT, datO, e1, e2, Option.getD_some]
theorem eqB_okD {a b : T} {h : Store} {n m : Nat} (ha : okD n a) (hb : okD m b) (hn : n ≤ 64) (hm : m ≤ 64) : eqB a b h = some (beqT a b) := by
  have g := eqG_ok (h := h) ha hb hn hm
  cases a <;> cases b <;> first
    | exact g
    | (rename_i x y
       simp only [eqB, beqT, datO, dat, Option.getD_some, PyData.eqv]
       by_cases e : x = y <;> simp [e])
theorem fEq_ok {a b : T} {h : Store} {n m : Nat} (ha : okD n a) (hb : okD m b) (hn : n ≤ 64) (hm : m ≤ 64) : fEq a b h = some (.bl (beqT a b)) := by unfold fEq; rw [eqB_okD ha hb hn hm]; rfl
theorem fNe_ok {a b : T} {h : Store} {n m : Nat} (ha : okD n a) (hb : okD m b) (hn : n ≤ 64) (hm : m ≤ 64) : fNe a b h = some (.bl (!beqT a b)) := by unfold fNe; rw [eqB_okD ha hb hn hm]; rfl
theorem datO_tup {xs : List T} (h : ∀ x ∈ xs, ∃ d, dat x = some d) : datO (.tup xs) = .tuple (xs.map datO) := by simp only [datO, dat, dats_of h, Option.map_some, Option.getD_some]
theorem eqvAll_ints : ∀ {ns ms : List Int}, PyData.eqvAll ((ns.map T.int).map datO) ((ms.map T.int).map datO) = decide (ns = ms)
  | [], [] => rfl
  | [], _ :: _ => by simp [PyData.eqvAll]
  | _ :: _, [] => by simp [PyData.eqvAll]
  | n :: ns, m :: ms => by
    have ih := eqvAll_ints (ns := ns) (ms := ms)
    simp only [List.map_cons, PyData.eqvAll, ih]
    show (PyData.eqv (.int n) (.int m) && _) = _
    simp only [PyData.eqv]
    by_cases e : n = m <;> by_cases e2 : ns = ms <;> simp [e, e2]
theorem ints_has {ns : List Int} : ∀ x ∈ ns.map T.int, ∃ d, dat x = some d := fun x m => by
  obtain ⟨i, _, rfl⟩ := List.mem_map.mp m
  exact ⟨.int i, rfl⟩
theorem beq_ints {ns ms : List Int} : beqT (.tup (ns.map T.int)) (.tup (ms.map T.int)) = decide (ns = ms) := by
  unfold beqT
  rw [datO_tup ints_has, datO_tup ints_has]
  simp only [PyData.eqv]
  exact eqvAll_ints
theorem okD_ints {ns : List Int} {n : Nat} : okD (n + 1) (.tup (ns.map T.int)) := fun x m => by
  obtain ⟨i, _, rfl⟩ := List.mem_map.mp m
  cases n <;> trivial
@[simp] theorem okD_loc {n m : Nat} : okD n (.loc m) = False := by cases n <;> simp [okD]
@[simp] theorem okD_scr {n : Nat} {ns : List Int} : okD n (.scr ns) = False := by cases n <;> simp [okD]
@[simp] theorem okD_dct {n : Nat} {ks : List Str} {ts : List T} : okD n (.dct ks ts) = False := by cases n <;> simp [okD]
@[simp] theorem okD_unk {n : Nat} : okD n .unk = False := by cases n <;> simp [okD]
@[simp] theorem okD_fnc {n : Nat} {x : Str} : okD n (.fnc x) = False := by cases n <;> simp [okD]
@[simp] theorem okD_adr {n : Nat} {a d : Addr} {f : Str} {ts : List T} : okD n (.adr a d f ts) = False := by cases n <;> simp [okD]
@[simp] theorem okD_emp {n : Nat} : okD n .emp = False := by cases n <;> simp [okD]
@[simp] theorem okD_int {n : Nat} {i : Int} : okD n (.int i) = True := by cases n <;> simp [okD]
@[simp] theorem okD_bl {n : Nat} {b : Bool} : okD n (.bl b) = True := by cases n <;> simp [okD]
@[simp] theorem okD_non {n : Nat} : okD n .non = True := by cases n <;> simp [okD]
@[simp] theorem okD_str {n : Nat} {z : Str} : okD n (.str z) = (PyData.strOk z = true) := by cases n <;> simp [okD]
@[simp] theorem okD_tup {n : Nat} {xs : List T} : okD (n + 1) (.tup xs) = ∀ x ∈ xs, okD n x := by simp [okD]
@[simp] theorem okD_lst {n : Nat} {xs : List T} : okD (n + 1) (.lst xs) = ∀ x ∈ xs, okD n x := by simp [okD]
theorem atI_mem {α : Type} {xs : List α} {i : Int} (h0 : 0 ≤ i) (h1 : i < xs.length) : ∃ x, atI xs i = some x ∧ x ∈ xs := by
  have hl : i.toNat < xs.length := by omega
  exact ⟨xs[i.toNat], by rw [atI_p h0 h1, List.getElem?_eq_getElem hl], List.getElem_mem hl⟩
@[simp] theorem q3_max {i j : Int} {h : Store} : fMax [.int i, .int j] h = some (.int (if j > i then j else i)) := rfl
@[simp] theorem q3_min {i j : Int} {h : Store} : fMin [.int i, .int j] h = some (.int (if j < i then j else i)) := rfl
@[simp] theorem q3_intB {b : Bool} {h : Store} : fInt [.bl b] h = some (.int (if b then 1 else 0)) := rfl
@[simp] theorem truF_bl {b : Bool} {h : Store} : truF (.bl b) h = some b := rfl
@[simp] theorem q3_isB {a b : Bool} {h : Store} : fIs (.bl a) (.bl b) h = some (.bl (decide (a = b))) := rfl
@[simp] theorem q3_isnotB {a b : Bool} {h : Store} : fIsNot (.bl a) (.bl b) h = some (.bl (!decide (a = b))) := rfl
@[simp] theorem q3_powI {i j : Int} {h : Store} : fPow (.int i) (.int j) h = if 0 ≤ j ∧ j ≤ 100000 ∧ i.natAbs < 2 ^ 64 then some (.int (i ^ j.toNat)) else none := rfl
theorem eqT_int {a b : Int} : eqT (.int a) (.int b) = decide (b = a) := by
  show (a == b) = _
  by_cases q : b = a
  · subst q; simp
  · rw [decide_eq_false q]
    exact beq_eq_false_iff_ne.mpr fun e => q e.symm
theorem cut_from {xs : List T} {k : Int} (h : 0 ≤ k) : cutT xs (some k) none = xs.drop k.toNat := by
  unfold cutT HT.sIx
  simp only [Int.not_lt.mpr h, if_false]
  rw [List.take_of_length_le (by rw [List.length_drop]; exact Nat.le_refl _)]
  by_cases c : k.toNat ≤ xs.length
  · rw [Nat.min_eq_left c]
  · rw [Nat.min_eq_right (by omega), List.drop_length, List.drop_eq_nil_of_le (by omega)]
theorem cut_to {xs : List T} {k : Int} (h : 0 ≤ k) : cutT xs none (some k) = xs.take k.toNat := by
  unfold cutT HT.sIx
  simp only [Int.not_lt.mpr h, if_false, List.drop_zero, Nat.sub_zero]
  by_cases c : k.toNat ≤ xs.length
  · rw [Nat.min_eq_left c]
  · rw [Nat.min_eq_right (by omega), List.take_length, List.take_of_length_le (by omega)]
@[simp] theorem sl_tup {xs : List T} {lo hi : Option Int} {h : Store} : fSl (.tup xs) lo hi h = some (.tup (cutT xs lo hi)) := rfl
@[simp] theorem sl_lst {xs : List T} {lo hi : Option Int} {h : Store} : fSl (.lst xs) lo hi h = some (.lst (cutT xs lo hi)) := rfl
end Sm
namespace Sm
open PySem PySem.Spec PyProof.Rows L2
def mEmp : M T := fun _ h => .ok .emp h
@[simp] theorem q1_emp {env : Env'} {h : Store} : mEmp env h = .ok .emp h := rfl
theorem rgV_reps {K : PySem.W.Frag} {ω : Wd} (a b : Int) : Reps K ω (rangeT a (b - a).toNat) (rgV a b) := by
  unfold rangeT rgV
  generalize List.range (b - a).toNat = l
  induction l with
  | nil => exact Reps.nil
  | cons i r ih => exact Reps.cons rep_int ih
def mTupR (r : M (List T)) : M T := fun env h => (r env h).bind fun as h1 => (asR2 as h1).bind fun s h2 => .ok (.tup s.items) h2
def mLstR (r : M (List T)) : M (List T) := fun env h => (r env h).bind fun as h1 => (asR2 as h1).bind fun s h2 => .ok s.items h2
def mZero (m : M T) : M (List T) := fun env h => (m env h).bind fun a h1 => .ok [.int 0, a] h1
def mTwo (m n : M T) : M (List T) := fun env h => (m env h).bind fun a h1 => (n env h1).bind fun b h2 => .ok [a, b] h2
@[simp] theorem q1_tupR {r : M (List T)} {env : Env'} {h : Store} : mTupR r env h = (r env h).bind fun as h1 => (asR2 as h1).bind fun s h2 => .ok (.tup s.items) h2 := rfl
@[simp] theorem q1_lstR {r : M (List T)} {env : Env'} {h : Store} : mLstR r env h = (r env h).bind fun as h1 => (asR2 as h1).bind fun s h2 => .ok s.items h2 := rfl
@[simp] theorem q1_zero {m : M T} {env : Env'} {h : Store} : mZero m env h = (m env h).bind fun a h1 => .ok [.int 0, a] h1 := rfl
@[simp] theorem q1_two {m n : M T} {env : Env'} {h : Store} : mTwo m n env h = (m env h).bind fun a h1 => (n env h1).bind fun b h2 => .ok [a, b] h2 := rfl
section
variable {X : Cx} {cl : Nat → Addr} {W : WX} {e a b : Expr} {m n : M T} {r : M (List T)} {p p2 pos pos2 : Pos}
def tR (K : PySem.W.Frag) (cl : Nat → Addr) (W : WX) (r : M (List T)) : L2.St → Hp → (Int → Int → Hp → Prop) → Prop := fun σ H Q => ∃ env h ω, EnvOk K ω env σ ∧ StOk K cl ω h H ∧
  PostG K cl W ω H σ (r env h) fun as h1 ω1 H1 => ∃ i j, as = [.int i, .int j] ∧ Q i j H1
theorem prg_weak {t t' : L2.St → Hp → (Int → Int → Hp → Prop) → Prop} (h : PRg X e t) (w : ∀ σ H Q, t' σ H Q → t σ H Q) : PRg X e t' := fun pins s σ H Q I q => h pins s σ H Q I (w σ H Q q)
theorem kr_1 (hg : Gl X "range") (hm : X.mg "range" = none) (ha : PE X a (tE X.K cl W m)) (na : starEach [a] X.env = (false, eval a X.env) :: starEach [] X.env := by rfl) : PRg X (.Call (.Name "range" p) [a] [] pos) (tR X.K cl W (mZero m)) :=
  prg_weak (prg_1 hg hm ha na) fun σ H Q ⟨env, h, ω, he, S, q⟩ => ⟨env, h, ω, he, S, (PostG.bind q).mono fun t h1 ω1 H1 N1 S1 q1 v r => by
    obtain ⟨i, j, e, q2⟩ := q1 ω1 H1 (Nx.refl _ _) S1
    cases e
    exact ⟨j, r.int_inv, q2⟩⟩
theorem rg_ok {i j : Int} (c : i < 1000000 ∧ -1000000 < i ∧ j < 1000000 ∧ -1000000 < j) : RgOk i j := ⟨by omega, by omega, by omega, by omega, by omega⟩
theorem asR2_inv {as : List T} {h : Store} {R : Src → Store → Prop} {X : Ex → Store → Prop} (q : (asR2 as h).wp R X) : ∃ i j, as = [.int i, .int j] ∧ (i < 1000000 ∧ -1000000 < i ∧ j < 1000000 ∧ -1000000 < j) ∧ asR2 as h = .ok ⟨rangeT i (j - i).toNat, []⟩ h := by
  unfold asR2 at q ⊢
  split at q
  · rename_i i j
    by_cases c : i < 1000000 ∧ -1000000 < i ∧ j < 1000000 ∧ -1000000 < j
    · exact ⟨i, j, rfl, c, if_pos c⟩
    · rw [if_neg c] at q; exact q.elim
  · exact q.elim
theorem k_tupR (hc : X.calm = true) (z : X.mg "tuple" = none) (he : PRg X e (tR X.K cl W r)) (hg : Gl X "tuple" := by rfl) (na : starEach [e] X.env = (false, eval e X.env) :: starEach [] X.env := by rfl) :
    PE X (.Call (.Name "tuple" p) [e] [] pos) (tE X.K cl W (mTupR r)) := by
  refine (pe_tupRg hc hg z he na).weak fun σ H Q ⟨env, h, ω, he, S, q⟩ => ⟨env, h, ω, he, S, (PostG.bind q).mono fun as h1 ω1 H1 N1 S1 q1 => ?_⟩
  have w : (asR2 as h1).wp (fun _ _ => True) (fun _ _ => True) := by
    revert q1
    cases asR2 as h1 with
    | bad => exact fun z => z
    | ok a h => exact fun _ => trivial
    | ex e h => exact fun _ => trivial
  obtain ⟨i, j, e, c, e2⟩ := asR2_inv w
  rw [e2] at q1
  refine ⟨i, j, e, rg_ok c, fun p hp => ?_⟩
  refine q1 _ _ (nx_newF S1 hp) (S1.newF hp) _ ?_
  simp only [Rep]
  exact ⟨p, _, rfl, SqT.of upd_same, rgV_reps i j⟩
end
@[simp] theorem isi_emp_int {h : Store} : fIsi "int" .emp h = some (.bl false) := rfl
@[simp] theorem isi_emp_bool {h : Store} : fIsi "bool" .emp h = some (.bl false) := rfl
@[simp] theorem isi_emp_str {h : Store} : fIsi "str" .emp h = some (.bl false) := rfl
@[simp] theorem isi_emp_tuple {h : Store} : fIsi "tuple" .emp h = some (.bl false) := rfl
@[simp] theorem isi_emp_list {h : Store} : fIsi "list" .emp h = some (.bl false) := rfl
@[simp] theorem isi_emp_dict {h : Store} : fIsi "dict" .emp h = some (.bl true) := rfl
@[simp] theorem isNon_emp : isNon .emp = false := rfl
@[simp] theorem pu_emp : T.emp.pu = true := rfl
mutual
def T.plain : T → Bool
  | .loc _ => false
  | .scr _ => false
  | .adr _ _ _ _ => false
  | .dct _ _ => false
  | .fnc _ => false
  | .unk => false
  | .tup xs => plains xs
  | .lst xs => plains xs
  | _ => true
def plains : List T → Bool
  | [] => true
  | x :: r => x.plain && plains r
end
@[simp] theorem plain_non : T.non.plain = true := rfl
@[simp] theorem plain_bl {b : Bool} : (T.bl b).plain = true := rfl
@[simp] theorem plain_int {i : Int} : (T.int i).plain = true := rfl
@[simp] theorem plain_str {z : Str} : (T.str z).plain = true := rfl
@[simp] theorem pu_adr {a d : Addr} {f : Str} {ts : List T} : (T.adr a d f ts).pu = false := rfl
@[simp] theorem pu_fnc {x : Str} : (T.fnc x).pu = false := rfl
@[simp] theorem isNon_fnc {x : Str} : isNon (.fnc x) = false := rfl
@[simp] theorem plain_fnc {x : Str} : (T.fnc x).plain = false := rfl
@[simp] theorem plain_unk : T.unk.plain = false := rfl
@[simp] theorem isNon_adr {a d : Addr} {f : Str} {ts : List T} : isNon (.adr a d f ts) = false := rfl
@[simp] theorem plain_adr {a d : Addr} {f : Str} {ts : List T} : (T.adr a d f ts).plain = false := rfl
@[simp] theorem plain_emp : T.emp.plain = true := rfl
@[simp] theorem plain_dct {ks : List Str} {ts : List T} : (T.dct ks ts).plain = false := rfl
@[simp] theorem isNon_dct {ks : List Str} {ts : List T} : isNon (.dct ks ts) = false := rfl
@[simp] theorem plain_loc {n : Nat} : (T.loc n).plain = false := rfl
@[simp] theorem plain_scr {ns : List Int} : (T.scr ns).plain = false := rfl
@[simp] theorem plain_tup {xs : List T} : (T.tup xs).plain = plains xs := by simp only [T.plain]
@[simp] theorem plain_lst {xs : List T} : (T.lst xs).plain = plains xs := by simp only [T.plain]
@[simp] theorem plains_nil : plains [] = true := by simp only [plains]
@[simp] theorem plains_cons {x : T} {r : List T} : plains (x :: r) = (x.plain && plains r) := by simp only [plains]
@[simp] theorem plains_app {xs ys : List T} : plains (xs ++ ys) = (plains xs && plains ys) := by
  induction xs with
  | nil => simp
  | cons x r ih => simp [ih, Bool.and_assoc]
mutual
theorem plain_pu : ∀ {t : T}, t.plain = true → t.pu = true
  | .non, _ => rfl
  | .bl _, _ => rfl
  | .int _, _ => rfl
  | .str _, _ => rfl
  | .emp, _ => rfl
  | .loc _, h => by simp at h
  | .adr _ _ _ _, h => by simp at h
  | .dct _ _, h => by simp at h
  | .fnc _, h => by simp at h
  | .unk, h => by simp at h
  | .scr _, h => by simp at h
  | .tup xs, h => by rw [pu_tup]; rw [plain_tup] at h; exact plains_pus h
  | .lst xs, h => by rw [pu_lst]; rw [plain_lst] at h; exact plains_pus h
theorem plains_pus : ∀ {ts : List T}, plains ts = true → pus ts = true
  | [], _ => pus_nil
  | x :: r, h => by
    rw [plains_cons, Bool.and_eq_true] at h
    rw [pus_cons, plain_pu h.1, plains_pus h.2]
    rfl
end
end Sm
namespace Sm
open PySem PySem.Spec PyProof.Rows L2
def putT (f : Str) (t : T) : List (Str × T) → List (Str × T)
  | [] => [(f, t)]
  | (g, x) :: r => if g = f then (g, t) :: r else (g, x) :: putT f t r
section
variable {K : PySem.W.Frag} {cl : Nat → Addr} {ω : Wd} {h : Store} {H : Hp} {f : Str} {t : T} {v : V}
theorem RepKV.putS (hv : Rep K ω t v) : ∀ {a : List (Str × T)} {b : List (Str × V)}, RepKV K ω a b → RepKV K ω (putT f t a) (putF f v b)
  | [], _, r => by
    cases (show _ = [] from r)
    exact ⟨v, [], rfl, hv, rfl⟩
  | (g, x) :: l, _, ⟨y, m, e, r1, r2⟩ => by
    subst e
    unfold putT putF
    by_cases c : g = f
    · rw [if_pos c, if_pos c]
      exact ⟨v, m, rfl, hv, r2⟩
    · rw [if_neg c, if_neg c]
      exact ⟨y, _, rfl, r1, RepKV.putS hv r2⟩
theorem RepKV.look : ∀ {a : List (Str × T)} {b : List (Str × V)}, RepKV K ω a b → a.lookup f = some t → ∃ v, b.lookup f = some v ∧ Rep K ω t v
  | [], _, r, e => by cases e
  | (g, x) :: l, _, ⟨y, m, q, r1, r2⟩, e => by
    subst q
    unfold List.lookup at e ⊢
    cases c : f == g with
    | true =>
      rw [c] at e
      cases e
      exact ⟨y, rfl, r1⟩
    | false =>
      rw [c] at e
      exact RepKV.look r2 e
theorem RepKV.lookN : ∀ {a : List (Str × T)} {b : List (Str × V)}, RepKV K ω a b → a.lookup f = none → b.lookup f = none
  | [], _, r, e => by
    cases (show _ = [] from r)
    rfl
  | (g, x) :: l, _, ⟨y, m, q, r1, r2⟩, e => by
    subst q
    unfold List.lookup at e ⊢
    cases c : f == g with
    | true =>
      rw [c] at e
      cases e
    | false =>
      rw [c] at e
      exact RepKV.lookN r2 e
theorem RepKV.size {κ : Type} : ∀ {a : List (κ × T)} {b : List (κ × V)}, RepKV K ω a b → a.length = b.length
  | [], _, r => by
    cases (show _ = [] from r)
    rfl
  | (g, x) :: l, _, ⟨y, m, q, r1, r2⟩ => by
    subst q
    rw [List.length_cons, List.length_cons, RepKV.size r2]
def insOf (c : Nat) (h : Store) : T → Option (Nat × List (Str × T))
  | .loc n => match h[n]? with
    | some (.ins c' fs) => if c' = c ∧ c < 1000 then some (n, fs) else none
    | _ => none
  | _ => none
theorem insOf_ok {c n : Nat} {fs : List (Str × T)} (S : StOk K cl ω h H) (r : Rep K ω t v) (e : insOf c h t = some (n, fs)) : t = .loc n ∧ h[n]? = some (.ins c fs) ∧ ∃ p dx l, v = .ref p ∧ ω.rho[n]? = some p ∧ H p = some (.ins (cl c) dx l) ∧ RepKV K ω fs l ∧ c < 1000 := by
  cases t with
  | loc m =>
    simp only [insOf] at e
    cases hm : h[m]? with
    | none => rw [hm] at e; cases e
    | some z =>
      rw [hm] at e
      cases z with
      | ins c' gs =>
        simp only at e
        obtain ⟨⟨ec, lc⟩, e2⟩ := ne_ite e
        cases e2
        subst ec
        simp only [Rep] at r
        obtain ⟨p, rfl, q⟩ := r
        rcases S.cells _ _ p hm q with ⟨_, dx, l, a, b⟩ | ⟨z, _⟩
        · exact ⟨rfl, hm, p, dx, l, rfl, q, a, b, lc⟩
        · omega
      | _ => cases e
  | _ => cases e
end
def mFld (c : Nat) (f : Str) (m : M T) : M T := fun env h => (m env h).bind fun a h1 => Out.ofO ((insOf c h1 a).bind fun p => p.2.lookup f) h1
def sFld (c : Nat) (f : Str) (mv mo : M T) : MS := fun env h => bindE (mv env h) env fun v h1 => bindE (mo env h1) env fun a h2 => match insOf c h2 a with
  | some (n, fs) => if fs.length < 900 then .nx env (h2.set n (.ins c (putT f v fs))) else .bad
  | none => .bad
def mMeth (c : Nat) (nm : Str) (F : Fn) (mo : M T) (r : M (List T)) : M T := fun env h => (mo env h).bind fun a h1 => match insOf c h1 a with
  | some (_, fs) => if (fs.lookup nm).isNone = true then (r env h1).bind fun as h2 => F (a :: as) h2 else .bad
  | none => .bad
def mNew (c : Nat) (F : Fn) (r : M (List T)) : M T := fun env h => (r env h).bind fun as h1 => (F (.loc h1.length :: as) (h1 ++ [.ins c []])).bind fun t h2 => match t with
  | .non => .ok (.loc h1.length) h2
  | _ => .bad
structure CalM (P : Program) (w : World) (K : PySem.W.Frag) (mg : Str → Option Value) (base : Heap) (cl : Nat → Addr) (c : Nat) (x : Str) (j : Nat) (ps : List Str) (F : Fn) (n : Nat) : Prop where
  cls : Cls K (cl c)
  ex : ∃ f fd, FnOk P w K mg base (L2N.CX P w) j f fd ps (spF K cl F n) ∧ Meth K (cl c) x f ∧ Binds K fd ps []
  len : ∀ ts h, ts.length ≠ n → F ts h = .bad
structure CalI (P : Program) (w : World) (K : PySem.W.Frag) (mg : Str → Option Value) (base : Heap) (cl : Nat → Addr) (c : Nat) (x : Str) (j : Nat) (ps : List Str) (F : Fn) (n : Nat) : Prop where
  ex : ∃ f fd, FnOk P w K mg base (L2N.CX P w) j f fd ps (spF K cl F n) ∧ Mk K (cl c) f ∧ mg x = some (.ref (cl c)) ∧ Binds K fd ps []
  len : ∀ ts h, ts.length ≠ n → F ts h = .bad
def Flat (W : WX) : Prop := ∀ cls d σ σ' H, W cls d σ H → W cls d σ' H
section
variable {X : Cx} {cl : Nat → Addr} {W : WX} {o e ev : Expr} {es : List Expr} {m mo mv : M T} {r : M (List T)} {F : Fn} {c j k n : Nat} {x f : Str} {ps : List Str} {p pos apos pos' : Pos}
theorem k_fld (c : Nat) (f : Str) (hc : Cls X.K (cl c)) (hn : NoAttr X.K (cl c) f) (he : PE X e (tE X.K cl W m)) (hb : attributeBase e f X.env (eval e X.env) = eval e X.env := by rfl) : PE X (.Attribute e f pos) (tE X.K cl W (mFld c f m)) := by
  refine (pe_fld he hb).weak fun σ H Q ⟨env, h, ω, he, hs, q⟩ => ⟨env, h, ω, he, hs, (PostG.bind q).mono fun t h1 ω1 H1 N1 S1 q1 v rv => ?_⟩
  obtain ⟨u, e1, q2⟩ := q1.ofO
  rw [Option.bind_eq_some_iff] at e1
  obtain ⟨⟨n, fs⟩, e2, e3⟩ := e1
  obtain ⟨rfl, hn', q, dx, l, rfl, e4, e5, r5, _⟩ := insOf_ok S1 rv e2
  obtain ⟨w, e6, r6⟩ := r5.look e3
  exact ⟨q, cl c, dx, l, w, rfl, e5, hc, hn, e6, q2 ω1 H1 (Nx.refl _ _) S1 w r6⟩
theorem ks_fld (c : Nat) (f : Str) (hc : Cls X.K (cl c)) (hn : NoAttr X.K (cl c) f) (hv : PE X ev (tE X.K cl W mv)) (ho : PE X o (tE X.K cl W mo)) (hs : swapsWith ev (some (.Attribute o f pos')) pos.line X.env = pure false := by rfl) :
    PS X (.Assign [.Attribute o f pos'] ev pos) (tS X.K cl W (sFld c f mv mo)) := by
  refine (ps_fld ho hv hs).weak fun D σ H ⟨env, h, ω, he, hs, q⟩ => ⟨env, h, ω, he, hs, (PostS.bindE he q).mono fun t h1 ω1 H1 N1 S1 q1 v rv => ⟨env, h1, ω1, he.mono N1.toGr, S1, (PostS.bindE (he.mono N1.toGr) q1).mono fun a h2 ω2 H2 N2 S2 q2 w rw' => ?_⟩⟩
  cases e1 : insOf c h2 a with
  | none => rw [e1] at q2; exact q2.elim
  | some nf =>
    obtain ⟨n, fs⟩ := nf
    rw [e1] at q2
    obtain ⟨rfl, hn', p, dx, l, rfl, e4, e5, r5, lc⟩ := insOf_ok S2 rw' e1
    by_cases hl : fs.length < 900
    · simp only [if_pos hl] at q2
      refine ⟨p, cl c, dx, l, rfl, e5, hc, hn, by rw [← r5.size]; omega, ?_⟩
      have rv2 := rv.mono N2.toGr
      refine q2 ω2 _ σ (nx_put S2 e4) (S2.put hn' (fun z => by cases z) e4 (c := .ins c (putT f t fs)) (.inl ⟨lc, dx, _, upd_same, r5.putS rv2⟩)) ((he.mono N1.toGr).mono N2.toGr)
    · simp only [if_neg hl] at q2
      exact q2.elim
theorem flat_passes (tk : L2N.Takes X W) (fl : Flat W) : Passes (L2N.CX X.prog X.w) X (fun cls d H => W cls d [] H) := fun _ σ _ _ u s' I c => tk u s' (L2N.XE.of_call I (fun cls d H' z => fl cls d [] σ H' z) c)
theorem PostG.flat {K : PySem.W.Frag} {α : Type} {ω : Wd} {H : Hp} {σ : L2.St} {o : Out α} {R : α → Store → Wd → Hp → Prop} (fl : Flat W) (q : PostG K cl W ω H σ o R) : PostG K cl (fun cls d _ H' => W cls d [] H') ω H [] o R := by
  cases o with
  | ok a h => exact q
  | ex z h => exact fun ω' H' cls d N S x => fl cls d σ [] H' (q ω' H' cls d N S x)
  | bad => exact q
theorem meth_step {K : PySem.W.Frag} {σ : L2.St} {H : Hp} {Q : VK} (fl : Flat W) (hn : ∀ ts h, ts.length ≠ n → F ts h = .bad) (h : tE K cl W (mMeth c x F mo r) σ H Q) :
    tMeth (cl c) x (spF K cl F n) [] (fun cls d H => W cls d [] H) (tE K cl W mo) (tA K cl W r) σ H Q := by
  obtain ⟨env, h, ω, he, hs, q⟩ := h
  refine ⟨env, h, ω, he, hs, (PostG.bind q).mono fun a h1 ω1 H1 N1 S1 q1 v rv => ?_⟩
  cases e1 : insOf c h1 a with
  | none => rw [e1] at q1; exact q1.elim
  | some nf =>
    obtain ⟨n1, fs⟩ := nf
    rw [e1] at q1
    obtain ⟨rfl, hn', p, dx, l, rfl, e4, e5, r5, _⟩ := insOf_ok S1 rv e1
    by_cases hl : (fs.lookup x).isNone = true
    · simp only [if_pos hl] at q1
      refine ⟨p, dx, l, rfl, e5, r5.lookN (by simpa using hl), env, h1, ω1, he.mono N1.toGr, S1, (PostG.bind q1).mono fun as h2 ω2 H2 N2 S2 q2 vs rvs => ?_⟩
      show spF K cl F n (V.ref p :: (vs ++ [])) H2 Q _
      rw [List.append_nil]
      refine ⟨Classical.byContradiction fun z => ?_, .loc n1 :: as, h2, ω2, S2, Reps.cons (rv.mono N2.toGr) rvs, q2.flat fl⟩
      rw [hn (.loc n1 :: as) h2 (by rw [List.length_cons, rvs.length]; exact z)] at q2
      exact q2
    · simp only [if_neg hl] at q1
      exact q1.elim
theorem k_meth (co : Ok X W k) (G : CalM X.prog X.w X.K X.mg X.base cl c x j ps F n) (hj : j ≤ k) (he : PE X o (tE X.K cl W mo)) (ha : PA X (e :: es) (tA X.K cl W r)) (fl : Flat W := by exact fun _ _ _ _ _ z => z)
    (hst : starEach (e :: es) X.env = (false, eval e X.env) :: starEach es X.env := by rfl) (hpl : (backTo pos (starEach es X.env)).any (·.1) = false := by rfl) {pl : Sem Bool}
    (ht : eval (.Call (.Attribute o x apos) (e :: es) [] pos) X.env = (do let ov ← eval o X.env; standAt apos.atName; let (g, self) ← holding [ov] (getMethod ov x pl); callWith pos g self (backTo pos (starEach (e :: es) X.env)) (backToKw pos (keywordEach [] X.env))) := by rfl) :
    PE X (.Call (.Attribute o x apos) (e :: es) [] pos) (tE X.K cl W (mMeth c x F mo r)) := by
  obtain ⟨f, fd, G1, m, b⟩ := G.ex
  exact (pe_meth he G.cls m G1 (co.room.mono hj) b .nil (flat_passes co.tk fl) ha hst hpl ht).weak fun _ _ _ h => meth_step fl G.len h
theorem new_step {K : PySem.W.Frag} {σ : L2.St} {H : Hp} {Q : VK} (hc : c < 1000) (fl : Flat W) (hn : ∀ ts h, ts.length ≠ n → F ts h = .bad) (h : tE K cl W (mNew c F r) σ H Q) :
    tMake (cl c) (spF K cl F n) [] (fun cls d H => W cls d [] H) (tA K cl W r) σ H Q := by
  obtain ⟨env, h, ω, he, hs, q⟩ := h
  refine ⟨env, h, ω, he, hs, (PostG.bind q).mono fun as h1 ω1 H1 N1 S1 q1 vs rvs p dx n1 n2 ne => ?_⟩
  rw [List.append_nil]
  have f1 : upd H1 dx (.own p) p = none := by rw [upd_ne (Ne.symm ne)]; exact n1
  have S2 : StOk K cl ω1 h1 (upd H1 dx (.own p)) := S1.lay n2
  have S3 : StOk K cl (ω1.cell p) (h1 ++ [.ins c []]) (upd (upd H1 dx (.own p)) p (.ins (cl c) dx [])) :=
    (S2.lay f1).cellIt (c := .ins c []) (.inl ⟨hc, dx, [], upd_same, rfl⟩) (S2.freshF f1) (S2.freshR f1)
  have N3 : Nx ω1 H1 (ω1.cell p) (upd (upd H1 dx (.own p)) p (.ins (cl c) dx [])) := ((nx_lay (o := .own p) n2).trans (nx_lay (o := .ins (cl c) dx []) f1)).cellIt n1
  have rp : Rep K (ω1.cell p) (.loc h1.length) (.ref p) := by
    simp only [Rep]
    refine ⟨p, rfl, ?_⟩
    show (ω1.rho ++ [p])[h1.length]? = some p
    rw [List.getElem?_append_right (by rw [S1.len]; exact Nat.le_refl _), S1.len]
    simp
  have q2 := PostG.bind q1
  refine ⟨Classical.byContradiction fun z => ?_, .loc h1.length :: as, h1 ++ [.ins c []], ω1.cell p, S3, Reps.cons rp (rvs.mono N3.toGr), ?_⟩
  · rw [hn (.loc h1.length :: as) (h1 ++ [Cell.ins c ([] : List (Str × T))]) (by rw [List.length_cons, rvs.length]; exact z)] at q2
    exact q2
  · have q3 := q2.flat fl
    revert q3
    cases hF : F (.loc h1.length :: as) (h1 ++ [.ins c []]) with
    | bad => exact fun z => z
    | ex z h2 => exact fun q3 ω' H' cls d N S x => q3 ω' H' cls d (N3.trans N) S x
    | ok t h2 =>
      intro q3 ω' H' N S v rv
      have q4 := q3 ω' H' (N3.trans N) S
      cases t with
      | non =>
        refine ⟨by simpa only [Rep] using rv, q4 ω' H' (Nx.refl _ _) S (.ref p) (rp.mono N.toGr)⟩
      | _ => exact q4.elim
theorem k_new (co : Ok X W k) (G : CalI X.prog X.w X.K X.mg X.base cl c x j ps F n) (hj : j + 1 ≤ k) (hg : Gl X x) (ha : PA X (e :: es) (tA X.K cl W r)) (fl : Flat W := by exact fun _ _ _ _ _ z => z) (hdb : (x == ("__debug__" : Str)) = false := by decide) (he : starEach (e :: es) X.env = (false, eval e X.env) :: starEach es X.env := by rfl) (hpl : (backTo pos (starEach es X.env)).any (·.1) = false := by rfl) (hk : c < 1000 := by decide) :
    PE X (.Call (.Name x p) (e :: es) [] pos) (tE X.K cl W (mNew c F r)) := by
  obtain ⟨f, fd, G1, m, hm, b⟩ := G.ex
  exact (pe_make m G1 (co.room.mono hj) hg hm b .nil (flat_passes co.tk fl) ha hdb he hpl).weak fun _ _ _ h => new_step hk fl G.len h
end
section
variable {P : Program} {w : World} {K : PySem.W.Frag} {mg : Str → Option Value} {base : Heap} {cl : Nat → Addr}
theorem q_fnM {x qual nm : Str} {params : Arguments} {body : List Stmt} {scope : Scope} {f : Addr} {fd : FuncData} {N ps : List Str} {c k nargs nslots : Nat} {keep : Bool} {sem : MS} (F : FunD K x qual params body scope [] [] f fd) (S : FnScope N ps scope) (hn : N.length = nslots) (hps : ps.length = nargs)
    (hm : Meth K (cl c) nm f) (hc : Cls K (cl c)) (hb : Binds K fd ps [])
    (hB : ∀ (cdv : Value) (A : Around) (outer : List Env) (s : Shared) (H : Hp) (E : XK), Ok (cxOf (L2N.CX P w) P w K mg base N qual scope f cdv A outer s H E) (fun cls d _ H => E cls d H) k →
      PSs (cxOf (L2N.CX P w) P w K mg base N qual scope f cdv A outer s H E) body (tS K cl (fun cls d _ H => E cls d H) sem)) :
    CalM P w K mg base cl c nm (k + 1) ps (fn nargs nslots keep sem) nargs := ⟨hc, ⟨f, fd, q_fnF F S hn hps hB, hm, hb⟩, fn_len⟩
theorem q_fnI {x qual nm : Str} {params : Arguments} {body : List Stmt} {scope : Scope} {f : Addr} {fd : FuncData} {N ps : List Str} {c k nargs nslots : Nat} {keep : Bool} {sem : MS} (F : FunD K x qual params body scope [] [] f fd) (S : FnScope N ps scope) (hn : N.length = nslots) (hps : ps.length = nargs)
    (hm : Mk K (cl c) f) (hg : mg nm = some (.ref (cl c))) (hb : Binds K fd ps [])
    (hB : ∀ (cdv : Value) (A : Around) (outer : List Env) (s : Shared) (H : Hp) (E : XK), Ok (cxOf (L2N.CX P w) P w K mg base N qual scope f cdv A outer s H E) (fun cls d _ H => E cls d H) k →
      PSs (cxOf (L2N.CX P w) P w K mg base N qual scope f cdv A outer s H E) body (tS K cl (fun cls d _ H => E cls d H) sem)) :
    CalI P w K mg base cl c nm (k + 1) ps (fn nargs nslots keep sem) nargs := ⟨⟨f, fd, q_fnF F S hn hps hB, hm, hg, hb⟩, fn_len⟩
end
def nmC : Nat → Str
  | 0 => "Ways"
  | 1 => "Table"
  | 2 => "Bench"
  | 3 => "Desk"
  | 10 => "FractError"
  | 11 => "AtRest"
  | 12 => "TooMany"
  | 13 => "NoText"
  | 14 => "NoNumber"
  | 15 => "NoOrder"
  | 16 => "NoProgram"
  | 17 => "Shared"
  | 18 => "NoPowers"
  | 19 => "NoTrail"
  | 20 => "NoName"
  | 21 => "NoDeed"
  | 22 => "NoRow"
  | _ => "none"
def clK (K : PySem.W.Frag) (c : Nat) : Addr := He.ga K (nmC c)
section
variable {X : Cx}
end
end Sm
namespace Sm
open PySem PySem.Spec PyProof.Rows L2 ClX
structure ExcF (K : PySem.W.Frag) (mg : Str → Option Value) (cl : Nat → Addr) (c : Nat) (x : Str) : Prop where
  gC : mg x = some (.ref (cl c))
  q : PySem.W.excIn K (cl c) He.veBase "ValueError.__new__" = true
  kC : PySem.W.keepIn K (.ref (cl c)) = true
  bC : PySem.W.subIn K (.ref (cl c)) (.type "BaseException") = some true
  tC : PySem.W.typeIn K (.ref (cl c)) = some (.type "type")
section
variable {X : Cx} {cl : Nat → Addr} {W : WX} {k c : Nat} {x msg : Str} {j : Nat} {p p2 p3 pos : Pos}
end
structure FldF (K : PySem.W.Frag) (mg : Str → Option Value) (C B : Addr) (f b x : Str) : Prop where
  oc : OexC K C
  gC : mg x = some (.ref C)
  gB : mg b = some (.ref B)
  nf : PySem.W.findIn K (.ref C) f = some none
  rd : ∃ mc, CRead K B mc ∧ PySem.W.findCls K (.ref B) mc "__init__" = some (.val (.builtin "ValueError.__init__"))
section
variable {X : Cx} {C B : Addr} {f b x : Str} {e : Expr} {es : List Expr} {ta : TA} {p1 p2 pos : Pos}
theorem pe_binit {pl : Sem Bool} (F : FldF X.K X.mg C B f b x) (hg : Gl X b) (ha : PA X (e :: es) ta) (hdb : (b == ("__debug__" : Str)) = false := by decide)
    (hc : eval (.Call (.Attribute (.Name b p1) "__init__" p2) (e :: es) [] pos) X.env = (do let ov ← eval (.Name b p1) X.env; standAt p2.atName; let (g, self) ← holding [ov] (getMethod ov "__init__" pl); callWith pos g self (backTo pos (starEach (e :: es) X.env)) (backToKw pos (keywordEach [] X.env))) := by rfl) (he : starEach (e :: es) X.env = (false, eval e X.env) :: starEach es X.env := by rfl) (hpl : (backTo pos (starEach es X.env)).any (·.1) = false := by rfl) :
    PE X (.Call (.Attribute (.Name b p1) "__init__" p2) (e :: es) [] pos) (tVeI X.K ta) := ⟨fun pins s σ H Q inv rd => by
  obtain ⟨mc, r, k⟩ := F.rd
  have body : ∀ s1, Inv X pins σ H s1 → wpAny (model X.prog X.w) X.A (callWith pos (Value.builtin "ValueError.__init__") [] (backTo pos (starEach (e :: es) X.env)) []) (EP X pins σ Q) X.xe s1 := fun s1 inv1 =>
    PyProof.Rows.callWith_method1 (thn (ha.run pos pins s1 σ H _ inv1 rd) fun us s2 z => by
      obtain ⟨vs, H2, inv2, rv, a, C2, ws, ev, hl, oc, at_, q⟩ := z
      rw [ev] at rv
      cases rv with
      | cons r1 r2 =>
        cases r1
        exact oinit_ok oc inv2 at_ (by rw [← Paired.length r2, sizeLine_eq]; omega) fun s3 inv3 => ⟨.non, H2, inv3, rfl, q⟩) he hpl
  exact PySem.W.methodCall_KW (ld_glob inv hg F.gB (PySem.W.method_cls inv.kIn r.ga (PySem.W.cls_value inv.kIn r.rd k (by decide +kernel) (body _ (inv.tok _)))) hdb) hc⟩
end
def tRest (K : PySem.W.Frag) (f m : Str) : TS := tSeq (tDrop (tVeI K (tCons (tVar 0) (tCons (tC (.str m)) tNil)))) (tOst K f (tVar 0) (tVar 1))
def spRest (f : Str) (C : Addr) : Sp := fun vs H Q _ => ∃ (a : Addr) (v : V), vs = [.ref a, v] ∧ H a = some (exo a C none) ∧ ∀ d, H d = none → d ≠ a → Q .non (upd (upd H d (exd d [(f, v)])) a (exo a C (some d)))
section
variable {P : Program} {w : World} {mg : Str → Option Value} {base : Heap} {K : PySem.W.Frag}
theorem q_rest {qual f m b x : Str} {params : Arguments} {body : List Stmt} {scope : Scope} {fI C B : Addr} {fd : FuncData} (F : FunD K "__init__" qual params body scope [] [] fI fd) (S : FnScope ["self", f] ["self", f] scope) (G : FldF K mg C B f b x)
    (hB : ∀ (cdv : Value) (A : Around) (outer : List Env) (s : Shared) (H : Hp) (E : XK), PSs (cxOf (L2N.CX P w) P w K mg base ["self", f] qual scope fI cdv A outer s H E) body (tRest K f m)) :
    FnOk P w K mg base (L2N.CX P w) 1 fI fd ["self", f] (spRest f C) :=
  F.ok S (fun vs H Q E ⟨a, v, e, _⟩ => by rw [e]; rfl) fun cdv A outer s H vs Q E _ ⟨a, v, e, at_, q⟩ => by
    subst e
    exact ⟨_, hB cdv A outer s H E, .ref a, rfl, a, C, [.str m], rfl, by simp, G.oc, at_, v, rfl, .ref a, rfl, a, C, rfl, G.oc, G.nf, .inl ⟨at_, fun d n ne => q d n ne⟩⟩
end
section
variable {X : Cx} {cl : Nat → Addr} {W : WX} {k c : Nat} {x f b : Str} {e : Expr} {m : M T} {p p3 pos : Pos}
theorem pmk_fld {C B fI : Addr} {fd : FuncData} {ta : TA} (G : FldF X.K X.mg C B f b x) (iC : PySem.W.findIn X.K (.ref C) "__init__" = some (some (.ref fI))) (tI : PySem.W.typeIn X.K (.ref fI) = some (.type "function"))
    (F1 : FnOk X.prog X.w X.K X.mg X.base (L2N.CX X.prog X.w) 1 fI fd ["self", f] (spRest f C)) (room : Room 2 X.A) (hb : Binds X.K fd ["self", f] []) (hx : Passes (L2N.CX X.prog X.w) X (fun _ _ _ => False)) (hg : Gl X x) (args : PA X [e] ta) (hdb : (x == ("__debug__" : Str)) = false := by decide)
    (h1 : starEach [e] X.env = (false, eval e X.env) :: starEach [] X.env := by rfl) (h2 : (backTo p3 (starEach [] X.env)).any (·.1) = false := by rfl) :
    L2N.PMk X (.Call (.Name x p) [e] [] p3) (fun σ H Q => ta σ H fun vs H1 => ∃ v, vs = [v] ∧ ∀ d, H1 d = none → Q (.ref C) (some d) (upd H1 d (.xd [(f, v)]))) := by
  intro pins s σ H Q inv rd
  obtain ⟨nm, qn, nsA, bases, mro, sn, subs, ab, col, dd, k0, k1, k2, k3, k5, lookC, mroOk⟩ := G.oc.cls
  refine wpAny_Call_Name_kw (ld_glob inv hg G.gC (PySem.W.callWith_K (h₀ := X.base) inv.ok.mod.kin G.oc.kC (thn (args.run p3 pins s σ H _ inv rd) fun us s1 z => ?_) h1 h2) hdb)
  obtain ⟨vs, H1, inv1, rv, v, e1, q1⟩ := z
  subst e1
  refine ⟨inv1.kIn, ?_⟩
  have len1 : us.length = 1 := by have := rv.length; simpa using this.symm
  obtain ⟨heap1, gens, drawn, toks, os⟩ := s1
  -- the new object's place
  generalize hnew : heap1.objs.size + 1 = new
  have free : H1 new = none := inv1.hok.fresh (by rw [← hnew]; exact Nat.le_succ _)
  have old : ∀ b o, heap1.get? b = some o → ((heap1.push (PySem.W.kdv_tup us)).push (PySem.HandSPX.excO C heap1.objs.size)).get? b = some o := fun b o eb => (Heap.get?_push_of_some _ (Heap.get?_push_of_some _ eb))
  have here : ((heap1.push (PySem.W.kdv_tup us)).push (PySem.HandSPX.excO C heap1.objs.size)).get? new = some (PySem.HandSPX.excO C heap1.objs.size) := by rw [← hnew]; heap_get
  have inv2 : Inv X pins σ (upd H1 new (exo new C none)) ⟨(heap1.push (PySem.W.kdv_tup us)).push (PySem.HandSPX.excO C heap1.objs.size), gens, drawn, toks, os⟩ :=
    inv1.laid (t' := toks) (o := exo new C none) old (by rw [← hnew]; exact Nat.le_succ _) (exo_ok here)
  have sp1 : spRest f C [.ref new, v] (upd H1 new (exo new C none)) (fun u H2 => u = .non ∧ ∃ (d : Addr) (fs : List (Str × V)), H2 new = some (exo new C (some d)) ∧ H2 d = some (exd d fs) ∧ H1 d = none ∧ Q (.ref C) (some d) (upd (del H2 new) d (.xd fs))) (fun _ _ _ => False) := by
    refine ⟨new, v, rfl, upd_same, fun d n ne => ⟨rfl, d, [(f, v)], upd_same, ?_, ?_, ?_⟩⟩
    · rw [upd_ne ne, upd_same]
    · rw [upd_ne ne] at n
      exact n
    · rw [upd_ne ne] at n
      have eq : upd (del (upd (upd (upd H1 new (exo new C none)) d (exd d [(f, v)])) new (exo new C (some d))) new) d (.xd [(f, v)]) = upd H1 d (.xd [(f, v)]) := by
        funext a
        by_cases ad : a = d
        · rw [ad, upd_same, upd_same]
        · rw [upd_ne ad, upd_ne ad]
          by_cases an : a = new
          · rw [an, del_same, free]
          · rw [del_ne an, upd_ne an, upd_ne ad, upd_ne an]
      rw [eq]
      exact q1 d n
  have rr : Vals [V.ref new, v] (Value.ref new :: us) := .cons rfl rv
  have bnd := hb _ (Value.ref new :: us) inv2.kIn (by simp [len1])
  rw [List.append_nil] at bnd
  show wpAny _ _ (call (Value.ref C) us) _ _ _
  subst hnew
  refine wpAny_call (PySem.HandSPX.call_own F.excBase_ValueError (fun Y => PySem.HandSPX.refsVE_contains Y mro mroOk) (inv1.kIn _ _ lookC) (PySem.W.looks_findIn inv1.kIn iC) (fun self => PySem.W.bind_fn inv1.kIn self tI) (by rw [len1, sizeLine_eq]; decide)
    (codeAny_mono (F1.run _ X.stack _ _ ⟨Value.ref (heap1.objs.size + 1) :: us, []⟩ (Value.ref (heap1.objs.size + 1) :: us) _ _ (fun _ _ _ => False) (room.make C us []) (inv2.env0.make C us []) bnd rr sp1) fun res s2 out => ?_))
  cases res with
  | error er => exact hx pins σ _ _ er s2 inv2 out
  | ok fl =>
    cases fl with
    | ret u =>
      obtain ⟨u', H2, os2, bare2, un2, hok2, ru, eu, d, fs, ea, ed, dn, q2⟩ := out
      subst eu
      obtain ⟨heap2, gens2, drawn2, toks2, os'⟩ := s2
      obtain ⟨t0, G0, J, kG, ge, hoe, na⟩ := mk_end0 (d2 := drawn2) (t2 := toks2) inv1 (Nat.le_succ _) old un2 hok2 os2 bare2 ea ed dn
      refine ⟨ru, heap1.objs.size + 1, _, _, ⟨G0, gens2, drawn2, toks2, os'⟩, _, .ref C, some d, rfl, J, kG, ge, hoe, ⟨rfl, rfl, ?_⟩, rfl, rfl, na, rfl, bare2, raises_own G.oc.exC G.oc.tyC, q2⟩
      intro vs hv
      cases hv
      rfl
    | next => exact False.elim out
    | brk => exact False.elim out
    | cont => exact False.elim out
structure FldE (P : Program) (w : World) (K : PySem.W.Frag) (mg : Str → Option Value) (base : Heap) (cl : Nat → Addr) (c : Nat) (f x : Str) : Prop where
  ex : ∃ B b fI fd, FldF K mg (cl c) B f b x ∧ PySem.W.findIn K (.ref (cl c)) "__init__" = some (some (.ref fI)) ∧ PySem.W.typeIn K (.ref fI) = some (.type "function") ∧
    FnOk P w K mg base (L2N.CX P w) 1 fI fd ["self", f] (spRest f (cl c)) ∧ Binds K fd ["self", f] []
def sRaiseF (c : Nat) (f : Str) (m : M T) : MS := fun env h => bindE (m env h) env fun t h1 => if t.pu = true then .ex (.fld c f t) env h1 else .bad
theorem StOk.layX {K : PySem.W.Frag} {ω : Wd} {h : Store} {H : Hp} {d : Addr} {o : HO} (S : StOk K cl ω h H) (n : H d = none) : StOk K cl ω h (upd H d o) ∧ Nx ω H ω (upd H d o) := ⟨S.lay n, nx_lay n⟩
theorem ks_raiseF (co : Ok X W k) (hk : 2 ≤ k) (E : FldE X.prog X.w X.K X.mg X.base cl c f x) (he : PE X e (tE X.K cl W m)) (hg : Gl X x := by rfl) (hdb : (x == ("__debug__" : Str)) = false := by decide)
    (h1 : starEach [e] X.env = (false, eval e X.env) :: starEach [] X.env := by rfl) (h2 : (backTo p3 (starEach [] X.env)).any (·.1) = false := by rfl) :
    PS X (.Raise (some (.Call (.Name x p) [e] [] p3)) none pos) (tS X.K cl W (sRaiseF c f m)) := by
  obtain ⟨B, b, fI, fd, G, iC, tI, F1, hb⟩ := E.ex
  have hx : Passes (L2N.CX X.prog X.w) X (fun _ _ _ => False) := fun pins σ H s u s' I cx => by
    obtain ⟨_, _, _, _, _, _, _, _, _, _, _, _, z⟩ := cx
    exact z.elim
  refine (L2N.ps_raise co.calm co.tk (pmk_fld G iC tI F1 (co.room.mono hk) hb hx hg (pa_cons he pa_nil h1) hdb h1 h2)).weak fun D σ H ⟨env, h, ω, he, hs, q⟩ => ⟨env, h, ω, he, hs, (PostS.bindE he q).mono fun t h1 ω1 H1 N1 S1 q1 v rv => ⟨v, rfl, fun d n => ?_⟩⟩
  split at q1
  · rename_i hp
    obtain ⟨S2, N2⟩ := S1.layX (o := .xd [(f, v)]) n
    exact q1 ω1 _ σ _ _ N2 S2 (he.mono N1.toGr) ⟨rfl, hp, d, v, rfl, upd_same, rv⟩
  · exact q1.elim
end
def oexB (K : PySem.W.Frag) (C : Addr) : Bool := match K.lookup C with
  | some ⟨.type "type", _, .cls cd, slots⟩ => (match cd.mro, slots.toList with
    | .ref own :: up, [_, _, _, _, some (.builtin made), _] => own == C && made == "ValueError.__new__" && (!cd.hasDel && (cd.hasDict && PySem.HandSPX.refsVE up))
    | _, _ => false)
  | _ => false
theorem oexB_ok {K : PySem.W.Frag} {C : Addr} (t : oexB K C = true) : ∃ nm q N bs bm sn sub ab col dd k0 k1 k2 k3 k5, K.lookup C = some (excClassObj nm q C N bs bm true sn sub ab col dd k0 k1 k2 k3 k5 "ValueError.__new__") ∧ PySem.HandSPX.refsVE bm = true := by
  unfold oexB at t
  split at t
  · rename_i dd cd slots at_
    split at t
    · rename_i own up s0 s1 s2 s3 made s5 em es
      simp only [Bool.and_eq_true, beq_iff_eq, Bool.not_eq_true'] at t
      obtain ⟨⟨t1, t2⟩, t3, t4, t5⟩ := t
      subst t1 t2
      cases cd
      simp only at em t3 t4
      subst em t3 t4
      have : slots = #[s0, s1, s2, s3, some (.builtin "ValueError.__new__"), s5] := by
        cases slots
        simpa using es
      subst this
      exact ⟨_, _, _, _, up, _, _, _, _, _, _, _, _, _, _, at_, t5⟩
    · cases t
  · cases t
def fldB (K : PySem.W.Frag) (x b f : Str) : Bool :=
  let C := He.ga K x
  let B := He.ga K b
  oexB K C && (He.eqO (PySem.W.findIn K (.ref C) "__setattr__") (some (some (.builtin "object.__setattr__"))) && (decide (PySem.W.subIn K (.ref C) (.type "BaseException") = some true) && (decide (PySem.W.typeIn K (.ref C) = some (.type "type")) &&
  (PySem.W.keepIn K (.ref C) && (He.eqO (PySem.W.findIn K (.ref C) f) (some none) && (PySem.W.readsIn K B (.type "type") && (He.eqO (PySem.W.specialIn K (.ref B) "__getattribute__") (some (some (.builtin "type.__getattribute__"))) &&
  ((match PySem.W.findCls K (.ref B) (.type "type") "__init__" with
    | some (.val v) => decide (v = .builtin "ValueError.__init__")
    | _ => false) && (He.eqO (PySem.W.findIn K (.ref C) "__init__") (some (some (.ref (He.ma K C "__init__")))) && decide (PySem.W.typeIn K (.ref (He.ma K C "__init__")) = some (.type "function")))))))))))
theorem fldB_ok {K : PySem.W.Frag} {mg : Str → Option Value} {x b f : Str} (t : fldB K x b f = true) (gx : mg x = some (.ref (He.ga K x))) (gb : mg b = some (.ref (He.ga K b))) :
    FldF K mg (He.ga K x) (He.ga K b) f b x ∧ PySem.W.findIn K (.ref (He.ga K x)) "__init__" = some (some (.ref (He.ma K (He.ga K x) "__init__"))) ∧ PySem.W.typeIn K (.ref (He.ma K (He.ga K x) "__init__")) = some (.type "function") := by
  unfold fldB at t
  simp only [Bool.and_eq_true, decide_eq_true_eq] at t
  obtain ⟨t1, t2, t3, t4, t5, t6, t7, t8, t9, t10, t11⟩ := t
  have kc : PySem.W.findCls K (.ref (He.ga K b)) (.type "type") "__init__" = some (.val (.builtin "ValueError.__init__")) := by
    revert t9
    split
    · rename_i v e
      intro z
      rw [e, of_decide_eq_true z]
    · exact fun z => nomatch z
  exact ⟨⟨⟨oexB_ok t1, He.eqO_ok t2, t3, t4, t5⟩, gx, gb, He.eqO_ok t6, .type "type", ⟨t7, He.eqO_ok t8⟩, kc⟩, He.eqO_ok t10, t11⟩
structure SaysY (fa : List He.Fa) (fn : List He.DefD) (ex : PySem.W.Frag → Bool) (K : PySem.W.Frag) : Prop where
  t : He.SaysD fa fn K
  more : ex K = true
def reachY (n : Nat) (g : Addr → Option Obj) : PySem.W.Frag := He.frG g (He.asD g n ++ [cStatics])
def obsY (n : Nat) (fa : List He.Fa) (fn : List He.DefD) (ex : PySem.W.Frag → Bool) (g : Addr → Option Obj) : He.AlD × Bool := (He.obsD fa fn (reachY n g), ex (reachY n g))
def hookY (n : Nat) (fa : List He.Fa) (fn : List He.DefD) (ex : PySem.W.Frag → Bool) : PySem.W.Hook where
  α := He.AlD × Bool
  obs := fun s => obsY n fa fn ex s.heap.get?
  val := fun _ => (He.valD fn, true)
  says := fun _ h => ∃ K : PySem.W.Frag, K.In h ∧ SaysY fa fn ex K
  of := fun _ _ e => ⟨_, He.frG_in, ⟨congrArg Prod.fst e, congrArg Prod.snd e⟩⟩
  keeps := fun _ _ _ ⟨K, inn, says⟩ k => ⟨K, PySem.W.Frag.In.keeps inn k, says⟩
theorem obsY_eq {n : Nat} {fa : List He.Fa} {fn : List He.DefD} {ex : PySem.W.Frag → Bool} {g : Addr → Option Obj} {s : Shared} (h : ∀ a, g a = s.heap.get? a) : obsY n fa fn ex g = (hookY n fa fn ex).obs s := by
  obtain rfl : g = s.heap.get? := funext h
  rfl
end Sm
namespace Sm
open PySem PySem.Spec PyProof.Rows L2 L2H
section
variable {X : Cx} {cl : Nat → Addr} {W : WX}
end
structure FnP (P : Program) (w : World) (K : PySem.W.Frag) (mg : Str → Option Value) (base : Heap) (k : Nat) (f : Addr) (fd : FuncData) (ps : List Str) (spp : Addr × Obj → Sp) : Prop where
  len : ∀ p vs H Q E, spp p vs H Q E → vs.length = ps.length
  run : ∀ (p : Addr × Obj) (A : Around) (outer : List Env) (s : Shared) (H : Hp) (args : Args) (us : List Value) (vs : List V) (Q : VK) (E : XK), Hot1 A p → RoomH k A → PinOk outer H s p → Env0 P w K mg base A outer s H → BindsTo s fd args (ps.zip us) → Vals vs us → spp p vs H Q E →
    codeAny (model P w) A (.call (.ref f) args) (CR (L2N.CX P w) outer P w H s Q E) s
section
variable {P : Program} {w : World} {K : PySem.W.Frag} {mg : Str → Option Value} {base : Heap} {k : Nat} {f : Addr} {fd : FuncData} {x qual : Str} {params : Arguments} {body : List Stmt} {scope : Scope} {N ps : List Str} {spp : Addr × Obj → Sp}
theorem FnP.of (F : FunD K x qual params body scope [] [] f fd) (S : FnScope N ps scope) (len : ∀ p vs H Q E, spp p vs H Q E → vs.length = ps.length)
    (hB : ∀ (cdv : Value) (p : Addr × Obj) (A : Around) (outer : List Env) (s : Shared) (H : Hp) (vs : List V) (Q : VK) (E : XK), Hot1 A p → RoomH k (A.deeper (envOfC qual scope s.heap.objs.size f cdv)) → spp p vs H Q E →
      ∃ t, PSs (cxH (L2N.CX P w) P w K mg base N qual scope f cdv A outer s H E p) body t ∧ t { nx := fun _ H' => Q .non H', rt := Q } (L2.start N vs) H) : FnP P w K mg base (k + 1) f fd ps spp := by
  obtain ⟨oc, od, dV, kV, doc, pm, an, cdv, ct, osl, rfl, at_, code, _, _⟩ := F.ex
  refine ⟨len, fun p A outer s H args us vs Q E hot room pinned env0 bound vals sp1 => ?_⟩
  have same : vs.length = ps.length := len _ _ _ _ _ sp1
  have inK : K.In s.heap := env0.mod.kin.keeps fun b o z => (env0.bs b o z).1
  have kinds : ∀ y ∈ ps.zip us, scope.names.lookup y.1 = some .local ∨ (scope.names.lookup y.1 = some .cell ∧ ((cellsFrom (s.heap.objs.size + 1) scope.names []).lookup y.1).isSome = true) := fun y hy =>
    (S.par y.1 (List.of_mem_zip hy).1).elim .inl fun z => .inr ⟨z, PySem.W.cellsFrom_some _ _ _ (.inl z)⟩
  refine codeAny_call_function room.depth (inK _ _ at_) rfl S.co S.gen rfl (PySem.W.codeRec_of inK code) (bound _ _ _ _ (wpAny_newFunctionEnv_cells S.kind kinds fun env e1 s1 made => ?_))
  subst e1
  refine ⟨(env0.mod.nolimit.keeps fun b o z => (env0.bs b o z).1).keeps made.toInCall.keep, codeAny_func ?_⟩
  obtain ⟨t, run1, rd⟩ := hB cdv p A outer s H vs Q E hot (room.deeper _) sp1
  have inv : Inv (cxH (L2N.CX P w) P w K mg base N qual scope f cdv A outer s H E p) [] (L2.start N vs) H s1 := inv_startH S pinned env0 same vals made
  refine wpAny_mono (run1.run [] s1 _ H _ inv rd) (fun fl s2 out => ?_) fun _ _ z => z
  cases fl with
  | ret u =>
    obtain ⟨v, σ2, H2, inv2, rv, q⟩ := out
    exact ⟨v, H2, inv2.os, inv2.bare, inv2.base, inv2.hok, rv, q⟩
  | next =>
    obtain ⟨σ2, H2, inv2, q⟩ := out
    exact ⟨.non, H2, inv2.os, inv2.bare, inv2.base, inv2.hok, rfl, q⟩
  | brk => exact out.elim fun _ z => z.elim fun _ y => y.2.elim
  | cont => exact out.elim fun _ z => z.elim fun _ y => y.2.elim
end
section
variable {X : Cx} {k : Nat} {f : Addr} {fd : FuncData} {ps : List Str} {spp : Addr × Obj → Sp} {x : Str} {p : Addr × Obj} {q pos : Pos} {e : Expr} {es : List Expr} {ta : TA}
end
def Ex.c : Ex → Nat
  | .txt c => c
  | .fld c _ _ => c
def dOf (d : Addr) : Ex → Option Addr
  | .txt _ => none
  | .fld _ _ _ => some d
structure OkX (X : Cx) (cl : Nat → Addr) (k : Nat) (a d : Addr) (oe : Obj) (e : Ex) : Prop where
  nd : X.N.Nodup
  hot : Hot1 X.A (a, oe)
  mem : (a, oe) ∈ X.pn
  room : RoomH k X.A
  zn : L2N.Zn (.ref (cl e.c)) (dOf d e) oe
theorem OkX.hu {X : Cx} {cl : Nat → Addr} {k : Nat} {a d : Addr} {oe : Obj} {e : Ex} (c : OkX X cl k a d oe e) : X.A.units + 64 < cLine := by have := c.room.un; omega
theorem OkX.hu0 {X : Cx} {cl : Nat → Addr} {k : Nat} {a d : Addr} {oe : Obj} {e : Ex} (c : OkX X cl k a d oe e) : X.A.units < cLine := by have := c.room.un; omega
structure ExcI (K : PySem.W.Frag) (D : Addr) : Prop where
  isC : (PySem.W.clsIn K D).isSome = true
  ga : PySem.W.findIn K (.ref D) "__getattribute__" = some (some (.builtin "BaseException.__getattribute__"))
  gt : PySem.W.findIn K (.ref D) "__getattr__" = some none
  sb : PySem.W.subIn K (.ref D) (.type "BaseException") = some true
  ac : PySem.W.findIn K (.ref D) "__class__" = some (some (.builtin "object.__class__"))
  gs : PySem.W.specialIn K (.builtin "object.__class__") "__get__" = some (some (.builtin "getset_descriptor.__get__"))
  tk : PySem.W.takesIn K (.builtin "object.__class__") = some true
  mo : PySem.W.mroIn K D (.type "object") = some true
  hasD : PySem.W.hasDictIn K D = true
open Classical in
open Classical in
section
variable {X : Cx} {cl : Nat → Addr} {W : WX} {k : Nat} {a d : Addr} {oe : Obj} {e : Ex} {ev : Expr} {m : M T} {x : Str} {p p2 pos : Pos} {b : Bool}
end
def spX (K : PySem.W.Frag) (cl : Nat → Addr) (F : Addr → Addr → Ex → Fn) (n : Nat) (ok : Ex → Prop) : Addr × Obj → Sp := fun p vs H Q _ => vs.length = n ∧ ∃ (d : Addr) (e : Ex), ok e ∧ L2N.Zn (.ref (cl e.c)) (dOf d e) p.2 ∧
  ∃ ts h ω, StOk K cl ω h H ∧ Reps K ω ts vs ∧ PostG K cl W0 ω H [] (F p.1 d e ts h) fun t _ ω' H' => ∀ v, Rep K ω' t v → Q v H'
structure CalX (P : Program) (w : World) (K : PySem.W.Frag) (mg : Str → Option Value) (base : Heap) (cl : Nat → Addr) (x : Str) (j : Nat) (ps : List Str) (F : Addr → Addr → Ex → Fn) (n : Nat) (ok : Ex → Prop) : Prop where
  ex : ∃ f fd, FnP P w K mg base j f fd ps (spX K cl F n ok) ∧ mg x = some (.ref f) ∧ PySem.W.keepIn K (.ref f) = true ∧ Binds K fd ps []
  len : ∀ a d e ts h, ts.length ≠ n → F a d e ts h = .bad
section
variable {P : Program} {w : World} {K : PySem.W.Frag} {mg : Str → Option Value} {base : Heap} {cl : Nat → Addr}
end
section
variable {X : Cx} {cl : Nat → Addr} {W : WX} {k j n : Nat} {a d : Addr} {oe : Obj} {e : Ex} {ps : List Str} {F : Addr → Addr → Ex → Fn} {x : Str} {q pos : Pos} {ev : Expr} {es : List Expr} {r : M (List T)} {ok : Ex → Prop}
end
open Classical in
section
variable {X : Cx} {cl : Nat → Addr} {W : WX} {k i c0 : Nat} {cs : List Nat} {x n : Str} {np pos pos' : Pos} {body suite : List Stmt} {b0 : Stmt} {sem : MS} {hd : Addr → Addr → Ex → MS}
end
structure TryF (K : PySem.W.Frag) (cl : Nat → Addr) (R A : List Nat) (c0 : Nat) : Prop where
  i : ∀ c ∈ R, ExcI K (cl c)
  k : ∀ c ∈ R, ∀ y ∈ A, PySem.W.kitOne K (.ref (cl c)) (.ref (cl y)) = some (decide (c = y))
  v : ∀ c ∈ R, PySem.W.kitOne K (.ref (cl c)) (.type "ValueError") = some true
  m : ∀ c ∈ R, PySem.W.exmOne K (.ref (cl c)) (.ref (cl c0)) = some true
end Sm
namespace Sm
open PySem PySem.Spec PyProof.Rows L2
section
variable {X : Cx} {W : WX} {cl : Nat → Addr} {k j n : Nat} {ps : List Str} {F : Fn} {x z : Str} {p pos : Pos} {e : Expr} {es : List Expr} {r : M (List T)} {env : Env'} {h : Store}
end
end Sm
namespace Sm
open PySem PySem.Spec PyProof.Rows L2
def rowT (ns : List Int) : T := .tup (ns.map T.int)
section
variable {K : PySem.W.Frag} {cl : Nat → Addr} {ω : Wd} {h : Store} {H : Hp}
end
section
variable {X : Cx} {W : WX} {cl : Nat → Addr} {r : M (List T)}
end
end Sm
namespace Sm
open PySem PySem.Spec PyProof.Rows L2
section
variable {X : Cx} {cl : Nat → Addr} {W : WX} {tg : Expr} {r : M (List T)} {env : Env'} {h : Store}
end
end Sm
namespace Sm
open PySem PySem.Spec PyProof.Rows L2 HT
open PySem.W (krv_all krv_range)
section
variable {E : Value → Shared → Prop} {s : Shared} {w : World} {prog : Program} {A : Around}
end
section
variable {X : Cx} {cl : Nat → Addr} {W : WX} {m : M T} {env : Env'} {h : Store}
end
end Sm
namespace Sm
open PySem PySem.Spec PyProof.Rows L2
abbrev TK (P : Program) (w : World) : HeapKind P w (List Int) := tupleKind (intKind P w)
theorem ent_eq {P : Program} {w : World} : (entryOfKey (TK P w)) = entI := rfl
def getK (kvs : List (List Int × T)) (k : List Int) : Option T := (kvs.find? fun x => decide (x.1 = k)).map (·.2)
def setK (k : List Int) (t : T) (x : List Int × T) : List Int × T := if x.1 = k then (x.1, t) else x
def putKT (kvs : List (List Int × T)) (k : List Int) (t : T) : List (List Int × T) := if (getK kvs k).isSome then kvs.map (setK k t) else kvs ++ [(k, t)]
abbrev KX (K : PySem.W.Frag) (ω : Wd) := Paired fun (p : List Int × T) (q : List Int × Addr × Value) => p.1 = q.1 ∧ SqT K ω.Phi q.2.1 (p.1.map V.int) ∧ ∃ v, RelV v q.2.2 ∧ Rep K ω p.2 v
abbrev DRel := Paired fun (p : DRow) (q : List Int × Addr × Value) => p.1 = q.1 ∧ p.2.1 = q.2.1 ∧ RelV p.2.2 q.2.2
section
variable {K : PySem.W.Frag} {ω ω' : Wd} {kvs : List (List Int × T)} {xs : List (List Int × Addr × Value)} {l : List DRow} {k : List Int} {t : T} {v : V} {u : Value} {b : Addr}
theorem kx_of : ∀ {kvs : List (List Int × T)} {l : List DRow} {xs : List (List Int × Addr × Value)}, RepKT K ω kvs l → DRel l xs → KX K ω kvs xs
  | [], l, xs, r, d => by
    have r : l = [] := r
    subst r
    cases d
    exact .nil
  | (k, t) :: kvs, l, xs, r, d => by
    obtain ⟨b, v, lr, rfl, h1, h2, h3⟩ := r
    cases d with
    | cons e d =>
      obtain ⟨e1, e2, e3⟩ := e
      refine .cons ⟨e1, ?_, v, e3, h2⟩ (kx_of h3 d)
      rw [← e2]
      exact h1
theorem kx_to (r : KX K ω kvs xs) : ∃ l, RepKT K ω kvs l ∧ DRel l xs := by
  induction r with
  | nil => exact ⟨[], rfl, .nil⟩
  | @cons p q ps qs h _ ih =>
    obtain ⟨l, a, d⟩ := ih
    obtain ⟨h1, h2, v, h3, h4⟩ := h
    exact ⟨(p.1, q.2.1, v) :: l, ⟨q.2.1, v, l, rfl, h2, h4, a⟩, .cons ⟨h1, rfl, h3⟩ d⟩
theorem kx_some (r : KX K ω kvs xs) (e : getK kvs k = some t) : ∃ q v, atKey xs k = some q ∧ RelV v q.2 ∧ Rep K ω t v := by
  induction r with
  | nil => cases e
  | @cons p q ps qs h _ ih =>
    obtain ⟨h1, h2, v, h3, h4⟩ := h
    by_cases c : p.1 = k
    · have c2 : q.1 = k := h1.symm.trans c
      have a : getK (p :: ps) k = some p.2 := by unfold getK; rw [List.find?_cons, decide_eq_true c]; rfl
      have b : atKey (q :: qs) k = some q.2 := by unfold atKey; rw [List.find?_cons, decide_eq_true c2]; rfl
      rw [a] at e
      cases e
      exact ⟨q.2, v, b, h3, h4⟩
    · have c2 : ¬ q.1 = k := fun z => c (h1.trans z)
      have a : getK (p :: ps) k = getK ps k := by unfold getK; rw [List.find?_cons, decide_eq_false c]
      have b : atKey (q :: qs) k = atKey qs k := by unfold atKey; rw [List.find?_cons, decide_eq_false c2]
      rw [a] at e
      rw [b]
      exact ih e
theorem kx_none (r : KX K ω kvs xs) (e : getK kvs k = none) : atKey xs k = none := by
  induction r with
  | nil => rfl
  | @cons p q ps qs h _ ih =>
    obtain ⟨h1, h2, v, h3, h4⟩ := h
    by_cases c : p.1 = k
    · have a : getK (p :: ps) k = some p.2 := by unfold getK; rw [List.find?_cons, decide_eq_true c]; rfl
      rw [a] at e
      cases e
    · have c2 : ¬ q.1 = k := fun z => c (h1.trans z)
      have a : getK (p :: ps) k = getK ps k := by unfold getK; rw [List.find?_cons, decide_eq_false c]
      have b : atKey (q :: qs) k = atKey qs k := by unfold atKey; rw [List.find?_cons, decide_eq_false c2]
      rw [a] at e
      rw [b]
      exact ih e
theorem kx_is (r : KX K ω kvs xs) : (atKey xs k).isSome = (getK kvs k).isSome := by
  cases e : getK kvs k with
  | none =>
    rw [kx_none r e]
    rfl
  | some t =>
    obtain ⟨q, v, a, _⟩ := kx_some r e
    rw [a]
    rfl
theorem kx_map (r : KX K ω kvs xs) (rv : RelV v u) (rt : Rep K ω t v) : KX K ω (kvs.map (setK k t)) (xs.map (putAt k u)) := by
  induction r with
  | nil => exact .nil
  | @cons p q ps qs h _ ih =>
    rw [List.map_cons, List.map_cons]
    refine .cons ?_ ih
    obtain ⟨h1, h2, w, h3, h4⟩ := h
    unfold putAt setK
    by_cases c : p.1 = k
    · rw [if_pos c, if_pos (h1.symm.trans c)]
      exact ⟨h1, h2, v, rv, rt⟩
    · rw [if_neg c, if_neg fun z => c (h1.trans z)]
      exact ⟨h1, h2, w, h3, h4⟩
theorem kx_put (r : KX K ω kvs xs) (hb : SqT K ω.Phi b (k.map V.int)) (rv : RelV v u) (rt : Rep K ω t v) : KX K ω (putKT kvs k t) (storedH xs k b u) := by
  unfold putKT storedH
  rw [kx_is r]
  by_cases c : (getK kvs k).isSome = true
  · rw [if_pos c, if_pos c]
    exact kx_map r rv rt
  · rw [if_neg c, if_neg c]
    exact Paired.snoc r ⟨rfl, hb, v, rv, rt⟩
theorem putKT_len : (putKT kvs k t).length ≤ kvs.length + 1 := by
  unfold putKT
  split <;> simp
theorem putKT_pu (h : puKV kvs = true) (ht : t.pu = true) : puKV (putKT kvs k t) = true := by
  unfold puKV at h ⊢
  rw [List.all_eq_true] at h ⊢
  intro x hx
  unfold putKT at hx
  split at hx
  · obtain ⟨y, hy, rfl⟩ := List.mem_map.mp hx
    unfold setK
    split
    · exact ht
    · exact h y hy
  · rcases List.mem_append.mp hx with z | z
    · exact h x z
    · rw [List.mem_singleton.mp z]
      exact ht
end
theorem items_int {P : Program} {w : World} : ∀ {ks : List Int} {us : List Value}, Vals (ks.map V.int) us → ItemsAre (intKind P w) ks us
  | [], us, r => by
    cases r
    exact .nil
  | k :: ks, us, r => by
    rw [List.map_cons] at r
    cases r with
    | cons a t =>
      obtain ⟨tk, rfl⟩ := a
      exact .cons (by simp [intKind, Value.isInt]) (items_int t)
section
variable {X : Cx} {pins : List (Addr × Obj)} {σ : L2.St} {H : Hp} {s : Shared} {cl : Nat → Addr} {ω : Wd} {h : Store} {n : Nat} {kvs : List (List Int × T)} {ks : List Int} {v : V} {b : Addr}
theorem sq_key (I : Inv X pins σ H s) (S : StOk X.K cl ω h H) (q : SqT X.K ω.Phi b (ks.map V.int)) : (TK X.prog X.w).is s.heap ks b := by
  obtain ⟨its, r, ⟨o, h1, h2, m, h3⟩, _⟩ := I.tuple (sqT_mono S.phi q)
  exact ⟨o, its.toArray, m, h1, h2, h3, by simpa using items_int r⟩
theorem dict_at (I : Inv X pins σ H s) (S : StOk X.K cl ω h H) (r : Rep X.K ω (.loc n) v) (e : h[n]? = some (.dT kvs)) :
    ∃ p xs, v = .ref p ∧ ω.rho[n]? = some p ∧ Mut (H p) ∧ (puKV kvs = true ∧ kvs.length ≤ 100000) ∧ (p == sysModules) = false ∧ KX X.K ω kvs xs ∧ s.heap.DictOfH (TK X.prog X.w) p xs := by
  simp only [Rep] at r
  obtain ⟨p, rfl, q⟩ := r
  obtain ⟨pu, l, hp, rk⟩ := S.cells n _ p e q
  rcases hp with ⟨hp, sy⟩ | ⟨rfl, hp⟩
  · obtain ⟨⟨xs, d, o, es, ep, h1, h2, h3, h4, h5⟩, _, _⟩ := I.hok p _ hp
    have kx := kx_of rk d
    refine ⟨p, xs, rfl, q, by rw [hp]; trivial, pu, sy, kx, o, es, ep, h1, h2, h3, by rw [h4, ent_eq], ?_, h5⟩
    have all : ∀ {kvs : List (List Int × T)} {xs : List (List Int × Addr × Value)}, KX X.K ω kvs xs → ∀ x ∈ xs, (TK X.prog X.w).is s.heap x.1 x.2.1 := by
      intro kvs xs z
      induction z with
      | nil => exact fun x hx => nomatch hx
      | @cons p q ps qs h _ ih =>
        intro x hx
        rcases List.mem_cons.mp hx with w | w
        · subst w
          obtain ⟨a, b, _⟩ := h
          rw [← a]
          exact sq_key I S b
        · exact ih x w
    exact all kx
  · obtain ⟨_, sy, xs, d, o, es, ep, h1, h2, h3, h4, h5⟩ := I.hok p _ hp
    cases d
    have : kvs = [] := by
      cases kvs with
      | nil => rfl
      | cons x r =>
        obtain ⟨_, _, _, z, _⟩ := rk
        cases z
    subst this
    exact ⟨p, [], rfl, q, by rw [hp]; trivial, pu, sy, .nil, o, es, ep, h1, h2, h3, by rw [h4]; rfl, (fun x hx => nomatch hx), List.nodup_nil⟩
theorem dict_put (I : Inv X pins σ H s) (S : StOk X.K cl ω h H) {p : Addr} {xs : List (List Int × Addr × Value)} {h' : Heap} {kv2 : List (List Int × T)} {t' : Nat} (e : h[n]? = some (.dT kvs)) (q : ω.rho[n]? = some p) (mu : Mut (H p)) (sy : (p == sysModules) = false)
    (pu : puKV kv2 = true ∧ kv2.length ≤ 100000) (kx : KX X.K ω kv2 xs) (dd : h'.DictOfH (TK X.prog X.w) p xs) (hs : Heap.SameBut p s.heap h') :
    ∃ H', Inv X pins σ H' { s with heap := h', toks := t' } ∧ Nx ω H ω H' ∧ StOk X.K cl ω (h.set n (.dT kv2)) H' := by
  obtain ⟨l, rk, d⟩ := kx_to kx
  obtain ⟨o, es, ep, h1, h2, h3, h4, _, h5⟩ := dd
  refine ⟨upd H p (DX p l), d_write I mu hs ⟨o, h1⟩ ⟨⟨xs, d, o, es, ep, h1, h2, h3, by rw [h4, ent_eq], h5⟩, ⟨o, h1⟩, ?_⟩, nx_put S q, S.put e (fun z => by cases z) q ⟨pu, l, .inl ⟨upd_same, sy⟩, rk⟩⟩
  rintro g1 g2 ⟨ys, d, o, es, ep, h1, h2⟩ k
  exact ⟨ys, d, o, es, ep, k o h1, h2⟩
end
def dictOf (h : Store) : T → Option (List (List Int × T))
  | .loc n => match h[n]? with
    | some (.dT kvs) => some kvs
    | _ => none
  | _ => none
theorem dictOf_ok {h : Store} {a : T} {kvs : List (List Int × T)} (e : dictOf h a = some kvs) : ∃ n, a = .loc n ∧ h[n]? = some (.dT kvs) := by
  unfold dictOf at e
  split at e
  · rename_i n
    split at e
    · rename_i l hn
      cases e
      exact ⟨n, rfl, hn⟩
    · cases e
  · cases e
def keyOf : T → Option (List Int)
  | .tup ts => intsOf? ts
  | _ => none
theorem ints_reps {K : PySem.W.Frag} {ω : Wd} : ∀ {ts : List T} {ks : List Int} {vs : List V}, intsOf? ts = some ks → Reps K ω ts vs → vs = ks.map V.int
  | [], ks, vs, e, r => by
    cases e
    rw [r.nil_inv]
    rfl
  | t :: ts, ks, vs, e, r => by
    cases t with
    | int i =>
      unfold intsOf? at e
      rw [Option.map_eq_some_iff] at e
      obtain ⟨js, e1, rfl⟩ := e
      obtain ⟨v, vr, rfl, a, b⟩ := r.inv
      rw [a.int_inv, ints_reps e1 b]
      rfl
    | _ => cases e
theorem keyOf_ok {K : PySem.W.Frag} {ω : Wd} {a : T} {ks : List Int} {v : V} (e : keyOf a = some ks) (r : Rep K ω a v) : ∃ b, v = .ref b ∧ SqT K ω.Phi b (ks.map V.int) := by
  cases a with
  | tup ts =>
    simp only [Rep] at r
    obtain ⟨b, vs, rfl, s, q⟩ := r
    rw [ints_reps e q] at s
    exact ⟨b, rfl, s⟩
  | _ => cases e
def fGetD : F2 := fun a b h => (dictOf h a).bind fun kvs => (keyOf b).bind (getK kvs)
def fLenD : FA := fun as h => match as with
  | [a] => (dictOf h a).map fun kvs => .int kvs.length
  | _ => none
def fSetd (a b x : T) (h : Store) : Option (T × Store) := match a with
  | .loc n => (dictOf h a).bind fun kvs => (keyOf b).bind fun k => match getK kvs k with
    | some t => some (t, h)
    | none => if x.pu = true ∧ kvs.length < 100000 then some (x, h.set n (.dT (putKT kvs k x))) else none
  | _ => none
def mDict : M T := fun _ h => .ok (.loc h.length) (h ++ [.dT []])
def mSetd (mo me mx : M T) : M T := fun env h => (mo env h).bind fun a h1 => match dictOf h1 a with
  | some _ => (me env h1).bind fun b h2 => (mx env h2).bind fun x h3 => outM (fSetd a b x h3)
  | none => .bad
section
variable {X : Cx} {cl : Nat → Addr} {W : WX} {a b o e f : Expr} {m n mo me mx mv mi : M T} {r : M (List T)} {pos p apos cpos : Pos}
theorem k_dict : PE X (.Dict [] [] pos) (tE X.K cl W mDict) := pe_dnewT.weak fun σ H Q ⟨env, h, ω, he, S, q⟩ p hp => by
  have S1 := S.lay (o := .dT []) hp
  refine q _ _ ((nx_lay hp).cellIt hp) (S1.cellIt (c := .dT []) ⟨⟨rfl, Nat.zero_le _⟩, [], .inr ⟨rfl, upd_same⟩, rfl⟩ (S.freshF hp) (S.freshR hp)) _ ?_
  simp only [Rep]
  refine ⟨p, rfl, ?_⟩
  show (ω.rho ++ [p])[h.length]? = some p
  rw [List.getElem?_append_right (by rw [S.len]; exact Nat.le_refl _), S.len]
  simp
theorem k_idxD (hu : X.A.units + 65 < cLine) (ha : PE X a (tE X.K cl W m)) (hb : PE X b (tE X.K cl W n)) (hs : PlainIx b := by exact fun _ _ => rfl) : PE X (.Subscript a b pos) (tE X.K cl W (mBin fGetD m n)) := by
  refine ⟨fun pins s σ H Q I h => subD_of F.slot_dict_getitem.lookup hs (thn (ha.run pins s σ H _ I (two_step h)) ?_)⟩
  rintro u1 s1 ⟨x, H1, I1, r1, q1⟩
  refine thn (hb.run pins s1 σ H1 _ I1 q1) ?_
  rintro u2 s2 ⟨y, H2, I2, r2, ta, tb, h2, ω2, t, S, ra, rb, ef, q2⟩
  unfold fGetD at ef
  rw [Option.bind_eq_some_iff] at ef
  obtain ⟨kvs, e1, ef⟩ := ef
  rw [Option.bind_eq_some_iff] at ef
  obtain ⟨ks, e2, e3⟩ := ef
  obtain ⟨n, rfl, e4⟩ := dictOf_ok e1
  obtain ⟨d, xs, rfl, q, mu, pu, sy, kx, dd⟩ := dict_at I2 S ra e4
  obtain ⟨c, rfl, sk⟩ := keyOf_ok e2 rb
  obtain ⟨pr, v, a1, rv, rt⟩ := kx_some kx e3
  cases r1
  cases r2
  exact ⟨dd.typeIs, wpAny_getItem_heap (tupleKind_room_in1 (by omega)) (sq_key I2 S sk) dd a1 ⟨v, H2, I2.tok _, rv, q2 _ _ _ (Nx.refl _ _) S rt⟩⟩
theorem c_lenD : CallR X (.builtin "len") (rVA X.K cl fLenD) := by
  rintro pins s σ H xs us Q I rx ⟨as, h, ω, t, S, ra, e, q⟩
  unfold fLenD at e
  split at e
  · rename_i a
    rw [Option.map_eq_some_iff] at e
    obtain ⟨kvs, e1, rfl⟩ := e
    obtain ⟨n, rfl, e4⟩ := dictOf_ok e1
    obtain ⟨v, vr, rfl, r1, r2⟩ := ra.inv
    rw [r2.nil_inv] at rx
    obtain ⟨d, ys, rfl, _, _, pu, sy, kx, dd⟩ := dict_at I S r1 e4
    obtain ⟨u, rfl, r3⟩ := vals1 rx
    cases r3
    have hl : kvs.length = ys.length := Paired.length kx
    refine call_len_dictH sy dd (by omega) ?_
    rw [← hl]
    exact ⟨.int ((kvs.length : Nat) : Int), H, I.tok _, ⟨_, rfl⟩, q _ _ _ (Nx.refl _ _) S rep_int⟩
  · cases e
theorem q_lenD (z : X.mg "len" = none) {es : List Expr} (ha : PA X (e :: es) (tA X.K cl W r)) (hg : Gl X "len" := by rfl) (he : starEach (e :: es) X.env = (false, eval e X.env) :: starEach es X.env := by rfl) (hpl : (backTo pos (starEach es X.env)).any (·.1) = false := by rfl) : PE X (.Call (.Name "len" p) (e :: es) [] pos) (tE X.K cl W (mCallF fLenD r)) := k_callB c_lenD hg z boot_len ha (by decide) (by decide) he hpl
theorem k_setd (hu : X.A.units + 65 < cLine) (ho : PE X o (tE X.K cl W mo)) (he : PE X e (tE X.K cl W me)) (hf : PE X f (tE X.K cl W mx)) (m : M2 X o "setdefault" apos e f cpos := by exact ⟨rfl, rfl, rfl, rfl⟩) : PE X (.Call (.Attribute o "setdefault" apos) [e, f] [] cpos) (tE X.K cl W (mSetd mo me mx)) := by
  refine ⟨fun pins s σ H Q I h => wpAny_Call_method m.base m.few m.line F.plainAttrs_dict F.slot_dict_setdefault F.type_dict_setdefault ?_⟩
  obtain ⟨env, h0, ω0, hen, S0, q0⟩ := h
  refine thn (ho.run pins s σ H _ I ⟨env, h0, ω0, hen, S0, (PostG.bind q0).mono fun ta h1 ω1 H1 N1 S1 q1 x rx => (⟨ta, h1, ω1, hen.mono N1.toGr, S1, rx, q1⟩ : ∃ ta h1 ω1, EnvOk X.K ω1 env σ ∧ StOk X.K cl ω1 h1 H1 ∧ Rep X.K ω1 ta x ∧ PostG X.K cl W ω1 H1 σ (match dictOf h1 ta with
    | some _ => (me env h1).bind fun b h2 => (mx env h2).bind fun x h3 => outM (fSetd ta b x h3)
    | none => .bad) _)⟩) ?_
  rintro u1 s1 ⟨x, H1, I1, r1, ta, h1, ω1, he1, S1, rx, q1⟩
  cases ed : dictOf h1 ta with
  | none => rw [ed] at q1; exact q1.elim
  | some kvs0 =>
    rw [ed] at q1
    obtain ⟨n, rfl, e0⟩ := dictOf_ok ed
    obtain ⟨d, xs0, rfl, at0, _, _, _, _, dd0⟩ := dict_at I1 S1 rx e0
    cases r1
    refine ⟨dd0.typeIs, fun c q => ?_, ?_⟩
    · cases q
      obtain ⟨ob, _, _, g1, g2, _⟩ := dd0
      exact ⟨ob, g1, g2.2.1⟩
    rw [m.trees]
    refine Calls.callWith_builtin rfl (Calls.evalArgs_plain (Calls.spliced_cons (thn (he.run pins s1 σ H1 _ I1 ⟨env, h1, ω1, he1, S1, (PostG.bind q1).mono fun tb h2 ω2 H2 N2 S2 q2 y ry => (⟨tb, h2, ω2, he1.mono N2.toGr, S2, rx.mono N2.toGr, ry, q2⟩ : ∃ tb h2 ω2, EnvOk X.K ω2 env σ ∧ StOk X.K cl ω2 h2 H2 ∧ Rep X.K ω2 (.loc n) (.ref d) ∧ Rep X.K ω2 tb y ∧ PostG X.K cl W ω2 H2 σ ((mx env h2).bind fun x h3 => outM (fSetd (.loc n) tb x h3)) _)⟩) ?_)))
    rintro u2 s2 ⟨y, H2, I2, r2, tb, h2, ω2, he2, S2, rx2, ry2, q2⟩
    refine Calls.spliced_cons (thn (hf.run pins s2 σ H2 _ I2 ⟨env, h2, ω2, he2, S2, (PostG.bind q2).mono fun tx h3 ω3 H3 N3 S3 q3 z rz => (⟨tx, h3, ω3, S3, rx2.mono N3.toGr, ry2.mono N3.toGr, rz, q3⟩ : ∃ tx h3 ω3, StOk X.K cl ω3 h3 H3 ∧ Rep X.K ω3 (.loc n) (.ref d) ∧ Rep X.K ω3 tb y ∧ Rep X.K ω3 tx z ∧ PostG X.K cl W ω3 H3 σ (outM (fSetd (.loc n) tb tx h3)) _)⟩) ?_)
    rintro u3 s3 ⟨z, H3, I3, r3, tx, h3, ω3, S3, rx3, ry3, rz3, q3⟩
    refine Calls.spliced_nil ?_
    cases ef : fSetd (.loc n) tb tx h3 with
    | none => rw [ef] at q3; exact q3.elim
    | some th =>
      rw [ef] at q3
      unfold fSetd at ef
      simp only [Option.bind_eq_some_iff] at ef
      obtain ⟨kvs, e1, ks, e2, e3⟩ := ef
      obtain ⟨n', en, e4⟩ := dictOf_ok e1
      cases en
      obtain ⟨d', xs, ed', at_, mu, pu, sy, kx, dd⟩ := dict_at I3 S3 rx3 e4
      cases ed'
      obtain ⟨c, rfl, sk⟩ := keyOf_ok e2 ry3
      cases r2
      have hl : kvs.length = xs.length := Paired.length kx
      refine call_setdefault_heap (hsz := by rw [sizeLine_eq]; omega) (tupleKind_room_in1 (by omega)) (sq_key I3 S3 sk) sy dd (fun pr hp => ?_) fun hn h' dd' hs => ?_
      · cases g : getK kvs ks with
        | none => rw [kx_none kx g] at hp; cases hp
        | some t =>
          obtain ⟨q, v, a1, rv, rt⟩ := kx_some kx g
          rw [hp] at a1
          cases a1
          rw [g] at e3
          cases e3
          exact ⟨v, H3, I3.tok _, rv, q3 _ _ (Nx.refl _ _) S3 v rt⟩
      · cases g : getK kvs ks with
        | some t =>
          obtain ⟨q, v, a1, _⟩ := kx_some kx g
          rw [hn] at a1
          cases a1
        | none =>
          rw [g] at e3
          obtain ⟨cc, e5⟩ := ne_ite e3
          cases e5
          obtain ⟨H', I', N', S'⟩ := dict_put (kv2 := putKT kvs ks tx) I3 S3 e4 at_ mu sy ⟨putKT_pu pu.1 cc.1, by have := putKT_len (kvs := kvs) (k := ks) (t := tx); omega⟩ (kx_put kx sk r3 rz3) dd' hs
          exact ⟨z, H', I', r3, q3 _ _ N' S' z (rz3.mono N'.toGr)⟩
end
end Sm
namespace Sm
open PySem PySem.Spec PyProof.Rows L2
section
variable {X : Cx} {cl : Nat → Addr} {W : WX} {o i e : Expr} {mo mi mv : M T} {tpos pos : Pos}
end
end Sm
set_option maxHeartbeats 4000000
namespace Sm
open PySem PySem.Spec PyProof.Rows L2
section
variable {X : Cx} {cl : Nat → Addr} {W : WX} {k : Nat} {r : M (List T)} {e : Expr} {es : List Expr} {p pos : Pos}
end
end Sm
set_option maxHeartbeats 4000000
namespace Sm
open PySem PySem.Spec PyProof.Rows L2
section
variable {P : Program} {w : World} {A : Around} {E : Value → Shared → Prop} {s : Shared}
set_option maxHeartbeats 6000000 in
end
section
variable {X : Cx} {cl : Nat → Addr} {W : WX} {k : Nat} {a : Expr} {m : M T} {p p2 pos q : Pos}
end
end Sm
set_option maxHeartbeats 2000000
namespace Sm
open PySem PySem.Spec PyProof.Rows L2
section
variable {X : Cx} {pins : List (Addr × Obj)} {σ : L2.St} {H : Hp} {s : Shared} {d : Addr} {o : Obj} {l : List DRow} {es : Array DictEntry} {ep : Nat}
end
section
variable {X : Cx} {cl : Nat → Addr} {W : WX} {e a b : Expr} {m n : M T} {tg : Expr} {r : M (List T)} {apos cpos p p2 pos pos2 : Pos}
end
end Sm
set_option maxHeartbeats 2000000
namespace Sm
open PySem PySem.Spec PyProof.Rows L2
section
variable {X : Cx} {cl : Nat → Addr} {W : WX} {k : Nat} {r : M (List T)} {e : Expr} {es : List Expr} {p pos : Pos}
end
end Sm
set_option maxHeartbeats 2000000
namespace Sm
open PySem PySem.Spec PyProof.Rows L2
section
variable {X : Cx} {pins : List (Addr × Obj)} {σ : L2.St} {H : Hp} {s : Shared} {vs : List V} {p0 : Addr} {a e : Expr} {ta : TE}
end
def unF : T → T
  | .dct [] (x :: r) => .tup (x :: r)
  | t => t
section
variable {X : Cx} {cl : Nat → Addr} {W : WX} {a b c e o : Expr} {m mo me : M T} {r : M (List T)} {p pos apos cpos : Pos}
end
end Sm
set_option maxHeartbeats 2000000
namespace Sm
open PySem PySem.Spec PyProof.Rows L2
section
variable {X : Cx} {cl : Nat → Addr} {W : WX} {k : Nat} {r : M (List T)} {o e : Expr} {es : List Expr} {mo me : M T} {p pos apos : Pos}
end
end Sm
set_option maxHeartbeats 2000000
namespace Sm
open PySem PySem.Spec PyProof.Rows L2
section
variable {X : Cx} {cl : Nat → Addr} {W : WX} {es : List Expr} {t : TA} {r : M (List T)} {pos : Pos}
end
end Sm
set_option maxHeartbeats 2000000
namespace Sm
open PySem PySem.Spec PyProof.Rows L2
def getS : List (Str × T) → Str → Option T
  | [], _ => none
  | (k, t) :: r, x => if k = x then some t else getS r x
def putS (l : List (Str × T)) (x : Str) (t : T) : List (Str × T) := if (getS l x).isSome = true then l.map fun p => if p.1 = x then (p.1, t) else p else l ++ [(x, t)]
def unk : List (Key × T) → Option (List (Str × T))
  | [] => some []
  | (.inr k, t) :: r => (unk r).map ((k, t) :: ·)
  | (.inl _, _) :: _ => none
section
variable {K : PySem.W.Frag} {cl : Nat → Addr} {ω : Wd} {h : Store} {H : Hp} {t : T} {v : V} {x : Str} {l : List (Str × T)} {kvs : List (Key × V)}
end
section
variable {X : Cx} {cl : Nat → Addr} {W : WX} {a b e o f : Expr} {es : List Expr} {m n mo me mv mi : M T} {r : M (List T)} {pos p apos cpos : Pos}
end
section
variable {X : Cx} {cl : Nat → Addr} {W : WX} {o e : Expr} {es : List Expr} {mo : M T} {r : M (List T)} {F : Fn} {c j k n : Nat} {x : Str} {ps : List Str} {p pos apos : Pos} {CX : CXT} {f C : Addr} {fd : FuncData} {sp : Sp} {E : L2.St → XK} {ta : TE} {t : TA}
end
end Sm
namespace Sm
open PySem PySem.Spec PyProof.Rows L2
section
variable {X : Cx} {pins : List (Addr × Obj)} {σ : L2.St} {H : Hp} {s : Shared} {cl : Nat → Addr} {ω : Wd} {h : Store} {n : Nat} {kvs : List (List Int × T)} {ks : List Int} {v : V} {b : Addr}
end
open Classical in
section
variable {X : Cx} {cl : Nat → Addr} {W : WX} {a b o e f : Expr} {m n mo me mx mv mi : M T} {r : M (List T)} {pos p apos cpos : Pos}
end
end Sm
namespace Sm
open PySem PySem.Spec PyProof.Rows L2
def tabV (tb : List (Str × Int)) (z : Str) : Option Int := (tb.find? fun p => decide (p.1 = z)).map (·.2)
structure Tb (K : PySem.W.Frag) (w : World) (mg : Str → Option Value) (x : Str) (tb : List (Str × Int)) : Prop where
  m : mg x = some (.ref (He.ga K x))
  kd : ∃ es n, KDict K w (He.ga K x) es n
  ns : ∀ z, match tabV tb z with
    | some i => ∃ t, PySem.W.nsIn K (He.ga K x) z = some (some (.int i t))
    | none => PySem.W.nsIn K (He.ga K x) z = some none
section
variable {X : Cx} {cl : Nat → Addr} {W : WX} {a e : Expr} {m me : M T} {x : Str} {tb : List (Str × Int)} {p pos apos cpos : Pos}
end
section
variable {X : Cx} {cl : Nat → Addr} {W : WX} {k c j n : Nat} {body : List Stmt} {h0 : ExceptHandler} {hs : List ExceptHandler} {sem : MS} {F : Fn} {x : Str} {ps : List Str} {o e : Expr} {mo me : M T} {p pos apos cpos : Pos}
end
section
variable {X : Cx} {cl : Nat → Addr} {W : WX} {a b o e : Expr} {m n mo me : M T} {rest : List Expr} {pos apos : Pos}
end
section
variable {X : Cx} {cl : Nat → Addr} {W : WX} {r : M (List T)} {e : Expr} {es : List Expr} {p pos : Pos}
end
section
variable {X : Cx} {cl : Nat → Addr} {W : WX} {r : M (List T)} {e : Expr} {es : List Expr} {p pos : Pos}
end
section
variable {P : Program} {w : World} {K : PySem.W.Frag} {mg : Str → Option Value} {base : Heap} {cl : Nat → Addr}
end
structure SaysZ (fa : List He.Fa) (fn : List He.DefD) (ts : List He.Tab) (ex : PySem.W.Frag → Bool) (w : World) (K : PySem.W.Frag) : Prop where
  t : He.SaysT fa fn ts w K
  more : ex K = true
end Sm
namespace Sm
open PySem PySem.Spec PyProof.Rows L2
section
variable {X : Cx} {cl : Nat → Addr} {W : WX} {r : M (List T)} {m n : M T} {a b e : Expr} {es : List Expr} {p pos : Pos}
end
end Sm
namespace Sm
open PySem PySem.Spec PyProof.Rows L2
section
variable {X : Cx} {pins : List (Addr × Obj)} {σ : L2.St} {H : Hp} {s : Shared} {P cd : Addr} {params : Arguments} {body : Expr} {scope : Scope} {pos : Pos} {E Q : Value → Shared → Prop} {ps : Array Value}
end
section
variable {K : PySem.W.Frag} {cl : Nat → Addr} {ω : Wd} {h : Store} {H H1 : Hp} {P c : Addr} {q : Str} {ps : Array Value} {i : Nat}
end
end Sm
namespace Sm
open PySem PySem.Spec PyProof.Rows L2
section
variable {X : Cx} {pins : List (Addr × Obj)} {σ : L2.St} {H : Hp} {s : Shared}
end
section
variable {Z : Cx} {cl : Nat → Addr} {k : Nat}
end
section
end
section
variable {K : PySem.W.Frag} {cl : Nat → Addr} {Wm : WX} {ω : Wd} {H : Hp} {σ : L2.St} {env : Env'} {h : Store} {mb : M T} {Q : VK}
end
open Classical in
section
variable {X : Cx} {W : WX} {cl : Nat → Addr} {k i : Nat} {mb : M T}
end
end Sm
namespace Sm
open PySem PySem.Spec PyProof.Rows L2
end Sm
namespace Sm
open PySem PySem.Spec PyProof.Rows L2
structure SaysV (fa : List He.Fa) (fn : List He.DefD) (ex : PySem.W.Frag → Bool) (d : He.Defn) (h : Heap) (K : PySem.W.Frag) : Prop where
  y : SaysY fa fn ex K
  code : PySem.W.codeHdIn K (He.cT K d).1 (He.cT K d).2 = true
  away : K.lookup (He.cT K d).2 = none
  bare : h.get? (He.cT K d).2 = some { cls := .none, data := .fields #[] }
end Sm
namespace Gd
open PySem PySem.Spec PyProof.Rows L2 Sm
noncomputable section
def t_PRIMES : T := (.tup (([2, 3, 5, 7, 11, 13, 17, 19, 23, 29] : List Int).map T.int))
def b_law_pot : MS := (sSeq (sIf (mTst (mBin fGe (mVar 0) (mBin fPow (mC (.int 10)) (mC (.int 18)))))
  (sRet (mCell (mLst (mCons (mBin fSub (mVar 0) (mBin fPow (mC (.int 10)) (mC (.int 18)))) mNil))))
  sNil)
  (sSeq (sSet 1 (mC (.int 0)))
  (sSeq (sFor (mRange1 (mCons (mC (.int 64)) mNil)) (.one 2) [2, 3]
  (sSeq (sSet 3 (mBin fMod (mBin fMul (mBin fAdd (mBin fAdd (mBin fMod (mVar 0) (mC (.int 2147483629))) (mBin fMul (mC (.int 7919)) (mVar 2))) (mC (.int 1))) (mC (.int 48271))) (mC (.int 2147483647))))
  (sSeq (sSet 3 (mBin fMod (mBin fAdd (mBin fAdd (mBin fMul (mVar 3) (mVar 3)) (mBin fMul (mC (.int 69621)) (mVar 2))) (mC (.int 7))) (mC (.int 2147483587))))
  (sSet 1 (mBin fAdd (mBin fMul (mVar 1) (mC (.int 2147483587))) (mVar 3))))))
  (sRet (mCell (mLst (mCons (mVar 1) mNil)))))))
def F_law_pot : Fn := fn 1 4 true b_law_pot
def b_law_take : MS := (sSeq (sSet 2 (mBin fMod (mBin fIdx (mVar 0) (mC (.int 0))) (mVar 1)))
  (sSeq (sItem (mBin fFdiv (mBin fIdx (mVar 0) (mC (.int 0))) (mVar 1)) (mVar 0) (mC (.int 0)))
  (sRet (mVar 2))))
def F_law_take : Fn := fn 2 3 false b_law_take
def b_law_line : MS := (sSeq (sSet 3 (mCell (mNew2 fRep (mFrz (mLst (mCons (mC (.int 0)) mNil))) (mC (.int 10)))))
  (sSeq (sFor (mSeq (mVar 1)) (.one 4) [1, 4]
  (sItem (mCall F_law_take (mCons (mVar 0) (mCons (mBin fAdd (mVar 2) (mC (.int 1))) mNil))) (mVar 3) (mVar 4)))
  (sSeq (sIf (mTst (mBin fEq (mCall F_law_take (mCons (mVar 0) (mCons (mC (.int 6)) mNil))) (mC (.int 0))))
  (sItem (mCall F_law_take (mCons (mVar 0) (mCons (mBin fAdd (mVar 2) (mC (.int 1))) mNil))) (mVar 3) (mCall F_law_take (mCons (mVar 0) (mCons (mC (.int 10)) mNil))))
  sNil)
  (sRet (mCallF fTuple (mCons (mVar 3) mNil))))))
def F_law_line : Fn := fn 3 5 false b_law_line
def b_law_primes : MS := (sRet (mTup (mCons (mC (.int 2)) (mCons (mC (.int 3)) (mCons (mC (.int 5)) (mCons (mC (.int 7)) (mCons (mC (.int 11)) (mCons (mC (.int 13)) (mCons (mC (.int 17)) (mCons (mC (.int 19)) (mCons (mC (.int 23)) (mCons (mC (.int 29)) mNil))))))))))))
def F_law_primes : Fn := fn 0 0 false b_law_primes
def b_law_product : MS := (sSeq (sSet 1 (mC (.int 1)))
  (sSeq (sFor (mZip (mCons (mCall F_law_primes mNil) (mCons (mVar 0) mNil))) (.tup [3, 2]) [0, 2, 3, 4]
  (sFor (mRange1 (mCons (mVar 2) mNil)) (.one 4) [0, 2, 4]
  (sSet 1 (mBin fMul (mVar 1) (mVar 3)))))
  (sRet (mVar 1))))
def F_law_product : Fn := fn 1 5 false b_law_product
def b_found_powers : MS := (sSeq (sSet 1 (mCell (mLst mNil)))
  (sSeq (sFor (mSeq (mC t_PRIMES)) (.one 3) [2, 3]
  (sSeq (sSet 2 (mC (.int 0)))
  (sSeq (sWhile (mTst (mBin fEq (mBin fMod (mVar 0) (mVar 3)) (mC (.int 0)))) []
  (sSeq (sSet 0 (mBin fFdiv (mVar 0) (mVar 3)))
  (sSet 2 (mBin fAdd (mVar 2) (mC (.int 1))))))
  (sExp (mMethL fAppend (mVar 1) (mCons (mVar 2) mNil))))))
  (sSeq (sIf (mTst (mBin fNe (mVar 0) (mC (.int 1))))
  (sRet (mC .non))
  sNil)
  (sRet (mCallF fTuple (mCons (mVar 1) mNil))))))
def F_found_powers : Fn := fn 1 4 false b_found_powers
def b_law_cell_at : MS := (sSeq (sIf (mTst (mBin fLt (mVar 1) (mCallF fLen (mCons (mVar 0) mNil))))
  (sRet (mBin fIdx (mVar 0) (mVar 1)))
  sNil)
  (sRet (mC (.int 0))))
def F_law_cell_at : Fn := fn 2 2 false b_law_cell_at
def b_law_order : MS := (sSeq (sSet 2 (mCell (mLst mNil)))
  (sSeq (sFor (mRange1 (mCons (mVar 1) mNil)) (.one 3) [1, 3]
  (sExp (mMethL fInsert (mVar 2) (mCons (mCall F_law_take (mCons (mVar 0) (mCons (mBin fAdd (mVar 3) (mC (.int 1))) mNil))) (mCons (mVar 3) mNil)))))
  (sRet (mCallF fTuple (mCons (mVar 2) mNil)))))
def F_law_order : Fn := fn 2 4 false b_law_order
def b_law_places : MS := (sSeq (sSet 1 (mBin fAdd (mC (.int 1)) (mCall F_law_take (mCons (mVar 0) (mCons (mC (.int 5)) mNil)))))
  (sSeq (sIf (mTst (mBin fEq (mCall F_law_take (mCons (mVar 0) (mCons (mC (.int 2)) mNil))) (mC (.int 0))))
  (sRet (mTupR (mZero (mVar 1))))
  sNil)
  (sRet (mSl (mCall F_law_order (mCons (mVar 0) (mCons (mC (.int 10)) mNil))) (mPart none) (mPart (some (mVar 1)))))))
def F_law_places : Fn := fn 1 2 false b_law_places
def b_law_fraction : MS := (sSeq (sSet 2 (mCell (mNew2 fRep (mFrz (mLst (mCons (mC (.int 0)) mNil))) (mC (.int 10)))))
  (sSeq (sFor (mRange1 (mCons (mCall F_law_take (mCons (mVar 0) (mCons (mC (.int 4)) mNil))) mNil)) (.one 4) [3, 4, 5, 6]
  (sSeq (sSet 3 (mBin fIdx (mVar 1) (mCall F_law_take (mCons (mVar 0) (mCons (mCallF fLen (mCons (mVar 1) mNil)) mNil)))))
  (sItem (mBin fAdd (mBin fIdx (mVar 2) (mVar 3)) (mC (.int 1))) (mVar 2) (mVar 3))))
  (sSeq (sFor (mRange1 (mCons (mCall F_law_take (mCons (mVar 0) (mCons (mC (.int 4)) mNil))) mNil)) (.one 4) [3, 4, 5, 6]
  (sSeq (sSet 3 (mBin fIdx (mVar 1) (mCall F_law_take (mCons (mVar 0) (mCons (mCallF fLen (mCons (mVar 1) mNil)) mNil)))))
  (sItem (mBin fSub (mBin fIdx (mVar 2) (mVar 3)) (mC (.int 1))) (mVar 2) (mVar 3))))
  (sSeq (sSet 5 (mCallF fTuple (mCons (mFrz (mComp (mSeq (mVar 2)) [7] (.one 7) mYes (mCallF fMax (mCons (mC (.int 0)) (mCons (mVar 7) mNil))))) mNil)))
  (sSeq (sSet 6 (mCallF fTuple (mCons (mFrz (mComp (mSeq (mVar 2)) [7] (.one 7) mYes (mCallF fMax (mCons (mC (.int 0)) (mCons (mBin fSub (mC (.int 0)) (mVar 7)) mNil))))) mNil)))
  (sRet (mTup (mCons (mCall F_law_product (mCons (mVar 5) mNil)) (mCons (mCall F_law_product (mCons (mVar 6) mNil)) mNil)))))))))
def F_law_fraction : Fn := fn 2 8 false b_law_fraction
def b_law_program : MS := (sRet (mCallF fTuple (mCons (mFrz (mComp (mRange1 (mCons (mBin fAdd (mC (.int 1)) (mCall F_law_take (mCons (mVar 0) (mCons (mVar 2) mNil)))) mNil)) [3] (.one 3) mYes (mCall F_law_fraction (mCons (mVar 0) (mCons (mVar 1) mNil))))) mNil)))
def F_law_program : Fn := fn 3 4 false b_law_program
def b_Ways_first : MS := (sSeq (sFor (mEnum (mCons (mFld 0 "wants" (mVar 0)) mNil)) (.tup [2, 3]) [0, 2, 3]
  (sIf (mTru (mCallF fAll (mCons (mFrz (mComp (mZip (mCons (mVar 1) (mCons (mVar 3) mNil))) [4, 5] (.tup [4, 5]) mYes (mBin fGe (mVar 4) (mVar 5)))) mNil)))
  (sRet (mVar 2))
  sNil))
  (sRet (mC .non)))
def F_Ways_first : Fn := fn 2 6 false b_Ways_first
def b_bottoms_of : MS := (sRet (mFrz (mComp (mSeq (mVar 0)) [1, 2] (.tup [1, 2]) mYes (mCall F_found_powers (mCons (mVar 2) mNil)))))
def F_bottoms_of : Fn := fn 1 3 false b_bottoms_of
def b_tops_of : MS := (sRet (mFrz (mComp (mSeq (mVar 0)) [1, 2] (.tup [1, 2]) mYes (mCall F_found_powers (mCons (mVar 1) mNil)))))
def F_tops_of : Fn := fn 1 3 false b_tops_of
def b_changes_of : MS := (sSeq (sSet 1 (mCell (mLst mNil)))
  (sSeq (sFor (mZip (mCons (mCall F_tops_of (mCons (mVar 0) mNil)) (mCons (mCall F_bottoms_of (mCons (mVar 0) mNil)) mNil))) (.tup [3, 2]) [0, 2, 3]
  (sExp (mMethL fAppend (mVar 1) (mCons (mCallF fTuple (mCons (mFrz (mComp (mZip (mCons (mVar 3) (mCons (mVar 2) mNil))) [4, 5] (.tup [4, 5]) mYes (mBin fSub (mVar 4) (mVar 5)))) mNil)) mNil))))
  (sRet (mVar 1))))
def F_changes_of : Fn := fn 1 6 false b_changes_of
def b_Ways_init : MS := (sSeq (sFld 0 "wants" (mCall F_bottoms_of (mCons (mVar 1) mNil)) (mVar 0))
  (sFld 0 "adds" (mCall F_changes_of (mCons (mVar 1) mNil)) (mVar 0)))
def F_Ways_init : Fn := fn 2 2 true b_Ways_init
def b_first_fit : MS := (sRet (mMeth 0 "first" F_Ways_first (mNew 0 F_Ways_init (mCons (mVar 0) mNil)) (mCons (mVar 1) mNil)))
def F_first_fit : Fn := fn 2 2 false b_first_fit
def b_Ways_gone : MS := (sRet (mCallF fTuple (mCons (mFrz (mComp (mZip (mCons (mVar 1) (mCons (mBin fIdx (mFld 0 "adds" (mVar 0)) (mVar 2)) mNil))) [4, 5] (.tup [4, 5]) mYes (mBin fAdd (mVar 4) (mBin fMul (mVar 3) (mVar 5))))) mNil)))
def F_Ways_gone : Fn := fn 4 6 false b_Ways_gone
def b_after : MS := (sSeq (sSet 3 (mNew 0 F_Ways_init (mCons (mVar 0) mNil)))
  (sSeq (sFor (mRange1 (mCons (mVar 2) mNil)) (.one 4) [0, 2, 4, 5]
  (sSeq (sSet 5 (mMeth 0 "first" F_Ways_first (mVar 3) (mCons (mVar 1) mNil)))
  (sSeq (sIf (mTst (mBin fIs (mVar 5) (mC .non)))
  (sRaiseF 11 "steps" (mVar 4))
  sNil)
  (sSet 1 (mMeth 0 "gone" F_Ways_gone (mVar 3) (mCons (mVar 1) (mCons (mVar 5) (mCons (mC (.int 1)) mNil))))))))
  (sRet (mVar 1))))
def F_after : Fn := fn 3 6 false b_after
def b_step : MS := (sRet (mCall F_after (mCons (mVar 0) (mCons (mVar 1) (mCons (mC (.int 1)) mNil)))))
def F_step : Fn := fn 2 2 false b_step
def b_path : MS := (sSeq (sSet 3 (mNew 0 F_Ways_init (mCons (mVar 0) mNil)))
  (sSeq (sSet 4 (mCell (mLst (mCons (mVar 1) mNil))))
  (sSeq (sSet 5 (mMeth 0 "first" F_Ways_first (mVar 3) (mCons (mVar 1) mNil)))
  (sSeq (sWhile (mAndT (mTst (mBin fLe (mCallF fLen (mCons (mVar 4) mNil)) (mVar 2))) (mTst (mBin fIsNot (mVar 5) (mC .non)))) [0, 1]
  (sSeq (sExp (mMethL fAppend (mVar 4) (mCons (mMeth 0 "gone" F_Ways_gone (mVar 3) (mCons (mBin fIdx (mVar 4) (mUn fNeg (mC (.int 1)))) (mCons (mVar 5) (mCons (mC (.int 1)) mNil)))) mNil)))
  (sSet 5 (mMeth 0 "first" F_Ways_first (mVar 3) (mCons (mBin fIdx (mVar 4) (mUn fNeg (mC (.int 1)))) mNil)))))
  (sRet (mVar 4))))))
def F_path : Fn := fn 3 6 false b_path
def b_first_places : MS := (sSeq (sSet 1 mDict)
  (sSeq (sFor (mEnum (mCons (mVar 0) mNil)) (.tup [2, 3]) [0, 2, 3]
  (sExp (mSetd (mVar 1) (mVar 3) (mVar 2))))
  (sRet (mVar 1))))
def F_first_places : Fn := fn 1 4 true b_first_places
def b_fate : MS := (sSeq (sSet 3 (mCall F_path (mCons (mVar 0) (mCons (mVar 1) (mCons (mVar 2) mNil)))))
  (sSeq (sSet 4 (mCall F_first_places (mCons (mVar 3) mNil)))
  (sSeq (sIf (mTst (mBin fLt (mCallF fLenD (mCons (mVar 4) mNil)) (mCallF fLen (mCons (mVar 3) mNil))))
  (sSeq (sSet 5 (mBin fIdx (mFrz (mComp (mEnum (mCons (mVar 3) mNil)) [6, 7] (.tup [6, 7]) (mTst (mBin fLt (mBin fGetD (mVar 4) (mVar 7)) (mVar 6))) (mVar 6))) (mC (.int 0))))
  (sRet (mTup (mCons (mC (.str "round")) (mCons (mBin fGetD (mVar 4) (mBin fIdx (mVar 3) (mVar 5))) (mCons (mBin fSub (mVar 5) (mBin fGetD (mVar 4) (mBin fIdx (mVar 3) (mVar 5)))) mNil))))))
  sNil)
  (sSeq (sIf (mTst (mBin fIs (mMeth 0 "first" F_Ways_first (mNew 0 F_Ways_init (mCons (mVar 0) mNil)) (mCons (mBin fIdx (mVar 3) (mUn fNeg (mC (.int 1)))) mNil)) (mC .non)))
  (sRet (mTup (mCons (mC (.str "rests")) (mCons (mBin fSub (mCallF fLen (mCons (mVar 3) mNil)) (mC (.int 1))) (mCons (mBin fIdx (mVar 3) (mUn fNeg (mC (.int 1)))) mNil)))))
  sNil)
  (sRet (mTup (mCons (mC (.str "open")) mNil)))))))
def F_fate : Fn := fn 3 8 false b_fate
def b_is_within : MS := (sRet (mCallF fAll (mCons (mFrz (mComp (mZip (mCons (mVar 0) (mCons (mVar 1) mNil))) [2, 3] (.tup [2, 3]) mYes (mBin fLe (mVar 2) (mVar 3)))) mNil)))
def F_is_within : Fn := fn 2 4 false b_is_within
def b_idle : MS := (sSeq (sSet 1 (mFld 0 "wants" (mNew 0 F_Ways_init (mCons (mVar 0) mNil))))
  (sSeq (sSet 2 (mCell (mLst mNil)))
  (sSeq (sFor (mRange1 (mCons (mCallF fLen (mCons (mVar 1) mNil)) mNil)) (.one 3) [0, 3]
  (sIf (mTru (mCallF fAny (mCons (mFrz (mComp (mRange1 (mCons (mVar 3) mNil)) [4] (.one 4) mYes (mCall F_is_within (mCons (mBin fIdx (mVar 1) (mVar 4)) (mCons (mBin fIdx (mVar 1) (mVar 3)) mNil))))) mNil)))
  (sExp (mMethL fAppend (mVar 2) (mCons (mVar 3) mNil)))
  sNil))
  (sRet (mVar 2)))))
def F_idle : Fn := fn 1 5 true b_idle
def b_law_like : MS := (sSeq (sSet 3 (mCall F_law_take (mCons (mVar 0) (mCons (mCallF fLen (mCons (mVar 2) mNil)) mNil))))
  (sSeq (sSet 4 (mCall F_law_take (mCons (mVar 0) (mCons (mBin fAdd (mCallF fLen (mCons (mVar 2) mNil)) (mC (.int 1))) mNil))))
  (sSeq (sSet 5 (mCall F_law_take (mCons (mVar 0) (mCons (mC (.int 6)) mNil))))
  (sSeq (sIf (mAndT (mTst (mBin fEq (mVar 5) (mC (.int 0)))) (mTst (mBin fGt (mCallF fLen (mCons (mVar 2) mNil)) (mC (.int 1)))))
  (sRet (mBin fAdd (mSl (mVar 2) (mPart none) (mPart (some (mVar 3)))) (mSl (mVar 2) (mPart (some (mBin fAdd (mVar 3) (mC (.int 1))))) (mPart none))))
  sNil)
  (sSeq (sIf (mAndT (mTst (mBin fEq (mVar 5) (mC (.int 1)))) (mTst (mBin fLt (mCallF fLen (mCons (mVar 2) mNil)) (mC (.int 16)))))
  (sRet (mBin fAdd (mBin fAdd (mSl (mVar 2) (mPart none) (mPart (some (mVar 4)))) (mTup (mCons (mBin fIdx (mVar 2) (mVar 3)) mNil))) (mSl (mVar 2) (mPart (some (mVar 4))) (mPart none))))
  sNil)
  (sSeq (sIf (mAndT (mTst (mBin fEq (mVar 5) (mC (.int 2)))) (mTst (mBin fLt (mCallF fLen (mCons (mVar 2) mNil)) (mC (.int 16)))))
  (sRet (mBin fAdd (mBin fAdd (mSl (mVar 2) (mPart none) (mPart (some (mVar 4)))) (mTup (mCons (mCall F_law_fraction (mCons (mVar 0) (mCons (mVar 1) mNil))) mNil))) (mSl (mVar 2) (mPart (some (mVar 4))) (mPart none))))
  sNil)
  (sSeq (sIf (mAndT (mTst (mBin fEq (mVar 5) (mC (.int 3)))) (mTst (mBin fGt (mVar 3) (mC (.int 0)))))
  (sRet (mBin fAdd (mBin fAdd (mSl (mVar 2) (mPart none) (mPart (some (mBin fSub (mVar 3) (mC (.int 1)))))) (mTup (mCons (mBin fIdx (mVar 2) (mVar 3)) (mCons (mBin fIdx (mVar 2) (mBin fSub (mVar 3) (mC (.int 1)))) mNil)))) (mSl (mVar 2) (mPart (some (mBin fAdd (mVar 3) (mC (.int 1))))) (mPart none))))
  sNil)
  (sSeq (sIf (mTst (mBin fEq (mVar 5) (mC (.int 4))))
  (sRet (mBin fAdd (mBin fAdd (mSl (mVar 2) (mPart none) (mPart (some (mVar 3)))) (mTup (mCons (mCall F_law_fraction (mCons (mVar 0) (mCons (mVar 1) mNil))) mNil))) (mSl (mVar 2) (mPart (some (mBin fAdd (mVar 3) (mC (.int 1))))) (mPart none))))
  sNil)
  (sRet (mVar 2))))))))))
def F_law_like : Fn := fn 3 6 false b_law_like
def b_done_with : MS := (sSeq (sSet 2 (mMeth 0 "first" F_Ways_first (mVar 0) (mCons (mVar 1) mNil)))
  (sSeq (sIf (mTst (mBin fIs (mVar 2) (mC .non)))
  (sRet (mC .non))
  sNil)
  (sRet (mBin fIdx (mFld 0 "adds" (mVar 0)) (mVar 2)))))
def F_done_with : Fn := fn 2 3 false b_done_with
def b_both_wants : MS := (sRet (mCallF fTuple (mCons (mFrz (mComp (mZip (mCons (mVar 0) (mCons (mVar 1) mNil))) [2, 3] (.tup [2, 3]) mYes (mCallF fMax (mCons (mVar 2) (mCons (mVar 3) mNil))))) mNil)))
def F_both_wants : Fn := fn 2 4 false b_both_wants
def b_unlike_at : MS := (sSeq (sSet 2 (mNew 0 F_Ways_init (mCons (mVar 0) mNil)))
  (sSeq (sSet 3 (mNew 0 F_Ways_init (mCons (mVar 1) mNil)))
  (sSeq (sSet 4 (mCell (mNew2 fCat (mFrz (mNewA fList (mCons (mFld 0 "wants" (mVar 2)) mNil))) (mFrz (mNewA fList (mCons (mFld 0 "wants" (mVar 3)) mNil))))))
  (sSeq (sFor (mSeq (mFld 0 "wants" (mVar 2))) (.one 5) [0, 1, 5, 6]
  (sExp (mMethL fExtend (mVar 4) (mCons (mFrz (mComp (mSeq (mFld 0 "wants" (mVar 3))) [7] (.one 7) mYes (mCall F_both_wants (mCons (mVar 5) (mCons (mVar 7) mNil))))) mNil))))
  (sSeq (sFor (mSeq (mVar 4)) (.one 6) [0, 1, 4, 5, 6]
  (sIf (mTst (mBin fNe (mCall F_done_with (mCons (mVar 2) (mCons (mVar 6) mNil))) (mCall F_done_with (mCons (mVar 3) (mCons (mVar 6) mNil)))))
  (sRet (mVar 6))
  sNil))
  (sRet (mC .non)))))))
def F_unlike_at : Fn := fn 2 8 false b_unlike_at
def b_idle_v2 : MS := (sSeq (sSet 1 (mFld 0 "wants" (mNew 0 F_Ways_init (mCons (mVar 0) mNil))))
  (sSeq (sSet 2 (mCell (mLst mNil)))
  (sSeq (sFor (mRange1 (mCons (mCallF fLen (mCons (mVar 1) mNil)) mNil)) (.one 3) [0, 3]
  (sIf (mTru (mCallF fAny (mCons (mFrz (mComp (mRange1 (mCons (mVar 3) mNil)) [4] (.one 4) mYes (mCall F_is_within (mCons (mBin fIdx (mVar 1) (mVar 4)) (mCons (mBin fIdx (mVar 1) (mVar 3)) mNil))))) mNil)))
  (sExp (mMethL fAppend (mVar 2) (mCons (mVar 3) mNil)))
  sNil))
  (sRet (mVar 2)))))
def F_idle_v2 : Fn := fn 1 5 false b_idle_v2
def b_without_idle_v2 : MS := (sSeq (sSet 1 (mCall F_idle_v2 (mCons (mVar 0) mNil)))
  (sRet (mCallF fTuple (mCons (mFrz (mComp (mEnum (mCons (mVar 0) mNil)) [2, 3] (.tup [2, 3]) (mTst (mBin fNotIn (mVar 2) (mVar 1))) (mVar 3))) mNil))))
def F_without_idle_v2 : Fn := fn 1 4 false b_without_idle_v2
def b_law_step_told : MS := (sSeq (sIf (mTst (mBin fIs (mCall F_first_fit (mCons (mVar 0) (mCons (mVar 1) mNil))) (mC .non)))
  (sRet (mC .non))
  sNil)
  (sRet (mCall F_step (mCons (mVar 0) (mCons (mVar 1) mNil)))))
def F_law_step_told : Fn := fn 2 2 false b_law_step_told
def b_law_go_alike : MS := (sSeq (sIf (mTst (mBin fNe (mCall F_fate (mCons (mVar 0) (mCons (mVar 2) (mCons (mC (.int 100)) mNil)))) (mCall F_fate (mCons (mVar 1) (mCons (mVar 2) (mCons (mC (.int 100)) mNil))))))
  (sRet (mC (.bl false)))
  sNil)
  (sSeq (sFor (mRange1 (mCons (mC (.int 60)) mNil)) (.one 4) [3, 4]
  (sSeq (sSet 3 (mCall F_law_step_told (mCons (mVar 0) (mCons (mVar 2) mNil))))
  (sSeq (sIf (mTst (mBin fNe (mVar 3) (mCall F_law_step_told (mCons (mVar 1) (mCons (mVar 2) mNil)))))
  (sRet (mC (.bl false)))
  sNil)
  (sSeq (sIf (mTst (mBin fIs (mVar 3) (mC .non)))
  (sRet (mC (.bl true)))
  sNil)
  (sSet 2 (mVar 3))))))
  (sRet (mC (.bl true)))))
def F_law_go_alike : Fn := fn 3 5 false b_law_go_alike
def b_law_k83 : MS := (sSeq (sFor (mRange1 (mCons (mCallF fMax (mCons (mC (.int 1)) (mCons (mCallF fMin (mCons (mCallF fLen (mCons (mVar 0) mNil)) (mCons (mC (.int 6)) mNil))) mNil))) mNil)) (.one 3) [1, 2, 3, 4, 5, 6, 7, 8, 9]
  (sSeq (sSet 8 (mCall F_law_pot (mCons (mCall F_law_cell_at (mCons (mVar 0) (mCons (mVar 3) mNil))) mNil)))
  (sSeq (sSet 7 (mCall F_law_places (mCons (mVar 8) mNil)))
  (sSeq (sSet 5 (mCall F_law_program (mCons (mVar 8) (mCons (mVar 7) (mCons (mC (.int 8)) mNil)))))
  (sSeq (sSet 6 (mCall F_law_like (mCons (mVar 8) (mCons (mVar 7) (mCons (mVar 5) mNil)))))
  (sSeq (sSet 9 (mCall F_law_like (mCons (mVar 8) (mCons (mVar 7) (mCons (mVar 6) mNil)))))
  (sSeq (sSet 4 (mCall F_law_line (mCons (mVar 8) (mCons (mVar 7) (mCons (mC (.int 6)) mNil)))))
  (sSeq (sSet 2 (mCall F_unlike_at (mCons (mVar 5) (mCons (mVar 6) mNil))))
  (sSeq (sIf (mTst (mBin fNe (mBin fIs (mVar 2) (mC .non)) (mBin fIs (mCall F_unlike_at (mCons (mVar 6) (mCons (mVar 5) mNil))) (mC .non))))
  (sRet (mC (.bl false)))
  sNil)
  (sSeq (sIf (mAndT (mTst (mBin fIs (mVar 2) (mC .non))) (mNotT (mTru (mCall F_law_go_alike (mCons (mVar 5) (mCons (mVar 6) (mCons (mVar 4) mNil)))))))
  (sRet (mC (.bl false)))
  sNil)
  (sSeq (sIf (mAndT (mTst (mBin fIsNot (mVar 2) (mC .non))) (mTst (mBin fEq (mCall F_law_step_told (mCons (mVar 5) (mCons (mVar 2) mNil))) (mCall F_law_step_told (mCons (mVar 6) (mCons (mVar 2) mNil))))))
  (sRet (mC (.bl false)))
  sNil)
  (sSeq (sIf (mAndT (mTst (mBin fIs (mVar 2) (mC .non))) (mAndT (mTst (mBin fIs (mCall F_unlike_at (mCons (mVar 6) (mCons (mVar 9) mNil))) (mC .non))) (mTst (mBin fIsNot (mCall F_unlike_at (mCons (mVar 5) (mCons (mVar 9) mNil))) (mC .non)))))
  (sRet (mC (.bl false)))
  sNil)
  (sSeq (sSet 1 (mCall F_without_idle_v2 (mCons (mVar 5) mNil)))
  (sIf (mOrT (mTst (mBin fNe (mCall F_idle_v2 (mCons (mVar 1) mNil)) (mFrz (mLst mNil)))) (mOrT (mNotT (mTru (mCall F_law_go_alike (mCons (mVar 5) (mCons (mVar 1) (mCons (mVar 4) mNil)))))) (mTst (mBin fNe (mBin fAdd (mCallF fLen (mCons (mVar 1) mNil)) (mCallF fLen (mCons (mCall F_idle_v2 (mCons (mVar 5) mNil)) mNil))) (mCallF fLen (mCons (mVar 5) mNil))))))
  (sRet (mC (.bl false)))
  sNil))))))))))))))
  (sRet (mC (.bl true))))
def F_law_k83 : Fn := fn 1 10 false b_law_k83
end
end Gd
section
set_option maxHeartbeats 4000000
namespace K83
open PySem PySem.Spec PyProof.Rows L2 Sm Gd
def topS (i : Nat) : Stmt := PySem.Challenge.pw_wholefract_k83_whole_alike_ones_go_alike.main.body.getD i (.Pass ⟨0, 0, 0, 0⟩)
def clsS (i j : Nat) : Stmt := match topS i with
  | .ClassDef _ _ _ body _ _ _ _ _ _ _ => body.getD j (.Pass ⟨0, 0, 0, 0⟩)
  | _ => .Pass ⟨0, 0, 0, 0⟩
abbrev s_law_pot : Stmt := topS 28
theorem sc_law_pot : FnScope ["cell", "number", "j", "more"] ["cell"] (defScope s_law_pot) := ⟨rfl, rfl, rfl, by decide +kernel, rfl, by decide +kernel, by decide +kernel⟩
abbrev s_law_take : Stmt := topS 29
theorem sc_law_take : FnScope ["pot", "far", "found"] ["pot", "far"] (defScope s_law_take) := ⟨rfl, rfl, rfl, by decide +kernel, rfl, by decide +kernel, by decide +kernel⟩
abbrev s_law_order : Stmt := topS 30
theorem sc_law_order : FnScope ["pot", "wide", "found", "k"] ["pot", "wide"] (defScope s_law_order) := ⟨rfl, rfl, rfl, by decide +kernel, rfl, by decide +kernel, by decide +kernel⟩
abbrev s_law_places : Stmt := topS 31
theorem sc_law_places : FnScope ["pot", "wide"] ["pot"] (defScope s_law_places) := ⟨rfl, rfl, rfl, by decide +kernel, rfl, by decide +kernel, by decide +kernel⟩
abbrev s_law_primes : Stmt := topS 32
theorem sc_law_primes : FnScope [] [] (defScope s_law_primes) := ⟨rfl, rfl, rfl, by decide +kernel, rfl, by decide +kernel, by decide +kernel⟩
abbrev s_law_product : Stmt := topS 33
theorem sc_law_product : FnScope ["line", "found", "often", "prime", "turn"] ["line"] (defScope s_law_product) := ⟨rfl, rfl, rfl, by decide +kernel, rfl, by decide +kernel, by decide +kernel⟩
abbrev s_law_fraction : Stmt := topS 34
theorem sc_law_fraction : FnScope ["pot", "places", "found", "place", "turn", "top", "bottom", "one"] ["pot", "places"] (defScope s_law_fraction) := ⟨rfl, rfl, rfl, by decide +kernel, rfl, by decide +kernel, by decide +kernel⟩
abbrev s_law_program : Stmt := topS 35
theorem sc_law_program : FnScope ["pot", "places", "most", "k"] ["pot", "places", "most"] (defScope s_law_program) := ⟨rfl, rfl, rfl, by decide +kernel, rfl, by decide +kernel, by decide +kernel⟩
abbrev s_law_like : Stmt := topS 37
theorem sc_law_like : FnScope ["pot", "places", "program", "at", "to", "way"] ["pot", "places", "program"] (defScope s_law_like) := ⟨rfl, rfl, rfl, by decide +kernel, rfl, by decide +kernel, by decide +kernel⟩
abbrev s_law_line : Stmt := topS 36
theorem sc_law_line : FnScope ["pot", "places", "most", "found", "place"] ["pot", "places", "most"] (defScope s_law_line) := ⟨rfl, rfl, rfl, by decide +kernel, rfl, by decide +kernel, by decide +kernel⟩
abbrev s_found_powers : Stmt := topS 6
theorem sc_found_powers : FnScope ["number", "found", "often", "prime"] ["number"] (defScope s_found_powers) := ⟨rfl, rfl, rfl, by decide +kernel, rfl, by decide +kernel, by decide +kernel⟩
abbrev s_bottoms_of : Stmt := topS 8
theorem sc_bottoms_of : FnScope ["program", "top", "bottom"] ["program"] (defScope s_bottoms_of) := ⟨rfl, rfl, rfl, by decide +kernel, rfl, by decide +kernel, by decide +kernel⟩
abbrev s_tops_of : Stmt := topS 7
theorem sc_tops_of : FnScope ["program", "top", "bottom"] ["program"] (defScope s_tops_of) := ⟨rfl, rfl, rfl, by decide +kernel, rfl, by decide +kernel, by decide +kernel⟩
abbrev s_changes_of : Stmt := topS 9
theorem sc_changes_of : FnScope ["program", "found", "bottom", "top", "one", "other"] ["program"] (defScope s_changes_of) := ⟨rfl, rfl, rfl, by decide +kernel, rfl, by decide +kernel, by decide +kernel⟩
abbrev s_Ways_init : Stmt := clsS 11 0
theorem sc_Ways_init : FnScope ["self", "program"] ["self", "program"] (defScope s_Ways_init) := ⟨rfl, rfl, rfl, by decide +kernel, rfl, by decide +kernel, by decide +kernel⟩
abbrev s_Ways_first : Stmt := clsS 11 1
theorem sc_Ways_first : FnScope ["self", "powers", "number", "want", "one", "other"] ["self", "powers"] (defScope s_Ways_first) := ⟨rfl, rfl, rfl, by decide +kernel, rfl, by decide +kernel, by decide +kernel⟩
abbrev s_done_with : Stmt := topS 20
theorem sc_done_with : FnScope ["ways", "powers", "number"] ["ways", "powers"] (defScope s_done_with) := ⟨rfl, rfl, rfl, by decide +kernel, rfl, by decide +kernel, by decide +kernel⟩
abbrev s_both_wants : Stmt := topS 19
theorem sc_both_wants : FnScope ["one", "other", "mine", "own"] ["one", "other"] (defScope s_both_wants) := ⟨rfl, rfl, rfl, by decide +kernel, rfl, by decide +kernel, by decide +kernel⟩
abbrev s_unlike_at : Stmt := topS 21
theorem sc_unlike_at : FnScope ["one", "other", "mine", "theirs", "tried", "want", "powers", "own"] ["one", "other"] (defScope s_unlike_at) := ⟨rfl, rfl, rfl, by decide +kernel, rfl, by decide +kernel, by decide +kernel⟩
abbrev s_is_within : Stmt := topS 16
theorem sc_is_within : FnScope ["one", "other", "mine", "own"] ["one", "other"] (defScope s_is_within) := ⟨rfl, rfl, rfl, by decide +kernel, rfl, by decide +kernel, by decide +kernel⟩
abbrev s_idle : Stmt := topS 17
theorem sc_idle : FnScope ["program", "wants", "found", "number", "earlier"] ["program"] (defScope s_idle) := ⟨rfl, rfl, rfl, by decide +kernel, rfl, by decide +kernel, by decide +kernel⟩
abbrev s_without_idle : Stmt := topS 18
theorem sc_without_idle : FnScope ["program", "some", "number", "fraction"] ["program"] (defScope s_without_idle) := ⟨rfl, rfl, rfl, by decide +kernel, rfl, by decide +kernel, by decide +kernel⟩
abbrev s_law_cell_at : Stmt := topS 27
theorem sc_law_cell_at : FnScope ["script", "k"] ["script", "k"] (defScope s_law_cell_at) := ⟨rfl, rfl, rfl, by decide +kernel, rfl, by decide +kernel, by decide +kernel⟩
abbrev s_Ways_gone : Stmt := clsS 11 2
theorem sc_Ways_gone : FnScope ["self", "powers", "number", "many", "one", "more"] ["self", "powers", "number", "many"] (defScope s_Ways_gone) := ⟨rfl, rfl, rfl, by decide +kernel, rfl, by decide +kernel, by decide +kernel⟩
abbrev s_path : Stmt := topS 23
theorem sc_path : FnScope ["program", "powers", "many", "ways", "found", "number"] ["program", "powers", "many"] (defScope s_path) := ⟨rfl, rfl, rfl, by decide +kernel, rfl, by decide +kernel, by decide +kernel⟩
abbrev s_first_places : Stmt := topS 24
theorem sc_first_places : FnScope ["rows", "found", "place", "row"] ["rows"] (defScope s_first_places) := ⟨rfl, rfl, rfl, by decide +kernel, rfl, by decide +kernel, by decide +kernel⟩
abbrev s_fate : Stmt := topS 25
theorem sc_fate : FnScope ["program", "powers", "most", "rows", "places", "again", "place", "row"] ["program", "powers", "most"] (defScope s_fate) := ⟨rfl, rfl, rfl, by decide +kernel, rfl, by decide +kernel, by decide +kernel⟩
abbrev s_after : Stmt := topS 14
theorem sc_after : FnScope ["program", "powers", "many", "ways", "done", "number"] ["program", "powers", "many"] (defScope s_after) := ⟨rfl, rfl, rfl, by decide +kernel, rfl, by decide +kernel, by decide +kernel⟩
abbrev s_step : Stmt := topS 13
theorem sc_step : FnScope ["program", "powers"] ["program", "powers"] (defScope s_step) := ⟨rfl, rfl, rfl, by decide +kernel, rfl, by decide +kernel, by decide +kernel⟩
abbrev s_first_fit : Stmt := topS 12
theorem sc_first_fit : FnScope ["program", "powers"] ["program", "powers"] (defScope s_first_fit) := ⟨rfl, rfl, rfl, by decide +kernel, rfl, by decide +kernel, by decide +kernel⟩
abbrev s_law_step_told : Stmt := topS 38
theorem sc_law_step_told : FnScope ["program", "line"] ["program", "line"] (defScope s_law_step_told) := ⟨rfl, rfl, rfl, by decide +kernel, rfl, by decide +kernel, by decide +kernel⟩
abbrev s_law_go_alike : Stmt := topS 39
theorem sc_law_go_alike : FnScope ["one", "other", "line", "later", "turn"] ["one", "other", "line"] (defScope s_law_go_alike) := ⟨rfl, rfl, rfl, by decide +kernel, rfl, by decide +kernel, by decide +kernel⟩
abbrev s_law : Stmt := topS 40
theorem sc_law : FnScope ["script", "few", "found", "k", "line", "one", "other", "places", "pot", "third"] ["script"] (defScope s_law) := ⟨rfl, rfl, rfl, by decide +kernel, rfl, by decide +kernel, by decide +kernel⟩
abbrev s_AtRest_init : Stmt := clsS 3 0
theorem sc_AtRest_init : FnScope ["self", "steps"] ["self", "steps"] (defScope s_AtRest_init) := ⟨rfl, rfl, rfl, by decide +kernel, rfl, by decide +kernel, by decide +kernel⟩
section
variable {w : World} {K : PySem.W.Frag} {mg : Str → Option Value} {base : Heap} {cl : Nat → Addr}
abbrev PP : Program := PySem.Challenge.pw_wholefract_k83_whole_alike_ones_go_alike
theorem ok_AtRest_init {fI C B : Addr} {fd : FuncData} (D : FunD K "__init__" "AtRest.__init__" (defArgs s_AtRest_init) (defBody s_AtRest_init) (defScope s_AtRest_init) [] [] fI fd) (G : FldF K mg C B "steps" "FractError" "AtRest") : FnOk PP w K mg base (L2N.CX PP w) 1 fI fd ["self", "steps"] (spRest "steps" C) :=
  q_rest D sc_AtRest_init G fun cdv A outer s H E => pss_cons (ps_expr (pe_binit G rfl (pa_cons (pv 0) (pa_cons pe_str pa_nil)))) (pss_one (ps_ost (pv 0) (pv 1)))
theorem ok_law_pot {f : Addr} {fd : FuncData} (D : FunD K "_law_pot" "_law_pot" (defArgs s_law_pot) (defBody s_law_pot) (defScope s_law_pot) [] [] f fd) (m : mg "_law_pot" = some (.ref f)) (z_range : mg "range" = none) : Cal PP w K mg base cl "_law_pot" 1 ["cell"] F_law_pot 1 :=
  q_fn (k := 0) (sem := b_law_pot) D sc_law_pot rfl rfl m (FunD.bindsN (ps := ["cell"]) D fun _ _ _ _ _ _ us hl => match us, hl with | [_], _ => rfl) fun cdv A outer s H E c =>
  (ks_cons (ks_if (qt_ge (q_var 0) (k_bin o_pow k_int k_int))
  (ks_one (ks_ret (k_cell (kn_lst (ka_cons (k_bin o_sub (q_var 0) (k_bin o_pow k_int k_int)) ka_nil)))))
  ks_nil)
  (ks_cons (q_set c.nd 1 k_int)
  (ks_cons (ks_for c.hp c.calm (ki_range1 rfl z_range (ka_cons k_int ka_nil)) (q_one c.nd 2)
  (ks_cons (q_set c.nd 3 (k_bin o_mod (k_bin o_mul (k_bin o_add (k_bin o_add (k_bin o_mod (q_var 0) k_int) (k_bin o_mul k_int (q_var 2))) k_int) k_int) k_int))
  (ks_cons (q_set c.nd 3 (k_bin o_mod (k_bin o_add (k_bin o_add (k_bin o_mul (q_var 3) (q_var 3)) (k_bin o_mul k_int (q_var 2))) k_int) k_int))
  (ks_one (q_set c.nd 1 (k_bin o_add (k_bin o_mul (q_var 1) k_int) (q_var 3)))))))
  (ks_one (ks_ret (k_cell (kn_lst (ka_cons (q_var 1) ka_nil))))))))
theorem ok_law_take {f : Addr} {fd : FuncData} (D : FunD K "_law_take" "_law_take" (defArgs s_law_take) (defBody s_law_take) (defScope s_law_take) [] [] f fd) (m : mg "_law_take" = some (.ref f)) : Cal PP w K mg base cl "_law_take" 1 ["pot", "far"] F_law_take 2 :=
  q_fn (k := 0) (sem := b_law_take) D sc_law_take rfl rfl m (FunD.bindsN (ps := ["pot", "far"]) D fun _ _ _ _ _ _ us hl => match us, hl with | [_, _], _ => rfl) fun cdv A outer s H E c =>
  (ks_cons (q_set c.nd 2 (k_bin o_mod (q_idx (q_var 0) k_int) (q_var 1)))
  (ks_cons (ks_item (k_bin o_fdiv (q_idx (q_var 0) k_int) (q_var 1)) (q_var 0) k_int)
  (ks_one (ks_ret (q_var 2)))))
theorem ok_law_order {f : Addr} {fd : FuncData} (D : FunD K "_law_order" "_law_order" (defArgs s_law_order) (defBody s_law_order) (defScope s_law_order) [] [] f fd) (m : mg "_law_order" = some (.ref f)) (g_law_take : Cal PP w K mg base cl "_law_take" 1 ["pot", "far"] F_law_take 2) (z_range : mg "range" = none) (z_tuple : mg "tuple" = none) : Cal PP w K mg base cl "_law_order" 2 ["pot", "wide"] F_law_order 2 :=
  q_fn (k := 1) (sem := b_law_order) D sc_law_order rfl rfl m (FunD.bindsN (ps := ["pot", "wide"]) D fun _ _ _ _ _ _ us hl => match us, hl with | [_, _], _ => rfl) fun cdv A outer s H E c =>
  (ks_cons (q_set c.nd 2 (k_cell (kn_lst ka_nil)))
  (ks_cons (ks_for c.hp c.calm (ki_range1 rfl z_range (ka_cons (q_var 1) ka_nil)) (q_one c.nd 3)
  (ks_one (ks_expr (k_methL PySem.F.slot_list_insert PySem.F.type_list_insert m_insert (q_var 2) (ka_cons (q_call c g_law_take (by decide) rfl (ka_cons (q_var 0) (ka_cons (k_bin o_add (q_var 3) k_int) ka_nil))) (ka_cons (q_var 3) ka_nil))))))
  (ks_one (ks_ret (q_tuple z_tuple (ka_cons (q_var 2) ka_nil))))))
theorem ok_law_places {f : Addr} {fd : FuncData} (D : FunD K "_law_places" "_law_places" (defArgs s_law_places) (defBody s_law_places) (defScope s_law_places) [] [] f fd) (m : mg "_law_places" = some (.ref f)) (g_law_take : Cal PP w K mg base cl "_law_take" 1 ["pot", "far"] F_law_take 2) (g_law_order : Cal PP w K mg base cl "_law_order" 2 ["pot", "wide"] F_law_order 2) (z_range : mg "range" = none) (z_tuple : mg "tuple" = none) : Cal PP w K mg base cl "_law_places" 3 ["pot"] F_law_places 1 :=
  q_fn (k := 2) (sem := b_law_places) D sc_law_places rfl rfl m (FunD.bindsN (ps := ["pot"]) D fun _ _ _ _ _ _ us hl => match us, hl with | [_], _ => rfl) fun cdv A outer s H E c =>
  (ks_cons (q_set c.nd 1 (k_bin o_add k_int (q_call c g_law_take (by decide) rfl (ka_cons (q_var 0) (ka_cons k_int ka_nil)))))
  (ks_cons (ks_if (qt_eq c.hu (q_call c g_law_take (by decide) rfl (ka_cons (q_var 0) (ka_cons k_int ka_nil))) k_int)
  (ks_one (ks_ret (k_tupR c.calm z_tuple (kr_1 rfl z_range (q_var 1)))))
  ks_nil)
  (ks_one (ks_ret (k_slice (q_call c g_law_order (by decide) rfl (ka_cons (q_var 0) (ka_cons k_int ka_nil))) ko_none (ko_some (q_var 1)))))))
theorem ok_law_primes {f : Addr} {fd : FuncData} (D : FunD K "_law_primes" "_law_primes" (defArgs s_law_primes) (defBody s_law_primes) (defScope s_law_primes) [] [] f fd) (m : mg "_law_primes" = some (.ref f)) : Cal PP w K mg base cl "_law_primes" 1 [] F_law_primes 0 :=
  q_fn (k := 0) (sem := b_law_primes) D sc_law_primes rfl rfl m (FunD.bindsN (ps := []) D fun _ _ _ _ _ _ us hl => match us, hl with | [], _ => rfl) fun cdv A outer s H E c =>
  (ks_one (ks_ret (k_tup (ka_cons k_int (ka_cons k_int (ka_cons k_int (ka_cons k_int (ka_cons k_int (ka_cons k_int (ka_cons k_int (ka_cons k_int (ka_cons k_int (ka_cons k_int ka_nil)))))))))))))
theorem ok_law_product {f : Addr} {fd : FuncData} (D : FunD K "_law_product" "_law_product" (defArgs s_law_product) (defBody s_law_product) (defScope s_law_product) [] [] f fd) (m : mg "_law_product" = some (.ref f)) (g_law_primes : Cal PP w K mg base cl "_law_primes" 1 [] F_law_primes 0) (z_range : mg "range" = none) (z_zip : mg "zip" = none) : Cal PP w K mg base cl "_law_product" 2 ["line"] F_law_product 1 :=
  q_fn (k := 1) (sem := b_law_product) D sc_law_product rfl rfl m (FunD.bindsN (ps := ["line"]) D fun _ _ _ _ _ _ us hl => match us, hl with | [_], _ => rfl) fun cdv A outer s H E c =>
  (ks_cons (q_set c.nd 1 k_int)
  (ks_cons (ks_for c.hp c.calm (ki_zip rfl z_zip (ka_cons (q_call0 c g_law_primes (by decide) rfl) (ka_cons (q_var 0) ka_nil))) (kg_tup c.calm (q_gcons c.nd 3 (q_gcons c.nd 2 kgs_nil)))
  (ks_one (ks_for c.hp c.calm (ki_range1 rfl z_range (ka_cons (q_var 2) ka_nil)) (q_one c.nd 4)
  (ks_one (q_set c.nd 1 (k_bin o_mul (q_var 1) (q_var 3)))))))
  (ks_one (ks_ret (q_var 1)))))
theorem ok_law_fraction {f : Addr} {fd : FuncData} (D : FunD K "_law_fraction" "_law_fraction" (defArgs s_law_fraction) (defBody s_law_fraction) (defScope s_law_fraction) [] [] f fd) (m : mg "_law_fraction" = some (.ref f)) (g_law_take : Cal PP w K mg base cl "_law_take" 1 ["pot", "far"] F_law_take 2) (g_law_product : Cal PP w K mg base cl "_law_product" 2 ["line"] F_law_product 1) (z_len : mg "len" = none) (z_max : mg "max" = none) (z_range : mg "range" = none) (z_tuple : mg "tuple" = none) : Cal PP w K mg base cl "_law_fraction" 3 ["pot", "places"] F_law_fraction 2 :=
  q_fn (k := 2) (sem := b_law_fraction) D sc_law_fraction rfl rfl m (FunD.bindsN (ps := ["pot", "places"]) D fun _ _ _ _ _ _ us hl => match us, hl with | [_, _], _ => rfl) fun cdv A outer s H E c =>
  (ks_cons (q_set c.nd 2 (k_cell (kn_bin n_rep (k_frz (kn_lst (ka_cons k_int ka_nil))) k_int)))
  (ks_cons (ks_for c.hp c.calm (ki_range1 rfl z_range (ka_cons (q_call c g_law_take (by decide) rfl (ka_cons (q_var 0) (ka_cons k_int ka_nil))) ka_nil)) (q_one c.nd 4)
  (ks_cons (q_set c.nd 3 (q_idx (q_var 1) (q_call c g_law_take (by decide) rfl (ka_cons (q_var 0) (ka_cons (q_len z_len (ka_cons (q_var 1) ka_nil)) ka_nil)))))
  (ks_one (ks_item (k_bin o_add (q_idx (q_var 2) (q_var 3)) k_int) (q_var 2) (q_var 3)))))
  (ks_cons (ks_for c.hp c.calm (ki_range1 rfl z_range (ka_cons (q_call c g_law_take (by decide) rfl (ka_cons (q_var 0) (ka_cons k_int ka_nil))) ka_nil)) (q_one c.nd 4)
  (ks_cons (q_set c.nd 3 (q_idx (q_var 1) (q_call c g_law_take (by decide) rfl (ka_cons (q_var 0) (ka_cons (q_len z_len (ka_cons (q_var 1) ka_nil)) ka_nil)))))
  (ks_one (ks_item (k_bin o_sub (q_idx (q_var 2) (q_var 3)) k_int) (q_var 2) (q_var 3)))))
  (ks_cons (q_set c.nd 5 (q_tuple z_tuple (ka_cons (k_frz (kn_comp c.calm c.nd (ki_seq (q_var 2)) (blkOk_by (own := [("one", 7)]) (by rfl)) (by decide) (fun s1 H1 C1 l1 fp1 => (q_one (c.blk s1 H1 _ _ fp1).nd 7)) (fun s1 H1 C1 l1 fp1 => kts_nil) (fun s1 H1 C1 l1 fp1 => (q_max (c.blk s1 H1 _ _ fp1) z_max (ka_cons k_int (ka_cons (q_var 7) ka_nil)))))) ka_nil)))
  (ks_cons (q_set c.nd 6 (q_tuple z_tuple (ka_cons (k_frz (kn_comp c.calm c.nd (ki_seq (q_var 2)) (blkOk_by (own := [("one", 7)]) (by rfl)) (by decide) (fun s2 H2 C2 l2 fp2 => (q_one (c.blk s2 H2 _ _ fp2).nd 7)) (fun s2 H2 C2 l2 fp2 => kts_nil) (fun s2 H2 C2 l2 fp2 => (q_max (c.blk s2 H2 _ _ fp2) z_max (ka_cons k_int (ka_cons (k_bin o_sub k_int (q_var 7)) ka_nil)))))) ka_nil)))
  (ks_one (ks_ret (k_tup (ka_cons (q_call c g_law_product (by decide) rfl (ka_cons (q_var 5) ka_nil)) (ka_cons (q_call c g_law_product (by decide) rfl (ka_cons (q_var 6) ka_nil)) ka_nil))))))))))
theorem ok_law_program {f : Addr} {fd : FuncData} (D : FunD K "_law_program" "_law_program" (defArgs s_law_program) (defBody s_law_program) (defScope s_law_program) [] [] f fd) (m : mg "_law_program" = some (.ref f)) (g_law_fraction : Cal PP w K mg base cl "_law_fraction" 3 ["pot", "places"] F_law_fraction 2) (g_law_take : Cal PP w K mg base cl "_law_take" 1 ["pot", "far"] F_law_take 2) (z_range : mg "range" = none) (z_tuple : mg "tuple" = none) : Cal PP w K mg base cl "_law_program" 4 ["pot", "places", "most"] F_law_program 3 :=
  q_fn (k := 3) (sem := b_law_program) D sc_law_program rfl rfl m (FunD.bindsN (ps := ["pot", "places", "most"]) D fun _ _ _ _ _ _ us hl => match us, hl with | [_, _, _], _ => rfl) fun cdv A outer s H E c =>
  (ks_one (ks_ret (q_tuple z_tuple (ka_cons (k_frz (kn_comp c.calm c.nd (ki_range1 rfl z_range (ka_cons (k_bin o_add k_int (q_call c g_law_take (by decide) rfl (ka_cons (q_var 0) (ka_cons (q_var 2) ka_nil)))) ka_nil)) (blkOk_by (own := [("k", 3)]) (by rfl)) (by decide) (fun s3 H3 C3 l3 fp3 => (q_one (c.blk s3 H3 _ _ fp3).nd 3)) (fun s3 H3 C3 l3 fp3 => kts_nil) (fun s3 H3 C3 l3 fp3 => (q_call (c.blk s3 H3 _ _ fp3) g_law_fraction (by decide) rfl (ka_cons (q_var 0) (ka_cons (q_var 1) ka_nil)))))) ka_nil))))
theorem ok_law_like {f : Addr} {fd : FuncData} (D : FunD K "_law_like" "_law_like" (defArgs s_law_like) (defBody s_law_like) (defScope s_law_like) [] [] f fd) (m : mg "_law_like" = some (.ref f)) (g_law_take : Cal PP w K mg base cl "_law_take" 1 ["pot", "far"] F_law_take 2) (g_law_fraction : Cal PP w K mg base cl "_law_fraction" 3 ["pot", "places"] F_law_fraction 2) (z_len : mg "len" = none) : Cal PP w K mg base cl "_law_like" 4 ["pot", "places", "program"] F_law_like 3 :=
  q_fn (k := 3) (sem := b_law_like) D sc_law_like rfl rfl m (FunD.bindsN (ps := ["pot", "places", "program"]) D fun _ _ _ _ _ _ us hl => match us, hl with | [_, _, _], _ => rfl) fun cdv A outer s H E c =>
  (ks_cons (q_set c.nd 3 (q_call c g_law_take (by decide) rfl (ka_cons (q_var 0) (ka_cons (q_len z_len (ka_cons (q_var 2) ka_nil)) ka_nil))))
  (ks_cons (q_set c.nd 4 (q_call c g_law_take (by decide) rfl (ka_cons (q_var 0) (ka_cons (k_bin o_add (q_len z_len (ka_cons (q_var 2) ka_nil)) k_int) ka_nil))))
  (ks_cons (q_set c.nd 5 (q_call c g_law_take (by decide) rfl (ka_cons (q_var 0) (ka_cons k_int ka_nil))))
  (ks_cons (ks_if (kt_bool (kw_and (qt_eq c.hu (q_var 5) k_int) (kw_and1 (qt_gt (q_len z_len (ka_cons (q_var 2) ka_nil)) k_int))))
  (ks_one (ks_ret (k_bin o_add (k_slice (q_var 2) ko_none (ko_some (q_var 3))) (k_slice (q_var 2) (ko_some (k_bin o_add (q_var 3) k_int)) ko_none))))
  ks_nil)
  (ks_cons (ks_if (kt_bool (kw_and (qt_eq c.hu (q_var 5) k_int) (kw_and1 (qt_lt c.hu0 (q_len z_len (ka_cons (q_var 2) ka_nil)) k_int))))
  (ks_one (ks_ret (k_bin o_add (k_bin o_add (k_slice (q_var 2) ko_none (ko_some (q_var 4))) (k_tup (ka_cons (q_idx (q_var 2) (q_var 3)) ka_nil))) (k_slice (q_var 2) (ko_some (q_var 4)) ko_none))))
  ks_nil)
  (ks_cons (ks_if (kt_bool (kw_and (qt_eq c.hu (q_var 5) k_int) (kw_and1 (qt_lt c.hu0 (q_len z_len (ka_cons (q_var 2) ka_nil)) k_int))))
  (ks_one (ks_ret (k_bin o_add (k_bin o_add (k_slice (q_var 2) ko_none (ko_some (q_var 4))) (k_tup (ka_cons (q_call c g_law_fraction (by decide) rfl (ka_cons (q_var 0) (ka_cons (q_var 1) ka_nil))) ka_nil))) (k_slice (q_var 2) (ko_some (q_var 4)) ko_none))))
  ks_nil)
  (ks_cons (ks_if (kt_bool (kw_and (qt_eq c.hu (q_var 5) k_int) (kw_and1 (qt_gt (q_var 3) k_int))))
  (ks_one (ks_ret (k_bin o_add (k_bin o_add (k_slice (q_var 2) ko_none (ko_some (k_bin o_sub (q_var 3) k_int))) (k_tup (ka_cons (q_idx (q_var 2) (q_var 3)) (ka_cons (q_idx (q_var 2) (k_bin o_sub (q_var 3) k_int)) ka_nil)))) (k_slice (q_var 2) (ko_some (k_bin o_add (q_var 3) k_int)) ko_none))))
  ks_nil)
  (ks_cons (ks_if (qt_eq c.hu (q_var 5) k_int)
  (ks_one (ks_ret (k_bin o_add (k_bin o_add (k_slice (q_var 2) ko_none (ko_some (q_var 3))) (k_tup (ka_cons (q_call c g_law_fraction (by decide) rfl (ka_cons (q_var 0) (ka_cons (q_var 1) ka_nil))) ka_nil))) (k_slice (q_var 2) (ko_some (k_bin o_add (q_var 3) k_int)) ko_none))))
  ks_nil)
  (ks_one (ks_ret (q_var 2)))))))))))
theorem ok_law_line {f : Addr} {fd : FuncData} (D : FunD K "_law_line" "_law_line" (defArgs s_law_line) (defBody s_law_line) (defScope s_law_line) [] [] f fd) (m : mg "_law_line" = some (.ref f)) (g_law_take : Cal PP w K mg base cl "_law_take" 1 ["pot", "far"] F_law_take 2) (z_tuple : mg "tuple" = none) : Cal PP w K mg base cl "_law_line" 2 ["pot", "places", "most"] F_law_line 3 :=
  q_fn (k := 1) (sem := b_law_line) D sc_law_line rfl rfl m (FunD.bindsN (ps := ["pot", "places", "most"]) D fun _ _ _ _ _ _ us hl => match us, hl with | [_, _, _], _ => rfl) fun cdv A outer s H E c =>
  (ks_cons (q_set c.nd 3 (k_cell (kn_bin n_rep (k_frz (kn_lst (ka_cons k_int ka_nil))) k_int)))
  (ks_cons (ks_for c.hp c.calm (ki_seq (q_var 1)) (q_one c.nd 4)
  (ks_one (ks_item (q_call c g_law_take (by decide) rfl (ka_cons (q_var 0) (ka_cons (k_bin o_add (q_var 2) k_int) ka_nil))) (q_var 3) (q_var 4))))
  (ks_cons (ks_if (qt_eq c.hu (q_call c g_law_take (by decide) rfl (ka_cons (q_var 0) (ka_cons k_int ka_nil))) k_int)
  (ks_one (ks_item (q_call c g_law_take (by decide) rfl (ka_cons (q_var 0) (ka_cons (k_bin o_add (q_var 2) k_int) ka_nil))) (q_var 3) (q_call c g_law_take (by decide) rfl (ka_cons (q_var 0) (ka_cons k_int ka_nil)))))
  ks_nil)
  (ks_one (ks_ret (q_tuple z_tuple (ka_cons (q_var 3) ka_nil)))))))
theorem ok_found_powers {f : Addr} {fd : FuncData} (D : FunD K "found_powers" "found_powers" (defArgs s_found_powers) (defBody s_found_powers) (defScope s_found_powers) [] [] f fd) (m : mg "found_powers" = some (.ref f)) (z_tuple : mg "tuple" = none) (h_PRIMES : Con K mg "PRIMES" t_PRIMES) : Cal PP w K mg base cl "found_powers" 1 ["number"] F_found_powers 1 :=
  q_fn (k := 0) (sem := b_found_powers) D sc_found_powers rfl rfl m (FunD.bindsN (ps := ["number"]) D fun _ _ _ _ _ _ us hl => match us, hl with | [_], _ => rfl) fun cdv A outer s H E c =>
  (ks_cons (q_set c.nd 1 (k_cell (kn_lst ka_nil)))
  (ks_cons (ks_for c.hp c.calm (ki_seq (q_con h_PRIMES)) (q_one c.nd 3)
  (ks_cons (q_set c.nd 2 k_int)
  (ks_cons (ks_while c.hp (qt_eq c.hu (k_bin o_mod (q_var 0) (q_var 3)) k_int)
  (ks_cons (q_set c.nd 0 (k_bin o_fdiv (q_var 0) (q_var 3)))
  (ks_one (q_set c.nd 2 (k_bin o_add (q_var 2) k_int)))))
  (ks_one (ks_expr (k_methL PySem.F.slot_list_append PySem.F.type_list_append m_append (q_var 1) (ka_cons (q_var 2) ka_nil)))))))
  (ks_cons (ks_if (qt_ne c.hu (q_var 0) k_int)
  (ks_one (ks_ret k_non))
  ks_nil)
  (ks_one (ks_ret (q_tuple z_tuple (ka_cons (q_var 1) ka_nil)))))))
theorem ok_bottoms_of {f : Addr} {fd : FuncData} (D : FunD K "bottoms_of" "bottoms_of" (defArgs s_bottoms_of) (defBody s_bottoms_of) (defScope s_bottoms_of) [] [] f fd) (m : mg "bottoms_of" = some (.ref f)) (g_found_powers : Cal PP w K mg base cl "found_powers" 1 ["number"] F_found_powers 1) : Cal PP w K mg base cl "bottoms_of" 2 ["program"] F_bottoms_of 1 :=
  q_fn (k := 1) (sem := b_bottoms_of) D sc_bottoms_of rfl rfl m (FunD.bindsN (ps := ["program"]) D fun _ _ _ _ _ _ us hl => match us, hl with | [_], _ => rfl) fun cdv A outer s H E c =>
  (ks_one (ks_ret (k_frz (kn_comp c.calm c.nd (ki_seq (q_var 0)) (blkOk_by (own := [("top", 1), ("bottom", 2)]) (by rfl)) (by decide) (fun s4 H4 C4 l4 fp4 => (kg_tup (c.blk s4 H4 _ _ fp4).calm (q_gcons (c.blk s4 H4 _ _ fp4).nd 1 (q_gcons (c.blk s4 H4 _ _ fp4).nd 2 kgs_nil)))) (fun s4 H4 C4 l4 fp4 => kts_nil) (fun s4 H4 C4 l4 fp4 => (q_call (c.blk s4 H4 _ _ fp4) g_found_powers (by decide) rfl (ka_cons (q_var 2) ka_nil)))))))
theorem ok_tops_of {f : Addr} {fd : FuncData} (D : FunD K "tops_of" "tops_of" (defArgs s_tops_of) (defBody s_tops_of) (defScope s_tops_of) [] [] f fd) (m : mg "tops_of" = some (.ref f)) (g_found_powers : Cal PP w K mg base cl "found_powers" 1 ["number"] F_found_powers 1) : Cal PP w K mg base cl "tops_of" 2 ["program"] F_tops_of 1 :=
  q_fn (k := 1) (sem := b_tops_of) D sc_tops_of rfl rfl m (FunD.bindsN (ps := ["program"]) D fun _ _ _ _ _ _ us hl => match us, hl with | [_], _ => rfl) fun cdv A outer s H E c =>
  (ks_one (ks_ret (k_frz (kn_comp c.calm c.nd (ki_seq (q_var 0)) (blkOk_by (own := [("top", 1), ("bottom", 2)]) (by rfl)) (by decide) (fun s5 H5 C5 l5 fp5 => (kg_tup (c.blk s5 H5 _ _ fp5).calm (q_gcons (c.blk s5 H5 _ _ fp5).nd 1 (q_gcons (c.blk s5 H5 _ _ fp5).nd 2 kgs_nil)))) (fun s5 H5 C5 l5 fp5 => kts_nil) (fun s5 H5 C5 l5 fp5 => (q_call (c.blk s5 H5 _ _ fp5) g_found_powers (by decide) rfl (ka_cons (q_var 1) ka_nil)))))))
theorem ok_changes_of {f : Addr} {fd : FuncData} (D : FunD K "changes_of" "changes_of" (defArgs s_changes_of) (defBody s_changes_of) (defScope s_changes_of) [] [] f fd) (m : mg "changes_of" = some (.ref f)) (g_tops_of : Cal PP w K mg base cl "tops_of" 2 ["program"] F_tops_of 1) (g_bottoms_of : Cal PP w K mg base cl "bottoms_of" 2 ["program"] F_bottoms_of 1) (z_tuple : mg "tuple" = none) (z_zip : mg "zip" = none) : Cal PP w K mg base cl "changes_of" 3 ["program"] F_changes_of 1 :=
  q_fn (k := 2) (sem := b_changes_of) D sc_changes_of rfl rfl m (FunD.bindsN (ps := ["program"]) D fun _ _ _ _ _ _ us hl => match us, hl with | [_], _ => rfl) fun cdv A outer s H E c =>
  (ks_cons (q_set c.nd 1 (k_cell (kn_lst ka_nil)))
  (ks_cons (ks_for c.hp c.calm (ki_zip rfl z_zip (ka_cons (q_call c g_tops_of (by decide) rfl (ka_cons (q_var 0) ka_nil)) (ka_cons (q_call c g_bottoms_of (by decide) rfl (ka_cons (q_var 0) ka_nil)) ka_nil))) (kg_tup c.calm (q_gcons c.nd 3 (q_gcons c.nd 2 kgs_nil)))
  (ks_one (ks_expr (k_methL PySem.F.slot_list_append PySem.F.type_list_append m_append (q_var 1) (ka_cons (q_tuple z_tuple (ka_cons (k_frz (kn_comp c.calm c.nd (ki_zip rfl z_zip (ka_cons (q_var 3) (ka_cons (q_var 2) ka_nil))) (blkOk_by (own := [("one", 4), ("other", 5)]) (by rfl)) (by decide) (fun s6 H6 C6 l6 fp6 => (kg_tup (c.blk s6 H6 _ _ fp6).calm (q_gcons (c.blk s6 H6 _ _ fp6).nd 4 (q_gcons (c.blk s6 H6 _ _ fp6).nd 5 kgs_nil)))) (fun s6 H6 C6 l6 fp6 => kts_nil) (fun s6 H6 C6 l6 fp6 => (k_bin o_sub (q_var 4) (q_var 5))))) ka_nil)) ka_nil)))))
  (ks_one (ks_ret (q_var 1)))))
theorem ok_Ways_init {f : Addr} {fd : FuncData} (D : FunD K "__init__" "Ways.__init__" (defArgs s_Ways_init) (defBody s_Ways_init) (defScope s_Ways_init) [] [] f fd) (m : Mk K (cl 0) f) (mm : mg "Ways" = some (.ref (cl 0))) (g_bottoms_of : Cal PP w K mg base cl "bottoms_of" 2 ["program"] F_bottoms_of 1) (g_changes_of : Cal PP w K mg base cl "changes_of" 3 ["program"] F_changes_of 1) (c_Ways : Cls K (cl 0)) (n_Ways_wants : NoAttr K (cl 0) "wants") (n_Ways_adds : NoAttr K (cl 0) "adds") : CalI PP w K mg base cl 0 "Ways" 4 ["self", "program"] F_Ways_init 2 :=
  q_fnI (k := 3) (sem := b_Ways_init) D sc_Ways_init rfl rfl m mm (FunD.bindsN (ps := ["self", "program"]) D fun _ _ _ _ _ _ us hl => match us, hl with | [_, _], _ => rfl) fun cdv A outer s H E c =>
  (ks_cons (ks_fld 0 "wants" c_Ways n_Ways_wants (q_call c g_bottoms_of (by decide) rfl (ka_cons (q_var 1) ka_nil)) (q_var 0))
  (ks_one (ks_fld 0 "adds" c_Ways n_Ways_adds (q_call c g_changes_of (by decide) rfl (ka_cons (q_var 1) ka_nil)) (q_var 0))))
theorem ok_Ways_first {f : Addr} {fd : FuncData} (D : FunD K "first" "Ways.first" (defArgs s_Ways_first) (defBody s_Ways_first) (defScope s_Ways_first) [] [] f fd) (m : Meth K (cl 0) "first" f) (mm : Cls K (cl 0)) (c_Ways : Cls K (cl 0)) (n_Ways_wants : NoAttr K (cl 0) "wants") (z_all : mg "all" = none) (z_enumerate : mg "enumerate" = none) (z_zip : mg "zip" = none) : CalM PP w K mg base cl 0 "first" 1 ["self", "powers"] F_Ways_first 2 :=
  q_fnM (k := 0) (sem := b_Ways_first) D sc_Ways_first rfl rfl m mm (FunD.bindsN (ps := ["self", "powers"]) D fun _ _ _ _ _ _ us hl => match us, hl with | [_, _], _ => rfl) fun cdv A outer s H E c =>
  (ks_cons (ks_for c.hp c.calm (ki_enum rfl z_enumerate (ka_cons (k_fld 0 "wants" c_Ways n_Ways_wants (q_var 0)) ka_nil)) (kg_tup c.calm (q_gcons c.nd 2 (q_gcons c.nd 3 kgs_nil)))
  (ks_one (ks_if (kt_tru (q_all c z_all (ka_cons (k_frz (kn_comp c.calm c.nd (ki_zip rfl z_zip (ka_cons (q_var 1) (ka_cons (q_var 3) ka_nil))) (blkOk_by (own := [("one", 4), ("other", 5)]) (by rfl)) (by decide) (fun s7 H7 C7 l7 fp7 => (kg_tup (c.blk s7 H7 _ _ fp7).calm (q_gcons (c.blk s7 H7 _ _ fp7).nd 4 (q_gcons (c.blk s7 H7 _ _ fp7).nd 5 kgs_nil)))) (fun s7 H7 C7 l7 fp7 => kts_nil) (fun s7 H7 C7 l7 fp7 => (q_ge (q_var 4) (q_var 5))))) ka_nil)))
  (ks_one (ks_ret (q_var 2)))
  ks_nil)))
  (ks_one (ks_ret k_non)))
theorem ok_done_with {f : Addr} {fd : FuncData} (D : FunD K "done_with" "done_with" (defArgs s_done_with) (defBody s_done_with) (defScope s_done_with) [] [] f fd) (m : mg "done_with" = some (.ref f)) (g_Ways_first : CalM PP w K mg base cl 0 "first" 1 ["self", "powers"] F_Ways_first 2) (c_Ways : Cls K (cl 0)) (n_Ways_adds : NoAttr K (cl 0) "adds") : Cal PP w K mg base cl "done_with" 2 ["ways", "powers"] F_done_with 2 :=
  q_fn (k := 1) (sem := b_done_with) D sc_done_with rfl rfl m (FunD.bindsN (ps := ["ways", "powers"]) D fun _ _ _ _ _ _ us hl => match us, hl with | [_, _], _ => rfl) fun cdv A outer s H E c =>
  (ks_cons (q_set c.nd 2 (k_meth c g_Ways_first (by decide) (q_var 0) (ka_cons (q_var 1) ka_nil)))
  (ks_cons (ks_if (qt_is (q_var 2) k_non)
  (ks_one (ks_ret k_non))
  ks_nil)
  (ks_one (ks_ret (q_idx (k_fld 0 "adds" c_Ways n_Ways_adds (q_var 0)) (q_var 2))))))
theorem ok_both_wants {f : Addr} {fd : FuncData} (D : FunD K "both_wants" "both_wants" (defArgs s_both_wants) (defBody s_both_wants) (defScope s_both_wants) [] [] f fd) (m : mg "both_wants" = some (.ref f)) (z_max : mg "max" = none) (z_tuple : mg "tuple" = none) (z_zip : mg "zip" = none) : Cal PP w K mg base cl "both_wants" 1 ["one", "other"] F_both_wants 2 :=
  q_fn (k := 0) (sem := b_both_wants) D sc_both_wants rfl rfl m (FunD.bindsN (ps := ["one", "other"]) D fun _ _ _ _ _ _ us hl => match us, hl with | [_, _], _ => rfl) fun cdv A outer s H E c =>
  (ks_one (ks_ret (q_tuple z_tuple (ka_cons (k_frz (kn_comp c.calm c.nd (ki_zip rfl z_zip (ka_cons (q_var 0) (ka_cons (q_var 1) ka_nil))) (blkOk_by (own := [("mine", 2), ("own", 3)]) (by rfl)) (by decide) (fun s8 H8 C8 l8 fp8 => (kg_tup (c.blk s8 H8 _ _ fp8).calm (q_gcons (c.blk s8 H8 _ _ fp8).nd 2 (q_gcons (c.blk s8 H8 _ _ fp8).nd 3 kgs_nil)))) (fun s8 H8 C8 l8 fp8 => kts_nil) (fun s8 H8 C8 l8 fp8 => (q_max (c.blk s8 H8 _ _ fp8) z_max (ka_cons (q_var 2) (ka_cons (q_var 3) ka_nil)))))) ka_nil))))
theorem ok_unlike_at {f : Addr} {fd : FuncData} (D : FunD K "unlike_at" "unlike_at" (defArgs s_unlike_at) (defBody s_unlike_at) (defScope s_unlike_at) [] [] f fd) (m : mg "unlike_at" = some (.ref f)) (g_Ways_init : CalI PP w K mg base cl 0 "Ways" 4 ["self", "program"] F_Ways_init 2) (g_done_with : Cal PP w K mg base cl "done_with" 2 ["ways", "powers"] F_done_with 2) (g_both_wants : Cal PP w K mg base cl "both_wants" 1 ["one", "other"] F_both_wants 2) (c_Ways : Cls K (cl 0)) (n_Ways_wants : NoAttr K (cl 0) "wants") (z_list : mg "list" = none) : Cal PP w K mg base cl "unlike_at" 6 ["one", "other"] F_unlike_at 2 :=
  q_fn (k := 5) (sem := b_unlike_at) D sc_unlike_at rfl rfl m (FunD.bindsN (ps := ["one", "other"]) D fun _ _ _ _ _ _ us hl => match us, hl with | [_, _], _ => rfl) fun cdv A outer s H E c =>
  (ks_cons (q_set c.nd 2 (k_new c g_Ways_init (by decide) rfl (ka_cons (q_var 0) ka_nil)))
  (ks_cons (q_set c.nd 3 (k_new c g_Ways_init (by decide) rfl (ka_cons (q_var 1) ka_nil)))
  (ks_cons (q_set c.nd 4 (k_cell (kn_bin n_cat (k_frz (qn_list z_list (ka_cons (k_fld 0 "wants" c_Ways n_Ways_wants (q_var 2)) ka_nil))) (k_frz (qn_list z_list (ka_cons (k_fld 0 "wants" c_Ways n_Ways_wants (q_var 3)) ka_nil))))))
  (ks_cons (ks_for c.hp c.calm (ki_seq (k_fld 0 "wants" c_Ways n_Ways_wants (q_var 2))) (q_one c.nd 5)
  (ks_one (ks_expr (k_methL PySem.F.slot_list_extend PySem.F.type_list_extend m_extend (q_var 4) (ka_cons (k_frz (kn_comp c.calm c.nd (ki_seq (k_fld 0 "wants" c_Ways n_Ways_wants (q_var 3))) (blkOk_by (own := [("own", 7)]) (by rfl)) (by decide) (fun s9 H9 C9 l9 fp9 => (q_one (c.blk s9 H9 _ _ fp9).nd 7)) (fun s9 H9 C9 l9 fp9 => kts_nil) (fun s9 H9 C9 l9 fp9 => (q_call (c.blk s9 H9 _ _ fp9) g_both_wants (by decide) rfl (ka_cons (q_var 5) (ka_cons (q_var 7) ka_nil)))))) ka_nil)))))
  (ks_cons (ks_for c.hp c.calm (ki_seq (q_var 4)) (q_one c.nd 6)
  (ks_one (ks_if (qt_ne c.hu (q_call c g_done_with (by decide) rfl (ka_cons (q_var 2) (ka_cons (q_var 6) ka_nil))) (q_call c g_done_with (by decide) rfl (ka_cons (q_var 3) (ka_cons (q_var 6) ka_nil))))
  (ks_one (ks_ret (q_var 6)))
  ks_nil)))
  (ks_one (ks_ret k_non)))))))
theorem ok_is_within {f : Addr} {fd : FuncData} (D : FunD K "is_within" "is_within" (defArgs s_is_within) (defBody s_is_within) (defScope s_is_within) [] [] f fd) (m : mg "is_within" = some (.ref f)) (z_all : mg "all" = none) (z_zip : mg "zip" = none) : Cal PP w K mg base cl "is_within" 1 ["one", "other"] F_is_within 2 :=
  q_fn (k := 0) (sem := b_is_within) D sc_is_within rfl rfl m (FunD.bindsN (ps := ["one", "other"]) D fun _ _ _ _ _ _ us hl => match us, hl with | [_, _], _ => rfl) fun cdv A outer s H E c =>
  (ks_one (ks_ret (q_all c z_all (ka_cons (k_frz (kn_comp c.calm c.nd (ki_zip rfl z_zip (ka_cons (q_var 0) (ka_cons (q_var 1) ka_nil))) (blkOk_by (own := [("mine", 2), ("own", 3)]) (by rfl)) (by decide) (fun s10 H10 C10 l10 fp10 => (kg_tup (c.blk s10 H10 _ _ fp10).calm (q_gcons (c.blk s10 H10 _ _ fp10).nd 2 (q_gcons (c.blk s10 H10 _ _ fp10).nd 3 kgs_nil)))) (fun s10 H10 C10 l10 fp10 => kts_nil) (fun s10 H10 C10 l10 fp10 => (q_le (q_var 2) (q_var 3))))) ka_nil))))
theorem ok_idle {f : Addr} {fd : FuncData} (D : FunD K "idle" "idle" (defArgs s_idle) (defBody s_idle) (defScope s_idle) [] [] f fd) (m : mg "idle" = some (.ref f)) (g_Ways_init : CalI PP w K mg base cl 0 "Ways" 4 ["self", "program"] F_Ways_init 2) (g_is_within : Cal PP w K mg base cl "is_within" 1 ["one", "other"] F_is_within 2) (c_Ways : Cls K (cl 0)) (n_Ways_wants : NoAttr K (cl 0) "wants") (z_any : mg "any" = none) (z_len : mg "len" = none) (z_range : mg "range" = none) : Cal PP w K mg base cl "idle" 6 ["program"] F_idle_v2 1 :=
  q_fn (k := 5) (sem := b_idle_v2) D sc_idle rfl rfl m (FunD.bindsN (ps := ["program"]) D fun _ _ _ _ _ _ us hl => match us, hl with | [_], _ => rfl) fun cdv A outer s H E c =>
  (ks_cons (q_set c.nd 1 (k_fld 0 "wants" c_Ways n_Ways_wants (k_new c g_Ways_init (by decide) rfl (ka_cons (q_var 0) ka_nil))))
  (ks_cons (q_set c.nd 2 (k_cell (kn_lst ka_nil)))
  (ks_cons (ks_for c.hp c.calm (ki_range1 rfl z_range (ka_cons (q_len z_len (ka_cons (q_var 1) ka_nil)) ka_nil)) (q_one c.nd 3)
  (ks_one (ks_if (kt_tru (q_any c z_any (ka_cons (k_frz (kn_comp c.calm c.nd (ki_range1 rfl z_range (ka_cons (q_var 3) ka_nil)) (blkOk_by (own := [("earlier", 4)]) (by rfl)) (by decide) (fun s11 H11 C11 l11 fp11 => (q_one (c.blk s11 H11 _ _ fp11).nd 4)) (fun s11 H11 C11 l11 fp11 => kts_nil) (fun s11 H11 C11 l11 fp11 => (q_call (c.blk s11 H11 _ _ fp11) g_is_within (by decide) rfl (ka_cons (q_idx (q_var 1) (q_var 4)) (ka_cons (q_idx (q_var 1) (q_var 3)) ka_nil)))))) ka_nil)))
  (ks_one (ks_expr (k_methL PySem.F.slot_list_append PySem.F.type_list_append m_append (q_var 2) (ka_cons (q_var 3) ka_nil))))
  ks_nil)))
  (ks_one (ks_ret (q_var 2))))))
theorem ok_without_idle {f : Addr} {fd : FuncData} (D : FunD K "without_idle" "without_idle" (defArgs s_without_idle) (defBody s_without_idle) (defScope s_without_idle) [] [] f fd) (m : mg "without_idle" = some (.ref f)) (g_idle : Cal PP w K mg base cl "idle" 6 ["program"] F_idle_v2 1) (z_enumerate : mg "enumerate" = none) (z_tuple : mg "tuple" = none) : Cal PP w K mg base cl "without_idle" 7 ["program"] F_without_idle_v2 1 :=
  q_fn (k := 6) (sem := b_without_idle_v2) D sc_without_idle rfl rfl m (FunD.bindsN (ps := ["program"]) D fun _ _ _ _ _ _ us hl => match us, hl with | [_], _ => rfl) fun cdv A outer s H E c =>
  (ks_cons (q_set c.nd 1 (q_call c g_idle (by decide) rfl (ka_cons (q_var 0) ka_nil)))
  (ks_one (ks_ret (q_tuple z_tuple (ka_cons (k_frz (kn_comp c.calm c.nd (ki_enum rfl z_enumerate (ka_cons (q_var 0) ka_nil)) (blkOk_by (own := [("number", 2), ("fraction", 3)]) (by rfl)) (by decide) (fun s12 H12 C12 l12 fp12 => (kg_tup (c.blk s12 H12 _ _ fp12).calm (q_gcons (c.blk s12 H12 _ _ fp12).nd 2 (q_gcons (c.blk s12 H12 _ _ fp12).nd 3 kgs_nil)))) (fun s12 H12 C12 l12 fp12 => (kts_one (qt_notin (c.blk s12 H12 _ _ fp12).hu5 (q_var 2) (q_var 1)))) (fun s12 H12 C12 l12 fp12 => (q_var 3)))) ka_nil)))))
theorem ok_law_cell_at {f : Addr} {fd : FuncData} (D : FunD K "_law_cell_at" "_law_cell_at" (defArgs s_law_cell_at) (defBody s_law_cell_at) (defScope s_law_cell_at) [] [] f fd) (m : mg "_law_cell_at" = some (.ref f)) (z_len : mg "len" = none) : Cal PP w K mg base cl "_law_cell_at" 1 ["script", "k"] F_law_cell_at 2 :=
  q_fn (k := 0) (sem := b_law_cell_at) D sc_law_cell_at rfl rfl m (FunD.bindsN (ps := ["script", "k"]) D fun _ _ _ _ _ _ us hl => match us, hl with | [_, _], _ => rfl) fun cdv A outer s H E c =>
  (ks_cons (ks_if (qt_lt c.hu0 (q_var 1) (q_len z_len (ka_cons (q_var 0) ka_nil)))
  (ks_one (ks_ret (q_idx (q_var 0) (q_var 1))))
  ks_nil)
  (ks_one (ks_ret k_int)))
theorem ok_Ways_gone {f : Addr} {fd : FuncData} (D : FunD K "gone" "Ways.gone" (defArgs s_Ways_gone) (defBody s_Ways_gone) (defScope s_Ways_gone) [] [] f fd) (m : Meth K (cl 0) "gone" f) (mm : Cls K (cl 0)) (c_Ways : Cls K (cl 0)) (n_Ways_adds : NoAttr K (cl 0) "adds") (z_tuple : mg "tuple" = none) (z_zip : mg "zip" = none) : CalM PP w K mg base cl 0 "gone" 1 ["self", "powers", "number", "many"] F_Ways_gone 4 :=
  q_fnM (k := 0) (sem := b_Ways_gone) D sc_Ways_gone rfl rfl m mm (FunD.bindsN (ps := ["self", "powers", "number", "many"]) D fun _ _ _ _ _ _ us hl => match us, hl with | [_, _, _, _], _ => rfl) fun cdv A outer s H E c =>
  (ks_one (ks_ret (q_tuple z_tuple (ka_cons (k_frz (kn_comp c.calm c.nd (ki_zip rfl z_zip (ka_cons (q_var 1) (ka_cons (q_idx (k_fld 0 "adds" c_Ways n_Ways_adds (q_var 0)) (q_var 2)) ka_nil))) (blkOk_by (own := [("one", 4), ("more", 5)]) (by rfl)) (by decide) (fun s13 H13 C13 l13 fp13 => (kg_tup (c.blk s13 H13 _ _ fp13).calm (q_gcons (c.blk s13 H13 _ _ fp13).nd 4 (q_gcons (c.blk s13 H13 _ _ fp13).nd 5 kgs_nil)))) (fun s13 H13 C13 l13 fp13 => kts_nil) (fun s13 H13 C13 l13 fp13 => (k_bin o_add (q_var 4) (k_bin o_mul (q_var 3) (q_var 5)))))) ka_nil))))
theorem ok_path {f : Addr} {fd : FuncData} (D : FunD K "path" "path" (defArgs s_path) (defBody s_path) (defScope s_path) [] [] f fd) (m : mg "path" = some (.ref f)) (g_Ways_init : CalI PP w K mg base cl 0 "Ways" 4 ["self", "program"] F_Ways_init 2) (g_Ways_first : CalM PP w K mg base cl 0 "first" 1 ["self", "powers"] F_Ways_first 2) (g_Ways_gone : CalM PP w K mg base cl 0 "gone" 1 ["self", "powers", "number", "many"] F_Ways_gone 4) (z_len : mg "len" = none) : Cal PP w K mg base cl "path" 6 ["program", "powers", "many"] F_path 3 :=
  q_fn (k := 5) (sem := b_path) D sc_path rfl rfl m (FunD.bindsN (ps := ["program", "powers", "many"]) D fun _ _ _ _ _ _ us hl => match us, hl with | [_, _, _], _ => rfl) fun cdv A outer s H E c =>
  (ks_cons (q_set c.nd 3 (k_new c g_Ways_init (by decide) rfl (ka_cons (q_var 0) ka_nil)))
  (ks_cons (q_set c.nd 4 (k_cell (kn_lst (ka_cons (q_var 1) ka_nil))))
  (ks_cons (q_set c.nd 5 (k_meth c g_Ways_first (by decide) (q_var 3) (ka_cons (q_var 1) ka_nil)))
  (ks_cons (ks_while c.hp (kt_bool (kw_and (qt_le (q_len z_len (ka_cons (q_var 4) ka_nil)) (q_var 2)) (kw_and1 (qt_isnot (q_var 5) k_non))))
  (ks_cons (ks_expr (k_methL PySem.F.slot_list_append PySem.F.type_list_append m_append (q_var 4) (ka_cons (k_meth c g_Ways_gone (by decide) (q_var 3) (ka_cons (q_idx (q_var 4) (q_neg k_int)) (ka_cons (q_var 5) (ka_cons k_int ka_nil)))) ka_nil)))
  (ks_one (q_set c.nd 5 (k_meth c g_Ways_first (by decide) (q_var 3) (ka_cons (q_idx (q_var 4) (q_neg k_int)) ka_nil))))))
  (ks_one (ks_ret (q_var 4)))))))
theorem ok_first_places {f : Addr} {fd : FuncData} (D : FunD K "first_places" "first_places" (defArgs s_first_places) (defBody s_first_places) (defScope s_first_places) [] [] f fd) (m : mg "first_places" = some (.ref f)) (z_enumerate : mg "enumerate" = none) : Cal PP w K mg base cl "first_places" 1 ["rows"] F_first_places 1 :=
  q_fn (k := 0) (sem := b_first_places) D sc_first_places rfl rfl m (FunD.bindsN (ps := ["rows"]) D fun _ _ _ _ _ _ us hl => match us, hl with | [_], _ => rfl) fun cdv A outer s H E c =>
  (ks_cons (q_set c.nd 1 k_dict)
  (ks_cons (ks_for c.hp c.calm (ki_enum rfl z_enumerate (ka_cons (q_var 0) ka_nil)) (kg_tup c.calm (q_gcons c.nd 2 (q_gcons c.nd 3 kgs_nil)))
  (ks_one (ks_expr (k_setd c.hu5 (q_var 1) (q_var 3) (q_var 2)))))
  (ks_one (ks_ret (q_var 1)))))
theorem ok_fate {f : Addr} {fd : FuncData} (D : FunD K "fate" "fate" (defArgs s_fate) (defBody s_fate) (defScope s_fate) [] [] f fd) (m : mg "fate" = some (.ref f)) (g_path : Cal PP w K mg base cl "path" 6 ["program", "powers", "many"] F_path 3) (g_first_places : Cal PP w K mg base cl "first_places" 1 ["rows"] F_first_places 1) (g_Ways_first : CalM PP w K mg base cl 0 "first" 1 ["self", "powers"] F_Ways_first 2) (g_Ways_init : CalI PP w K mg base cl 0 "Ways" 4 ["self", "program"] F_Ways_init 2) (z_enumerate : mg "enumerate" = none) (z_len : mg "len" = none) : Cal PP w K mg base cl "fate" 7 ["program", "powers", "most"] F_fate 3 :=
  q_fn (k := 6) (sem := b_fate) D sc_fate rfl rfl m (FunD.bindsN (ps := ["program", "powers", "most"]) D fun _ _ _ _ _ _ us hl => match us, hl with | [_, _, _], _ => rfl) fun cdv A outer s H E c =>
  (ks_cons (q_set c.nd 3 (q_call c g_path (by decide) rfl (ka_cons (q_var 0) (ka_cons (q_var 1) (ka_cons (q_var 2) ka_nil)))))
  (ks_cons (q_set c.nd 4 (q_call c g_first_places (by decide) rfl (ka_cons (q_var 3) ka_nil)))
  (ks_cons (ks_if (qt_lt c.hu0 (q_lenD z_len (ka_cons (q_var 4) ka_nil)) (q_len z_len (ka_cons (q_var 3) ka_nil)))
  (ks_cons (q_set c.nd 5 (q_idx (k_frz (kn_comp c.calm c.nd (ki_enum rfl z_enumerate (ka_cons (q_var 3) ka_nil)) (blkOk_by (own := [("place", 6), ("row", 7)]) (by rfl)) (by decide) (fun s14 H14 C14 l14 fp14 => (kg_tup (c.blk s14 H14 _ _ fp14).calm (q_gcons (c.blk s14 H14 _ _ fp14).nd 6 (q_gcons (c.blk s14 H14 _ _ fp14).nd 7 kgs_nil)))) (fun s14 H14 C14 l14 fp14 => (kts_one (qt_lt (c.blk s14 H14 _ _ fp14).hu0 (k_idxD (c.blk s14 H14 _ _ fp14).hu5 (q_var 4) (q_var 7)) (q_var 6)))) (fun s14 H14 C14 l14 fp14 => (q_var 6)))) k_int))
  (ks_one (ks_ret (k_tup (ka_cons k_str (ka_cons (k_idxD c.hu5 (q_var 4) (q_idx (q_var 3) (q_var 5))) (ka_cons (k_bin o_sub (q_var 5) (k_idxD c.hu5 (q_var 4) (q_idx (q_var 3) (q_var 5)))) ka_nil)))))))
  ks_nil)
  (ks_cons (ks_if (qt_is (k_meth c g_Ways_first (by decide) (k_new c g_Ways_init (by decide) rfl (ka_cons (q_var 0) ka_nil)) (ka_cons (q_idx (q_var 3) (q_neg k_int)) ka_nil)) k_non)
  (ks_one (ks_ret (k_tup (ka_cons k_str (ka_cons (k_bin o_sub (q_len z_len (ka_cons (q_var 3) ka_nil)) k_int) (ka_cons (q_idx (q_var 3) (q_neg k_int)) ka_nil))))))
  ks_nil)
  (ks_one (ks_ret (k_tup (ka_cons k_str ka_nil))))))))
theorem ok_after {f : Addr} {fd : FuncData} (D : FunD K "after" "after" (defArgs s_after) (defBody s_after) (defScope s_after) [] [] f fd) (m : mg "after" = some (.ref f)) (g_Ways_init : CalI PP w K mg base cl 0 "Ways" 4 ["self", "program"] F_Ways_init 2) (g_Ways_first : CalM PP w K mg base cl 0 "first" 1 ["self", "powers"] F_Ways_first 2) (g_Ways_gone : CalM PP w K mg base cl 0 "gone" 1 ["self", "powers", "number", "many"] F_Ways_gone 4) (e_AtRest : FldE PP w K mg base cl 11 "steps" "AtRest") (z_range : mg "range" = none) : Cal PP w K mg base cl "after" 6 ["program", "powers", "many"] F_after 3 :=
  q_fn (k := 5) (sem := b_after) D sc_after rfl rfl m (FunD.bindsN (ps := ["program", "powers", "many"]) D fun _ _ _ _ _ _ us hl => match us, hl with | [_, _, _], _ => rfl) fun cdv A outer s H E c =>
  (ks_cons (q_set c.nd 3 (k_new c g_Ways_init (by decide) rfl (ka_cons (q_var 0) ka_nil)))
  (ks_cons (ks_for c.hp c.calm (ki_range1 rfl z_range (ka_cons (q_var 2) ka_nil)) (q_one c.nd 4)
  (ks_cons (q_set c.nd 5 (k_meth c g_Ways_first (by decide) (q_var 3) (ka_cons (q_var 1) ka_nil)))
  (ks_cons (ks_if (qt_is (q_var 5) k_non)
  (ks_one (ks_raiseF c (by decide) e_AtRest (q_var 4)))
  ks_nil)
  (ks_one (q_set c.nd 1 (k_meth c g_Ways_gone (by decide) (q_var 3) (ka_cons (q_var 1) (ka_cons (q_var 5) (ka_cons k_int ka_nil)))))))))
  (ks_one (ks_ret (q_var 1)))))
theorem ok_step {f : Addr} {fd : FuncData} (D : FunD K "step" "step" (defArgs s_step) (defBody s_step) (defScope s_step) [] [] f fd) (m : mg "step" = some (.ref f)) (g_after : Cal PP w K mg base cl "after" 6 ["program", "powers", "many"] F_after 3) : Cal PP w K mg base cl "step" 7 ["program", "powers"] F_step 2 :=
  q_fn (k := 6) (sem := b_step) D sc_step rfl rfl m (FunD.bindsN (ps := ["program", "powers"]) D fun _ _ _ _ _ _ us hl => match us, hl with | [_, _], _ => rfl) fun cdv A outer s H E c =>
  (ks_one (ks_ret (q_call c g_after (by decide) rfl (ka_cons (q_var 0) (ka_cons (q_var 1) (ka_cons k_int ka_nil))))))
theorem ok_first_fit {f : Addr} {fd : FuncData} (D : FunD K "first_fit" "first_fit" (defArgs s_first_fit) (defBody s_first_fit) (defScope s_first_fit) [] [] f fd) (m : mg "first_fit" = some (.ref f)) (g_Ways_first : CalM PP w K mg base cl 0 "first" 1 ["self", "powers"] F_Ways_first 2) (g_Ways_init : CalI PP w K mg base cl 0 "Ways" 4 ["self", "program"] F_Ways_init 2) : Cal PP w K mg base cl "first_fit" 6 ["program", "powers"] F_first_fit 2 :=
  q_fn (k := 5) (sem := b_first_fit) D sc_first_fit rfl rfl m (FunD.bindsN (ps := ["program", "powers"]) D fun _ _ _ _ _ _ us hl => match us, hl with | [_, _], _ => rfl) fun cdv A outer s H E c =>
  (ks_one (ks_ret (k_meth c g_Ways_first (by decide) (k_new c g_Ways_init (by decide) rfl (ka_cons (q_var 0) ka_nil)) (ka_cons (q_var 1) ka_nil))))
theorem ok_law_step_told {f : Addr} {fd : FuncData} (D : FunD K "_law_step_told" "_law_step_told" (defArgs s_law_step_told) (defBody s_law_step_told) (defScope s_law_step_told) [] [] f fd) (m : mg "_law_step_told" = some (.ref f)) (g_step : Cal PP w K mg base cl "step" 7 ["program", "powers"] F_step 2) (g_first_fit : Cal PP w K mg base cl "first_fit" 6 ["program", "powers"] F_first_fit 2) : Cal PP w K mg base cl "_law_step_told" 8 ["program", "line"] F_law_step_told 2 :=
  q_fn (k := 7) (sem := b_law_step_told) D sc_law_step_told rfl rfl m (FunD.bindsN (ps := ["program", "line"]) D fun _ _ _ _ _ _ us hl => match us, hl with | [_, _], _ => rfl) fun cdv A outer s H E c =>
  (ks_cons (ks_if (qt_is (q_call c g_first_fit (by decide) rfl (ka_cons (q_var 0) (ka_cons (q_var 1) ka_nil))) k_non)
  (ks_one (ks_ret k_non))
  ks_nil)
  (ks_one (ks_ret (q_call c g_step (by decide) rfl (ka_cons (q_var 0) (ka_cons (q_var 1) ka_nil))))))
theorem ok_law_go_alike {f : Addr} {fd : FuncData} (D : FunD K "_law_go_alike" "_law_go_alike" (defArgs s_law_go_alike) (defBody s_law_go_alike) (defScope s_law_go_alike) [] [] f fd) (m : mg "_law_go_alike" = some (.ref f)) (g_fate : Cal PP w K mg base cl "fate" 7 ["program", "powers", "most"] F_fate 3) (g_law_step_told : Cal PP w K mg base cl "_law_step_told" 8 ["program", "line"] F_law_step_told 2) (z_range : mg "range" = none) : Cal PP w K mg base cl "_law_go_alike" 9 ["one", "other", "line"] F_law_go_alike 3 :=
  q_fn (k := 8) (sem := b_law_go_alike) D sc_law_go_alike rfl rfl m (FunD.bindsN (ps := ["one", "other", "line"]) D fun _ _ _ _ _ _ us hl => match us, hl with | [_, _, _], _ => rfl) fun cdv A outer s H E c =>
  (ks_cons (ks_if (qt_ne c.hu (q_call c g_fate (by decide) rfl (ka_cons (q_var 0) (ka_cons (q_var 2) (ka_cons k_int ka_nil)))) (q_call c g_fate (by decide) rfl (ka_cons (q_var 1) (ka_cons (q_var 2) (ka_cons k_int ka_nil)))))
  (ks_one (ks_ret k_bl))
  ks_nil)
  (ks_cons (ks_for c.hp c.calm (ki_range1 rfl z_range (ka_cons k_int ka_nil)) (q_one c.nd 4)
  (ks_cons (q_set c.nd 3 (q_call c g_law_step_told (by decide) rfl (ka_cons (q_var 0) (ka_cons (q_var 2) ka_nil))))
  (ks_cons (ks_if (qt_ne c.hu (q_var 3) (q_call c g_law_step_told (by decide) rfl (ka_cons (q_var 1) (ka_cons (q_var 2) ka_nil))))
  (ks_one (ks_ret k_bl))
  ks_nil)
  (ks_cons (ks_if (qt_is (q_var 3) k_non)
  (ks_one (ks_ret k_bl))
  ks_nil)
  (ks_one (q_set c.nd 2 (q_var 3)))))))
  (ks_one (ks_ret k_bl))))
theorem ok_law {f : Addr} {fd : FuncData} (D : FunD K "law" "law" (defArgs s_law) (defBody s_law) (defScope s_law) [] [] f fd) (m : mg "law" = some (.ref f)) (g_law_pot : Cal PP w K mg base cl "_law_pot" 1 ["cell"] F_law_pot 1) (g_law_places : Cal PP w K mg base cl "_law_places" 3 ["pot"] F_law_places 1) (g_law_program : Cal PP w K mg base cl "_law_program" 4 ["pot", "places", "most"] F_law_program 3) (g_law_like : Cal PP w K mg base cl "_law_like" 4 ["pot", "places", "program"] F_law_like 3) (g_law_line : Cal PP w K mg base cl "_law_line" 2 ["pot", "places", "most"] F_law_line 3) (g_unlike_at : Cal PP w K mg base cl "unlike_at" 6 ["one", "other"] F_unlike_at 2) (g_without_idle : Cal PP w K mg base cl "without_idle" 7 ["program"] F_without_idle_v2 1) (g_law_cell_at : Cal PP w K mg base cl "_law_cell_at" 1 ["script", "k"] F_law_cell_at 2) (g_law_go_alike : Cal PP w K mg base cl "_law_go_alike" 9 ["one", "other", "line"] F_law_go_alike 3) (g_law_step_told : Cal PP w K mg base cl "_law_step_told" 8 ["program", "line"] F_law_step_told 2) (g_idle : Cal PP w K mg base cl "idle" 6 ["program"] F_idle_v2 1) (z_len : mg "len" = none) (z_max : mg "max" = none) (z_min : mg "min" = none) (z_range : mg "range" = none) : FnOk PP w K mg base (L2N.CX PP w) 10 f fd ["script"] (spF K cl F_law_k83 1) :=
  q_fnF (k := 9) (sem := b_law_k83) D sc_law rfl rfl fun cdv A outer s H E c =>
  (ks_cons (ks_for c.hp c.calm (ki_range1 rfl z_range (ka_cons (q_max c z_max (ka_cons k_int (ka_cons (q_min c z_min (ka_cons (q_len z_len (ka_cons (q_var 0) ka_nil)) (ka_cons k_int ka_nil))) ka_nil))) ka_nil)) (q_one c.nd 3)
  (ks_cons (q_set c.nd 8 (q_call c g_law_pot (by decide) rfl (ka_cons (q_call c g_law_cell_at (by decide) rfl (ka_cons (q_var 0) (ka_cons (q_var 3) ka_nil))) ka_nil)))
  (ks_cons (q_set c.nd 7 (q_call c g_law_places (by decide) rfl (ka_cons (q_var 8) ka_nil)))
  (ks_cons (q_set c.nd 5 (q_call c g_law_program (by decide) rfl (ka_cons (q_var 8) (ka_cons (q_var 7) (ka_cons k_int ka_nil)))))
  (ks_cons (q_set c.nd 6 (q_call c g_law_like (by decide) rfl (ka_cons (q_var 8) (ka_cons (q_var 7) (ka_cons (q_var 5) ka_nil)))))
  (ks_cons (q_set c.nd 9 (q_call c g_law_like (by decide) rfl (ka_cons (q_var 8) (ka_cons (q_var 7) (ka_cons (q_var 6) ka_nil)))))
  (ks_cons (q_set c.nd 4 (q_call c g_law_line (by decide) rfl (ka_cons (q_var 8) (ka_cons (q_var 7) (ka_cons k_int ka_nil)))))
  (ks_cons (q_set c.nd 2 (q_call c g_unlike_at (by decide) rfl (ka_cons (q_var 5) (ka_cons (q_var 6) ka_nil))))
  (ks_cons (ks_if (qt_ne c.hu (q_is (q_var 2) k_non) (q_is (q_call c g_unlike_at (by decide) rfl (ka_cons (q_var 6) (ka_cons (q_var 5) ka_nil))) k_non))
  (ks_one (ks_ret k_bl))
  ks_nil)
  (ks_cons (ks_if (kt_bool (kw_and (qt_is (q_var 2) k_non) (kw_and1 (kt_not (kt_tru (q_call c g_law_go_alike (by decide) rfl (ka_cons (q_var 5) (ka_cons (q_var 6) (ka_cons (q_var 4) ka_nil)))))))))
  (ks_one (ks_ret k_bl))
  ks_nil)
  (ks_cons (ks_if (kt_bool (kw_and (qt_isnot (q_var 2) k_non) (kw_and1 (qt_eq c.hu (q_call c g_law_step_told (by decide) rfl (ka_cons (q_var 5) (ka_cons (q_var 2) ka_nil))) (q_call c g_law_step_told (by decide) rfl (ka_cons (q_var 6) (ka_cons (q_var 2) ka_nil)))))))
  (ks_one (ks_ret k_bl))
  ks_nil)
  (ks_cons (ks_if (kt_bool (kw_and (qt_is (q_var 2) k_non) (kw_and (qt_is (q_call c g_unlike_at (by decide) rfl (ka_cons (q_var 6) (ka_cons (q_var 9) ka_nil))) k_non) (kw_and1 (qt_isnot (q_call c g_unlike_at (by decide) rfl (ka_cons (q_var 5) (ka_cons (q_var 9) ka_nil))) k_non)))))
  (ks_one (ks_ret k_bl))
  ks_nil)
  (ks_cons (q_set c.nd 1 (q_call c g_without_idle (by decide) rfl (ka_cons (q_var 5) ka_nil)))
  (ks_one (ks_if (kt_bool (kw_or (qt_ne c.hu (q_call c g_idle (by decide) rfl (ka_cons (q_var 1) ka_nil)) (k_frz (kn_lst ka_nil))) (kw_or (kt_not (kt_tru (q_call c g_law_go_alike (by decide) rfl (ka_cons (q_var 5) (ka_cons (q_var 1) (ka_cons (q_var 4) ka_nil)))))) (kw_or1 (qt_ne c.hu (k_bin o_add (q_len z_len (ka_cons (q_var 1) ka_nil)) (q_len z_len (ka_cons (q_call c g_idle (by decide) rfl (ka_cons (q_var 5) ka_nil)) ka_nil))) (q_len z_len (ka_cons (q_var 5) ka_nil)))))))
  (ks_one (ks_ret k_bl))
  ks_nil)))))))))))))))
  (ks_one (ks_ret k_bl)))
end
def d_law_pot : He.DefD := ⟨("_law_pot", none), "_law_pot", "_law_pot", defArgs s_law_pot, defBody s_law_pot, defScope s_law_pot, [], []⟩
def d_law_take : He.DefD := ⟨("_law_take", none), "_law_take", "_law_take", defArgs s_law_take, defBody s_law_take, defScope s_law_take, [], []⟩
def d_law_order : He.DefD := ⟨("_law_order", none), "_law_order", "_law_order", defArgs s_law_order, defBody s_law_order, defScope s_law_order, [], []⟩
def d_law_places : He.DefD := ⟨("_law_places", none), "_law_places", "_law_places", defArgs s_law_places, defBody s_law_places, defScope s_law_places, [], []⟩
def d_law_primes : He.DefD := ⟨("_law_primes", none), "_law_primes", "_law_primes", defArgs s_law_primes, defBody s_law_primes, defScope s_law_primes, [], []⟩
def d_law_product : He.DefD := ⟨("_law_product", none), "_law_product", "_law_product", defArgs s_law_product, defBody s_law_product, defScope s_law_product, [], []⟩
def d_law_fraction : He.DefD := ⟨("_law_fraction", none), "_law_fraction", "_law_fraction", defArgs s_law_fraction, defBody s_law_fraction, defScope s_law_fraction, [], []⟩
def d_law_program : He.DefD := ⟨("_law_program", none), "_law_program", "_law_program", defArgs s_law_program, defBody s_law_program, defScope s_law_program, [], []⟩
def d_law_like : He.DefD := ⟨("_law_like", none), "_law_like", "_law_like", defArgs s_law_like, defBody s_law_like, defScope s_law_like, [], []⟩
def d_law_line : He.DefD := ⟨("_law_line", none), "_law_line", "_law_line", defArgs s_law_line, defBody s_law_line, defScope s_law_line, [], []⟩
def d_found_powers : He.DefD := ⟨("found_powers", none), "found_powers", "found_powers", defArgs s_found_powers, defBody s_found_powers, defScope s_found_powers, [], []⟩
def d_bottoms_of : He.DefD := ⟨("bottoms_of", none), "bottoms_of", "bottoms_of", defArgs s_bottoms_of, defBody s_bottoms_of, defScope s_bottoms_of, [], []⟩
def d_tops_of : He.DefD := ⟨("tops_of", none), "tops_of", "tops_of", defArgs s_tops_of, defBody s_tops_of, defScope s_tops_of, [], []⟩
def d_changes_of : He.DefD := ⟨("changes_of", none), "changes_of", "changes_of", defArgs s_changes_of, defBody s_changes_of, defScope s_changes_of, [], []⟩
def d_Ways_init : He.DefD := ⟨("Ways", some "__init__"), "__init__", "Ways.__init__", defArgs s_Ways_init, defBody s_Ways_init, defScope s_Ways_init, [], []⟩
def d_Ways_first : He.DefD := ⟨("Ways", some "first"), "first", "Ways.first", defArgs s_Ways_first, defBody s_Ways_first, defScope s_Ways_first, [], []⟩
def d_done_with : He.DefD := ⟨("done_with", none), "done_with", "done_with", defArgs s_done_with, defBody s_done_with, defScope s_done_with, [], []⟩
def d_both_wants : He.DefD := ⟨("both_wants", none), "both_wants", "both_wants", defArgs s_both_wants, defBody s_both_wants, defScope s_both_wants, [], []⟩
def d_unlike_at : He.DefD := ⟨("unlike_at", none), "unlike_at", "unlike_at", defArgs s_unlike_at, defBody s_unlike_at, defScope s_unlike_at, [], []⟩
def d_is_within : He.DefD := ⟨("is_within", none), "is_within", "is_within", defArgs s_is_within, defBody s_is_within, defScope s_is_within, [], []⟩
def d_idle : He.DefD := ⟨("idle", none), "idle", "idle", defArgs s_idle, defBody s_idle, defScope s_idle, [], []⟩
def d_without_idle : He.DefD := ⟨("without_idle", none), "without_idle", "without_idle", defArgs s_without_idle, defBody s_without_idle, defScope s_without_idle, [], []⟩
def d_law_cell_at : He.DefD := ⟨("_law_cell_at", none), "_law_cell_at", "_law_cell_at", defArgs s_law_cell_at, defBody s_law_cell_at, defScope s_law_cell_at, [], []⟩
def d_Ways_gone : He.DefD := ⟨("Ways", some "gone"), "gone", "Ways.gone", defArgs s_Ways_gone, defBody s_Ways_gone, defScope s_Ways_gone, [], []⟩
def d_path : He.DefD := ⟨("path", none), "path", "path", defArgs s_path, defBody s_path, defScope s_path, [], []⟩
def d_first_places : He.DefD := ⟨("first_places", none), "first_places", "first_places", defArgs s_first_places, defBody s_first_places, defScope s_first_places, [], []⟩
def d_fate : He.DefD := ⟨("fate", none), "fate", "fate", defArgs s_fate, defBody s_fate, defScope s_fate, [], []⟩
def d_after : He.DefD := ⟨("after", none), "after", "after", defArgs s_after, defBody s_after, defScope s_after, [], []⟩
def d_step : He.DefD := ⟨("step", none), "step", "step", defArgs s_step, defBody s_step, defScope s_step, [], []⟩
def d_first_fit : He.DefD := ⟨("first_fit", none), "first_fit", "first_fit", defArgs s_first_fit, defBody s_first_fit, defScope s_first_fit, [], []⟩
def d_law_step_told : He.DefD := ⟨("_law_step_told", none), "_law_step_told", "_law_step_told", defArgs s_law_step_told, defBody s_law_step_told, defScope s_law_step_told, [], []⟩
def d_law_go_alike : He.DefD := ⟨("_law_go_alike", none), "_law_go_alike", "_law_go_alike", defArgs s_law_go_alike, defBody s_law_go_alike, defScope s_law_go_alike, [], []⟩
def d_law : He.DefD := ⟨("law", none), "law", "law", defArgs s_law, defBody s_law, defScope s_law, [], []⟩
def d_AtRest_init : He.DefD := ⟨("AtRest", some "__init__"), "__init__", "AtRest.__init__", defArgs s_AtRest_init, defBody s_AtRest_init, defScope s_AtRest_init, [], []⟩
def fnl_0 : List He.DefD := [d_law_pot, d_law_take, d_law_order, d_law_places, d_law_primes, d_law_product, d_law_fraction, d_law_program, d_law_like, d_law_line, d_found_powers, d_bottoms_of, d_tops_of, d_changes_of, d_Ways_init, d_Ways_first, d_done_with, d_both_wants, d_unlike_at, d_is_within, d_idle, d_without_idle, d_law_cell_at, d_Ways_gone]
def fnl_1 : List He.DefD := [d_path, d_first_places, d_fate, d_after, d_step, d_first_fit, d_law_step_told, d_law_go_alike, d_law, d_AtRest_init]
def fnl : List He.DefD := fnl_0 ++ fnl_1
def fal_0 : List He.Fa := [.glo "AtRest", .glo "FractError", .glo "Ways", .cls "Ways", .noat "Ways" "wants", .noat "Ways" "adds", .mkr "Ways", .meth "Ways" "first", .meth "Ways" "gone", .glo "_law_pot", .glo "_law_take", .glo "_law_order", .glo "_law_places", .glo "_law_primes", .glo "_law_product", .glo "_law_fraction", .glo "_law_program", .glo "_law_like", .glo "_law_line", .glo "found_powers", .glo "bottoms_of", .glo "tops_of", .glo "changes_of", .glo "done_with"]
def fal_1 : List He.Fa := [.glo "both_wants", .glo "unlike_at", .glo "is_within", .glo "idle", .glo "without_idle", .glo "_law_cell_at", .glo "path", .glo "first_places", .glo "fate", .glo "after", .glo "step", .glo "first_fit", .glo "_law_step_told", .glo "_law_go_alike", .glo "law", .free "all", .free "any", .free "enumerate", .free "len", .free "list", .free "max", .free "min", .free "range", .free "tuple"]
def fal_2 : List He.Fa := [.free "zip", .glo "PRIMES"]
def fal : List He.Fa := fal_0 ++ fal_1 ++ fal_2
def exl (K : PySem.W.Frag) : Bool := He.tupB K "PRIMES" (([2, 3, 5, 7, 11, 13, 17, 19, 23, 29] : List Int).map He.Dv.int) && fldB K "AtRest" "FractError" "steps"
def nm0 : List PySem.Str := ["_wall", "FractError", "AtRest", "PRIMES", "found_powers", "tops_of", "bottoms_of", "changes_of", "Ways", "first_fit", "step", "after", "is_within", "idle", "without_idle", "both_wants", "done_with", "unlike_at", "path", "first_places"]
def nm1 : List PySem.Str := ["fate", "_law_cell_at", "_law_pot", "_law_take", "_law_order", "_law_places", "_law_primes", "_law_product", "_law_fraction", "_law_program", "_law_line", "_law_like", "_law_step_told", "_law_go_alike"]
def names : List PySem.Str := nm0 ++ nm1
abbrev R : PySem.W.OpenRow := PySem.W.OpenLaw.row PySem.Challenge.rw_wholefract_k83_whole_alike_ones_go_alike
abbrev qv : Program := PySem.W.view R.prog [40]
abbrev hk : PySem.W.Hook := hookY 5 fal fnl exl
def ob (s : PySem.W.SharedT) : He.AlD × Bool := obsY 5 fal fnl exl (HandSHeadRun.getT s)
theorem ob_eq (s : PySem.W.SharedT) : ob s = hk.obs s.abs := obsY_eq (HandSHeadRun.getT_eq s)
theorem run (w : World) : HandSHeadRun.RunEq R qv hk ob 4410 names w := by
  intro os
  kernel_rfl
theorem facts {w : World} {K : PySem.W.Frag} {h : Heap} {mg : Str → Option Value} {fa : Addr} (X : K.In h) (G : h.Ns mainGlobals mg) (c : SaysY fal fnl exl K) (hfa : mg "law" = some (.ref fa)) : ∃ fd : FuncData, (∀ (s : Shared) (u : Value), BindsTo s fd ⟨[u], []⟩ [("script", u)]) ∧
    ∀ base : Heap, FnOk PP w K mg base (L2N.CX PP w) 10 fa fd ["script"] (spF K (clK K) F_law_k83 1) := by
  have cd := c.t
  have mc_AtRest : mg "AtRest" = some (.ref (clK K 11)) := He.glo_ok X G (cd.fact 0 rfl)
  have mc_FractError : mg "FractError" = some (.ref (clK K 10)) := He.glo_ok X G (cd.fact 1 rfl)
  have mc_Ways : mg "Ways" = some (.ref (clK K 0)) := He.glo_ok X G (cd.fact 2 rfl)
  have c_Ways : Cls K (clK K 0) := He.cls_ok (cd.fact 3 rfl)
  have n_Ways_wants : NoAttr K (clK K 0) "wants" := He.noat_ok (cd.fact 4 rfl)
  have n_Ways_adds : NoAttr K (clK K 0) "adds" := He.noat_ok (cd.fact 5 rfl)
  have mm_Ways_init := He.mkr_ok (cd.fact 6 rfl)
  have mm_Ways_first := He.meth_ok (cd.fact 7 rfl)
  have mm_Ways_gone := He.meth_ok (cd.fact 8 rfl)
  have z_all : mg "all" = none := He.free_ok X G (cd.fact 39 (f := .free "all") rfl)
  have z_any : mg "any" = none := He.free_ok X G (cd.fact 40 (f := .free "any") rfl)
  have z_enumerate : mg "enumerate" = none := He.free_ok X G (cd.fact 41 (f := .free "enumerate") rfl)
  have z_len : mg "len" = none := He.free_ok X G (cd.fact 42 (f := .free "len") rfl)
  have z_list : mg "list" = none := He.free_ok X G (cd.fact 43 (f := .free "list") rfl)
  have z_max : mg "max" = none := He.free_ok X G (cd.fact 44 (f := .free "max") rfl)
  have z_min : mg "min" = none := He.free_ok X G (cd.fact 45 (f := .free "min") rfl)
  have z_range : mg "range" = none := He.free_ok X G (cd.fact 46 (f := .free "range") rfl)
  have z_tuple : mg "tuple" = none := He.free_ok X G (cd.fact 47 (f := .free "tuple") rfl)
  have z_zip : mg "zip" = none := He.free_ok X G (cd.fact 48 (f := .free "zip") rfl)
  have cm : (He.tupB K "PRIMES" (([2, 3, 5, 7, 11, 13, 17, 19, 23, 29] : List Int).map He.Dv.int) && fldB K "AtRest" "FractError" "steps") = true := c.more
  simp only [Bool.and_eq_true] at cm
  have h_PRIMES : Con K mg "PRIMES" t_PRIMES := con_ints (He.glo_ok X G (cd.fact 49 (f := .glo "PRIMES") rfl)) cm.1
  obtain ⟨fd_AtRest_init, D_AtRest_init⟩ := cd.def_ 33 (d := d_AtRest_init) rfl
  have rf := fldB_ok cm.2 mc_AtRest mc_FractError
  have nf : PySem.W.findIn K (.ref (clK K 11)) "steps" = some none := rf.1.nf
  have e_AtRest : ∀ base : Heap, FldE PP w K mg base (clK K) 11 "steps" "AtRest" := fun base => ⟨_, _, _, fd_AtRest_init, rf.1, rf.2.1, rf.2.2, ok_AtRest_init D_AtRest_init rf.1, FunD.bindsN (ps := ["self", "steps"]) D_AtRest_init fun _ _ _ _ _ _ us hl => match us, hl with | [_, _], _ => rfl⟩
  obtain ⟨fd_law_pot, D_law_pot⟩ := cd.def_ 0 (d := d_law_pot) rfl
  have m_law_pot := He.glo_ok X G (cd.fact 9 (f := .glo "_law_pot") rfl)
  obtain ⟨fd_law_take, D_law_take⟩ := cd.def_ 1 (d := d_law_take) rfl
  have m_law_take := He.glo_ok X G (cd.fact 10 (f := .glo "_law_take") rfl)
  obtain ⟨fd_law_order, D_law_order⟩ := cd.def_ 2 (d := d_law_order) rfl
  have m_law_order := He.glo_ok X G (cd.fact 11 (f := .glo "_law_order") rfl)
  obtain ⟨fd_law_places, D_law_places⟩ := cd.def_ 3 (d := d_law_places) rfl
  have m_law_places := He.glo_ok X G (cd.fact 12 (f := .glo "_law_places") rfl)
  obtain ⟨fd_law_primes, D_law_primes⟩ := cd.def_ 4 (d := d_law_primes) rfl
  have m_law_primes := He.glo_ok X G (cd.fact 13 (f := .glo "_law_primes") rfl)
  obtain ⟨fd_law_product, D_law_product⟩ := cd.def_ 5 (d := d_law_product) rfl
  have m_law_product := He.glo_ok X G (cd.fact 14 (f := .glo "_law_product") rfl)
  obtain ⟨fd_law_fraction, D_law_fraction⟩ := cd.def_ 6 (d := d_law_fraction) rfl
  have m_law_fraction := He.glo_ok X G (cd.fact 15 (f := .glo "_law_fraction") rfl)
  obtain ⟨fd_law_program, D_law_program⟩ := cd.def_ 7 (d := d_law_program) rfl
  have m_law_program := He.glo_ok X G (cd.fact 16 (f := .glo "_law_program") rfl)
  obtain ⟨fd_law_like, D_law_like⟩ := cd.def_ 8 (d := d_law_like) rfl
  have m_law_like := He.glo_ok X G (cd.fact 17 (f := .glo "_law_like") rfl)
  obtain ⟨fd_law_line, D_law_line⟩ := cd.def_ 9 (d := d_law_line) rfl
  have m_law_line := He.glo_ok X G (cd.fact 18 (f := .glo "_law_line") rfl)
  obtain ⟨fd_found_powers, D_found_powers⟩ := cd.def_ 10 (d := d_found_powers) rfl
  have m_found_powers := He.glo_ok X G (cd.fact 19 (f := .glo "found_powers") rfl)
  obtain ⟨fd_bottoms_of, D_bottoms_of⟩ := cd.def_ 11 (d := d_bottoms_of) rfl
  have m_bottoms_of := He.glo_ok X G (cd.fact 20 (f := .glo "bottoms_of") rfl)
  obtain ⟨fd_tops_of, D_tops_of⟩ := cd.def_ 12 (d := d_tops_of) rfl
  have m_tops_of := He.glo_ok X G (cd.fact 21 (f := .glo "tops_of") rfl)
  obtain ⟨fd_changes_of, D_changes_of⟩ := cd.def_ 13 (d := d_changes_of) rfl
  have m_changes_of := He.glo_ok X G (cd.fact 22 (f := .glo "changes_of") rfl)
  obtain ⟨fd_Ways_init, D_Ways_init⟩ := cd.def_ 14 (d := d_Ways_init) rfl
  obtain ⟨fd_Ways_first, D_Ways_first⟩ := cd.def_ 15 (d := d_Ways_first) rfl
  obtain ⟨fd_done_with, D_done_with⟩ := cd.def_ 16 (d := d_done_with) rfl
  have m_done_with := He.glo_ok X G (cd.fact 23 (f := .glo "done_with") rfl)
  obtain ⟨fd_both_wants, D_both_wants⟩ := cd.def_ 17 (d := d_both_wants) rfl
  have m_both_wants := He.glo_ok X G (cd.fact 24 (f := .glo "both_wants") rfl)
  obtain ⟨fd_unlike_at, D_unlike_at⟩ := cd.def_ 18 (d := d_unlike_at) rfl
  have m_unlike_at := He.glo_ok X G (cd.fact 25 (f := .glo "unlike_at") rfl)
  obtain ⟨fd_is_within, D_is_within⟩ := cd.def_ 19 (d := d_is_within) rfl
  have m_is_within := He.glo_ok X G (cd.fact 26 (f := .glo "is_within") rfl)
  obtain ⟨fd_idle, D_idle⟩ := cd.def_ 20 (d := d_idle) rfl
  have m_idle := He.glo_ok X G (cd.fact 27 (f := .glo "idle") rfl)
  obtain ⟨fd_without_idle, D_without_idle⟩ := cd.def_ 21 (d := d_without_idle) rfl
  have m_without_idle := He.glo_ok X G (cd.fact 28 (f := .glo "without_idle") rfl)
  obtain ⟨fd_law_cell_at, D_law_cell_at⟩ := cd.def_ 22 (d := d_law_cell_at) rfl
  have m_law_cell_at := He.glo_ok X G (cd.fact 29 (f := .glo "_law_cell_at") rfl)
  obtain ⟨fd_Ways_gone, D_Ways_gone⟩ := cd.def_ 23 (d := d_Ways_gone) rfl
  obtain ⟨fd_path, D_path⟩ := cd.def_ 24 (d := d_path) rfl
  have m_path := He.glo_ok X G (cd.fact 30 (f := .glo "path") rfl)
  obtain ⟨fd_first_places, D_first_places⟩ := cd.def_ 25 (d := d_first_places) rfl
  have m_first_places := He.glo_ok X G (cd.fact 31 (f := .glo "first_places") rfl)
  obtain ⟨fd_fate, D_fate⟩ := cd.def_ 26 (d := d_fate) rfl
  have m_fate := He.glo_ok X G (cd.fact 32 (f := .glo "fate") rfl)
  obtain ⟨fd_after, D_after⟩ := cd.def_ 27 (d := d_after) rfl
  have m_after := He.glo_ok X G (cd.fact 33 (f := .glo "after") rfl)
  obtain ⟨fd_step, D_step⟩ := cd.def_ 28 (d := d_step) rfl
  have m_step := He.glo_ok X G (cd.fact 34 (f := .glo "step") rfl)
  obtain ⟨fd_first_fit, D_first_fit⟩ := cd.def_ 29 (d := d_first_fit) rfl
  have m_first_fit := He.glo_ok X G (cd.fact 35 (f := .glo "first_fit") rfl)
  obtain ⟨fd_law_step_told, D_law_step_told⟩ := cd.def_ 30 (d := d_law_step_told) rfl
  have m_law_step_told := He.glo_ok X G (cd.fact 36 (f := .glo "_law_step_told") rfl)
  obtain ⟨fd_law_go_alike, D_law_go_alike⟩ := cd.def_ 31 (d := d_law_go_alike) rfl
  have m_law_go_alike := He.glo_ok X G (cd.fact 37 (f := .glo "_law_go_alike") rfl)
  obtain ⟨fd_law, D_law⟩ := cd.def_ 32 (d := d_law) rfl
  have m_law := He.glo_ok X G (cd.fact 38 (f := .glo "law") rfl)
  have e := hfa.symm.trans m_law
  cases e
  refine ⟨fd_law, fun s u => FunD.bindsA (ps := ["script"]) D_law (fun _ _ _ _ _ _ us hl => match us, hl with | [_], _ => rfl) s [u] rfl, fun base => ?_⟩
  have g_law_pot := ok_law_pot (w := w) (base := base) (cl := clK K) D_law_pot m_law_pot z_range
  have g_law_take := ok_law_take (w := w) (base := base) (cl := clK K) D_law_take m_law_take 
  have g_law_order := ok_law_order (w := w) (base := base) (cl := clK K) D_law_order m_law_order g_law_take z_range z_tuple
  have g_law_places := ok_law_places (w := w) (base := base) (cl := clK K) D_law_places m_law_places g_law_take g_law_order z_range z_tuple
  have g_law_primes := ok_law_primes (w := w) (base := base) (cl := clK K) D_law_primes m_law_primes 
  have g_law_product := ok_law_product (w := w) (base := base) (cl := clK K) D_law_product m_law_product g_law_primes z_range z_zip
  have g_law_fraction := ok_law_fraction (w := w) (base := base) (cl := clK K) D_law_fraction m_law_fraction g_law_take g_law_product z_len z_max z_range z_tuple
  have g_law_program := ok_law_program (w := w) (base := base) (cl := clK K) D_law_program m_law_program g_law_fraction g_law_take z_range z_tuple
  have g_law_like := ok_law_like (w := w) (base := base) (cl := clK K) D_law_like m_law_like g_law_take g_law_fraction z_len
  have g_law_line := ok_law_line (w := w) (base := base) (cl := clK K) D_law_line m_law_line g_law_take z_tuple
  have g_found_powers := ok_found_powers (w := w) (base := base) (cl := clK K) D_found_powers m_found_powers z_tuple h_PRIMES
  have g_bottoms_of := ok_bottoms_of (w := w) (base := base) (cl := clK K) D_bottoms_of m_bottoms_of g_found_powers
  have g_tops_of := ok_tops_of (w := w) (base := base) (cl := clK K) D_tops_of m_tops_of g_found_powers
  have g_changes_of := ok_changes_of (w := w) (base := base) (cl := clK K) D_changes_of m_changes_of g_tops_of g_bottoms_of z_tuple z_zip
  have g_Ways_init := ok_Ways_init (w := w) (base := base) (cl := clK K) D_Ways_init mm_Ways_init mc_Ways g_bottoms_of g_changes_of c_Ways n_Ways_wants n_Ways_adds
  have g_Ways_first := ok_Ways_first (w := w) (base := base) (cl := clK K) D_Ways_first mm_Ways_first c_Ways c_Ways n_Ways_wants z_all z_enumerate z_zip
  have g_done_with := ok_done_with (w := w) (base := base) (cl := clK K) D_done_with m_done_with g_Ways_first c_Ways n_Ways_adds
  have g_both_wants := ok_both_wants (w := w) (base := base) (cl := clK K) D_both_wants m_both_wants z_max z_tuple z_zip
  have g_unlike_at := ok_unlike_at (w := w) (base := base) (cl := clK K) D_unlike_at m_unlike_at g_Ways_init g_done_with g_both_wants c_Ways n_Ways_wants z_list
  have g_is_within := ok_is_within (w := w) (base := base) (cl := clK K) D_is_within m_is_within z_all z_zip
  have g_idle := ok_idle (w := w) (base := base) (cl := clK K) D_idle m_idle g_Ways_init g_is_within c_Ways n_Ways_wants z_any z_len z_range
  have g_without_idle := ok_without_idle (w := w) (base := base) (cl := clK K) D_without_idle m_without_idle g_idle z_enumerate z_tuple
  have g_law_cell_at := ok_law_cell_at (w := w) (base := base) (cl := clK K) D_law_cell_at m_law_cell_at z_len
  have g_Ways_gone := ok_Ways_gone (w := w) (base := base) (cl := clK K) D_Ways_gone mm_Ways_gone c_Ways c_Ways n_Ways_adds z_tuple z_zip
  have g_path := ok_path (w := w) (base := base) (cl := clK K) D_path m_path g_Ways_init g_Ways_first g_Ways_gone z_len
  have g_first_places := ok_first_places (w := w) (base := base) (cl := clK K) D_first_places m_first_places z_enumerate
  have g_fate := ok_fate (w := w) (base := base) (cl := clK K) D_fate m_fate g_path g_first_places g_Ways_first g_Ways_init z_enumerate z_len
  have g_after := ok_after (w := w) (base := base) (cl := clK K) D_after m_after g_Ways_init g_Ways_first g_Ways_gone (e_AtRest base) z_range
  have g_step := ok_step (w := w) (base := base) (cl := clK K) D_step m_step g_after
  have g_first_fit := ok_first_fit (w := w) (base := base) (cl := clK K) D_first_fit m_first_fit g_Ways_first g_Ways_init
  have g_law_step_told := ok_law_step_told (w := w) (base := base) (cl := clK K) D_law_step_told m_law_step_told g_step g_first_fit
  have g_law_go_alike := ok_law_go_alike (w := w) (base := base) (cl := clK K) D_law_go_alike m_law_go_alike g_fate g_law_step_told z_range
  exact ok_law (w := w) (base := base) (cl := clK K) D_law m_law g_law_pot g_law_places g_law_program g_law_like g_law_line g_unlike_at g_without_idle g_law_cell_at g_law_go_alike g_law_step_told g_idle z_len z_max z_min z_range
theorem walk (hL : ∀ ns : List Int, ns.length ≤ 63 → ∃ h', F_law_k83 [.scr ns] [] = .ok (.bl true) h') : PySem.Challenge.rw_wholefract_k83_whole_alike_ones_go_alike.Holds := by
  w_on; o_law
  refine HandSHeadRun.head_any (r := R) (q := qv) (H := hk) (ob := ob) (M := 4410) (loose := names) (kwd := []) ob_eq (by kernel_rfl) (fun s => by kernel_rfl) run (by rfl) (by rfl) (by rfl) (by rfl) (by first | assumption | decide +kernel) (by decide +kernel) ⟨rfl, rfl, rfl, rfl, rfl, by decide +kernel⟩ ?hw ?hc
  case hw => w_witness2
  case hc =>
    refine walk_ofW (l := PySem.Challenge.rw_wholefract_k83_whole_alike_ones_go_alike) (n := 63) (k := 10) (x := "script") (F := F_law_k83) rfl (by decide) rfl ⟨rfl, by decide, by decide⟩ (fun w mg fa h Y G e => ?_) hL
    obtain ⟨K, KX, c⟩ := Y
    have ⟨fd, hb, ok⟩ := facts (w := w) KX G c e
    exact ⟨K, _, fd, KX, hb, fun base _ _ => ok base⟩
end K83
end
namespace Gd
open PySem PySem.Spec PyProof.Rows L2 Sm
theorem take_eq {h : Store} {n : Nat} {v far : Int} (p : potAt h n v) (f0 : 0 < far) (f1 : far < 2 ^ 64) : F_law_take [.loc n, .int far] h = .ok (.int (v % far)) (pst h n (v / far)) := by
  refine Out.wp_eq' (fn_wp rfl ?_)
  show (b_law_take [some (.loc n), some (.int far), none] h).wp _
  have d0 : far ≠ 0 := by omega
  have d1 : divB far = true := divB_s d0 (by omega)
  simp [b_law_take, q3_idxC p.1, d0, d1, fmod_p (Int.le_of_lt f0), fdiv_p (Int.le_of_lt f0), setP p, fnP]
theorem take_1 {h : Store} {n : Nat} {v far : Int} (hn : n < h.length) (hv : 0 ≤ v) (f0 : 0 < far) (f1 : far < 2 ^ 64) : F_law_take [.loc n, .int far] (pst h n v) = .ok (.int (v % far)) (pst h n (v / far)) := by
  rw [take_eq (potAt.old hn hv) f0 f1, pst_pst]
theorem take_2 {h l : Store} {n : Nat} {v far : Int} (hn : n < h.length) (hv : 0 ≤ v) (f0 : 0 < far) (f1 : far < 2 ^ 64) : F_law_take [.loc n, .int far] (pst h n v ++ l) = .ok (.int (v % far)) (pst h n (v / far) ++ l) := by
  rw [take_eq ((potAt.old hn hv).app l) f0 f1, pst_app2 hn]
theorem cell_eq {h : Store} {ns : List Int} {k : Int} (h0 : 0 ≤ k) : ∃ v : Int, F_law_cell_at [.scr ns, .int k] h = .ok (.int v) h := by
  by_cases hk : k < ns.length
  · have hk' : k.toNat < ns.length := by omega
    refine ⟨ns[k.toNat], Out.wp_eq' (fn_wp rfl ?_)⟩
    show (b_law_cell_at [some (.scr ns), some (.int k)] h).wp _
    simp [b_law_cell_at, hk, hk', atI_p h0, fnP]
  · refine ⟨0, Out.wp_eq' (fn_wp rfl ?_)⟩
    show (b_law_cell_at [some (.scr ns), some (.int k)] h).wp _
    simp [b_law_cell_at, hk, fnP]
theorem pot_wp {h : Store} {c : Int} : (F_law_pot [.int c] h).wp (fun t h' => t = .loc h.length ∧ ∃ v, 0 ≤ v ∧ h' = h ++ [.lst [.int v]]) (fun _ _ => False) := by
  refine fnK_wp rfl ?_
  show (b_law_pot [some (.int c), none, none, none] h).wp _
  by_cases hc : 1000000000000000000 ≤ c
  · simp [b_law_pot, fPow, hc, fnK]
  · simp (disch := first | omega | simp) [b_law_pot, fPow, hc, fnK, sFor, asR1_ok, so_seq]
    refine forLoop_wp _ (fun _ env h' => h' = h ∧ ∃ v : Int, 0 ≤ v ∧ env = [some (.int c), some (.int v), none, none]) ?_ ?_ ⟨rfl, 0, by decide, rfl⟩
    · rintro i x env h' hx ⟨rfl, v, hv, rfl⟩
      obtain ⟨rfl, hi⟩ := range_at hx
      refine ⟨by simp, _, b_one, ?_⟩
      simp (disch := first | omega | simp) [mulB_r, fmod_p]
      omega
    · rintro env h' ⟨rfl, v, hv, rfl⟩
      simp
      exact hv
theorem pot_ok {h : Store} {c : Int} {Q : T → Store → Prop} {X : Ex → Store → Prop} (q : ∀ v, 0 ≤ v → Q (.loc h.length) (h ++ [.lst [.int v]])) : (F_law_pot [.int c] h).wp Q X :=
  Out.wp_mono pot_wp (fun _ _ ⟨e, v, hv, e2⟩ => by rw [e, e2]; exact q v hv) fun _ _ z => z.elim
end Gd
namespace Gd
open PySem PySem.Spec PyProof.Rows L2 Sm
def isRow (many size : Int) (r : T) : Prop :=
  (∃ c t, 0 ≤ c ∧ c < many ∧ 0 ≤ t ∧ t ≤ size ∧ r = .tup [.str "add", .int c, .int t]) ∨ ∃ c t u, 0 ≤ c ∧ c < many ∧ 0 ≤ t ∧ t ≤ size ∧ 0 ≤ u ∧ u ≤ size ∧ r = .tup [.str "take", .int c, .int t, .int u]
theorem isRow.pu {many size : Int} {r : T} (h : isRow many size r) : r.pu = true := by
  obtain ⟨c, t, _, _, _, _, rfl⟩ | ⟨c, t, u, _, _, _, _, _, _, rfl⟩ := h <;> simp
end Gd
namespace Gd
open PySem PySem.Spec PyProof.Rows L2 Sm
end Gd
namespace Gd
open PySem PySem.Spec PyProof.Rows L2 Sm
section
variable {h h1 : Store} {env : Env'} {a d : Addr} {e : Ex} {m : M T} {b : Bool}
end
end Gd
namespace Gd
open PySem PySem.Spec PyProof.Rows L2 Sm
def strip (p n : Nat) : Nat × Nat := if h : 1 < p ∧ 0 < n ∧ n % p = 0 then ((strip p (n / p)).1 + 1, (strip p (n / p)).2) else (0, n)
termination_by n
decreasing_by all_goals exact Nat.div_lt_self h.2.1 h.1
def stripAll : List Nat → Nat → List Nat × Nat
  | [], n => ([], n)
  | p :: ps, n => ((strip p n).1 :: (stripAll ps (strip p n).2).1, (stripAll ps (strip p n).2).2)
def PR : List Nat := [2, 3, 5, 7, 11, 13, 17, 19, 23, 29]
def tN (n : Nat) : T := .int (n : Int)
theorem strip_yes {p n : Nat} (h1 : 1 < p) (h2 : 0 < n) (h3 : n % p = 0) : strip p n = ((strip p (n / p)).1 + 1, (strip p (n / p)).2) := by rw [strip, dif_pos ⟨h1, h2, h3⟩]
theorem strip_no {p n : Nat} (h3 : n % p ≠ 0) : strip p n = (0, n) := by rw [strip, dif_neg fun z => h3 z.2.2]
theorem strip_pos {p : Nat} (h1 : 1 < p) : ∀ (n : Nat), 0 < n → 0 < (strip p n).2 := by
  intro n
  induction n using Nat.strongRecOn with
  | ind n ih =>
    intro h
    by_cases h3 : n % p = 0
    · rw [strip_yes h1 h h3]
      exact ih _ (Nat.div_lt_self h h1) (Nat.div_pos (Nat.le_of_dvd h (Nat.dvd_of_mod_eq_zero h3)) (by omega))
    · rw [strip_no h3]
      exact h
theorem strip_mul {p : Nat} (h1 : 1 < p) : ∀ (n : Nat), 0 < n → n = p ^ (strip p n).1 * (strip p n).2 := by
  intro n
  induction n using Nat.strongRecOn with
  | ind n ih =>
    intro h
    by_cases h3 : n % p = 0
    · have hd := Nat.dvd_of_mod_eq_zero h3
      have e := ih _ (Nat.div_lt_self h h1) (Nat.div_pos (Nat.le_of_dvd h hd) (by omega))
      rw [strip_yes h1 h h3]
      show n = p ^ ((strip p (n / p)).1 + 1) * (strip p (n / p)).2
      rw [Nat.pow_succ, Nat.mul_comm (p ^ _) p, Nat.mul_assoc, ← e]
      exact (Nat.mul_div_cancel' hd).symm
    · rw [strip_no h3]
      simp
noncomputable def stripBody : MS := (sSeq (sSet 2 (mC (.int 0)))
  (sSeq (sWhile (mTst (mBin fEq (mBin fMod (mVar 0) (mVar 3)) (mC (.int 0)))) []
  (sSeq (sSet 0 (mBin fFdiv (mVar 0) (mVar 3)))
  (sSet 2 (mBin fAdd (mVar 2) (mC (.int 1))))))
  (sExp (mMethL fAppend (mVar 1) (mCons (mVar 2) mNil)))))
theorem strip_step {n p m : Nat} {h : Store} {acc : List T} {o : Option T} {P : Pst} (n0 : 0 < n) (p1 : 1 < p) (p2 : p < 2 ^ 64) (hm : h.length = m) (ha : acc.length < 1000)
    (q : P.nx [some (tN (strip p n).2), some (.loc m), some (tN (strip p n).1), some (tN p)] (h ++ [.lst (acc ++ [tN (strip p n).1])])) : (stripBody [some (tN n), some (.loc m), o, some (tN p)] (h ++ [.lst acc])).wp P := by
  simp only [stripBody, q2_seq, q2_set, q1_C, bindE_ok, seq_nx, List.set_cons_succ, List.set_cons_zero, so_seq, sWhile, drop_nil, tN]
  refine whileL_wp (fun k env h' => ∃ (k1 e : Nat), k1 = k ∧ 0 < k1 ∧ h' = h ++ [.lst acc] ∧ env = [some (.int (k1 : Int)), some (.loc m), some (.int (e : Int)), some (.int (p : Int))] ∧ e + (strip p k1).1 = (strip p n).1 ∧ (strip p k1).2 = (strip p n).2) ?_ n ⟨n, 0, rfl, n0, rfl, rfl, Nat.zero_add _, rfl⟩
  rintro k env h' ⟨k1, e, rfl, k0, rfl, rfl, e1, e2⟩
  have pn : ¬ p = 0 := by omega
  have dv : divB (p : Int) = true := divB_s (by omega) (by omega)
  obtain ⟨r, hr⟩ : ∃ r, r = k1 % p := ⟨_, rfl⟩
  obtain ⟨d, hd⟩ : ∃ d, d = k1 / p := ⟨_, rfl⟩
  have em : ((k1 : Int).fmod (p : Int)) = (r : Int) := by rw [fmod_p (by omega), hr]; rfl
  have ed : ((k1 : Int).fdiv (p : Int)) = (d : Int) := by rw [fdiv_p (by omega), hd]; rfl
  by_cases hz : r = 0
  · simp [em, ed, hz, pn, dv]
    have hz' : k1 % p = 0 := by rw [← hr]; exact hz
    rw [strip_yes p1 k0 hz', ← hd] at e1 e2
    exact ⟨d, by rw [hd]; exact Nat.div_lt_self k0 p1, by rw [hd]; exact Nat.div_pos (Nat.le_of_dvd k0 (Nat.dvd_of_mod_eq_zero hz')) (by omega), e + 1, ⟨rfl, rfl⟩, by simp at e1; omega, e2⟩
  · have hz' : k1 % p ≠ 0 := by rw [← hr]; exact hz
    rw [strip_no hz'] at e1 e2
    simp [em, hz, pn, at_end hm]
    simp at e1 e2
    rw [e_append hm (by omega) rfl, e1, e2]
    exact q
theorem stripAll_len : ∀ (ps : List Nat) (n : Nat), (stripAll ps n).1.length = ps.length
  | [], _ => rfl
  | p :: ps, n => by simp [stripAll, stripAll_len ps]
theorem strip_loop {n m : Nat} {h : Store} {P : Pst} {ps : List Nat} (n0 : 0 < n) (hp : ∀ p ∈ ps, 1 < p ∧ p < 2 ^ 64) (hl : ps.length < 1000) (hm : h.length = m)
    (q : 0 < (stripAll ps n).2 → P.nx [some (tN (stripAll ps n).2), some (.loc m), none, none] (h ++ [.lst ((stripAll ps n).1.map tN)])) :
    (forLoop [] (.one 3) [2, 3] stripBody (ps.map tN) [some (tN n), some (.loc m), none, none] (h ++ [.lst []])).wp P := by
  refine forLoop_wp _ (fun i env h' => ∃ (k : Nat) (es : List Nat), 0 < k ∧ i ≤ ps.length ∧ es.length = i ∧ env = [some (tN k), some (.loc m), none, none] ∧ h' = h ++ [.lst (es.map tN)] ∧ es ++ (stripAll (ps.drop i) k).1 = (stripAll ps n).1 ∧ (stripAll (ps.drop i) k).2 = (stripAll ps n).2) ?_ ?_ ⟨n, [], n0, Nat.zero_le _, rfl, rfl, rfl, rfl, rfl⟩
  · rintro i x env h' hx ⟨k, es, k0, hi, hes, rfl, rfl, e1, e2⟩
    rw [List.getElem?_map, Option.map_eq_some_iff] at hx
    obtain ⟨p, hpi, rfl⟩ := hx
    have il : i < ps.length := (List.getElem?_eq_some_iff.mp hpi).1
    obtain ⟨p1, p2⟩ := hp p (List.mem_of_getElem? hpi)
    refine ⟨by simp, _, b_one, ?_⟩
    have dr : ps.drop i = p :: ps.drop (i + 1) := by rw [List.drop_eq_getElem_cons il]; congr 1; exact (List.getElem?_eq_some_iff.mp hpi).2
    rw [dr] at e1 e2
    simp only [stripAll] at e1 e2
    show (stripBody [some (tN k), some (.loc m), none, some (tN p)] _).wp _
    refine strip_step k0 p1 p2 hm (by rw [List.length_map]; omega) ?_
    exact ⟨(strip p k).2, es ++ [(strip p k).1], strip_pos p1 k k0, il, by simp [hes], rfl, by simp, by rw [← e1]; simp, e2⟩
  · rintro env h' ⟨k, es, k0, hi, hes, rfl, rfl, e1, e2⟩
    rw [List.length_map, List.drop_length] at e1 e2
    simp only [stripAll, List.append_nil] at e1 e2
    refine ⟨by simp, ?_⟩
    rw [e1, e2]
    exact q (by rw [← e2]; exact k0)
theorem PR_ok : ∀ p ∈ PR, 1 < p ∧ p < 2 ^ 64 := by decide
def fullT (n : Nat) : T := if (stripAll PR n).2 = 1 then .tup ((stripAll PR n).1.map tN) else .non
@[simp] theorem pus_tN {es : List Nat} : pus (es.map tN) = true := pus_iff.mpr fun x hx => by
  obtain ⟨n, _, rfl⟩ := List.mem_map.mp hx
  rfl
theorem found_eq {h : Store} {n : Nat} (n0 : 0 < n) : F_found_powers [tN n] h = .ok (fullT n) h := by
  refine Out.wp_eq' (fn_wp rfl ?_)
  show (b_found_powers [some (tN n), none, none, none] h).wp _
  have tp : t_PRIMES = .tup (PR.map tN) := rfl
  simp only [b_found_powers, q2_seq, q2_set, q1_cell, q1_lst, q1_nil, bind_ok, List.length_nil, Nat.zero_le, if_true, pus_nil, bindE_ok, seq_nx, List.set_cons_succ, List.set_cons_zero, sFor, q1_seqS, q1_C, tp, asS_tup, drop_cons, drop_nil, so_seq]
  refine strip_loop (ps := PR) n0 PR_ok (by decide) rfl fun r0 => ?_
  by_cases r1 : (stripAll PR n).2 = 1
  · simp [r1, tN, e_tup, fnP, fullT]
  · have r2 : ¬ ((stripAll PR n).2 : Int) = 1 := by omega
    simp [r1, r2, tN, e_tup, fnP, fullT]
theorem primes_eq {h : Store} : F_law_primes [] h = .ok (.tup (PR.map tN)) h := by
  refine Out.wp_eq' (fn_wp rfl ?_)
  show (b_law_primes [] h).wp _
  simp [b_law_primes, fnP, PR, tN]
theorem mem_pos : ∀ {ps : List Nat} {n : Nat}, (∀ p ∈ ps, 1 < p) → ps.Pairwise Nat.Coprime → 0 < n → ∀ (i p : Nat), ps[i]? = some p → p ∣ n → ∀ e : Nat, (stripAll ps n).1[i]? = some e → 0 < e := by
  intro ps
  induction ps with
  | nil => intro n _ _ _ i p h; simp at h
  | cons q ps ih =>
    intro n hp hc n0 i p h hd e he
    have q1 := hp q (List.mem_cons_self ..)
    cases i with
    | zero =>
      simp only [List.getElem?_cons_zero, Option.some.injEq] at h
      subst h
      simp only [stripAll, List.getElem?_cons_zero, Option.some.injEq] at he
      rw [strip_yes q1 n0 (Nat.mod_eq_zero_of_dvd hd)] at he
      simp only at he
      omega
    | succ i =>
      simp only [List.getElem?_cons_succ] at h
      simp only [stripAll, List.getElem?_cons_succ] at he
      have pm : p ∈ ps := List.mem_of_getElem? h
      refine ih (fun x hx => hp x (List.mem_cons_of_mem _ hx)) (List.pairwise_cons.mp hc).2 (strip_pos q1 n n0) i p h ?_ e he
      have cop : Nat.Coprime p (q ^ (strip q n).1) := Nat.Coprime.pow_right _ ((List.pairwise_cons.mp hc).1 p pm).symm
      rw [strip_mul q1 n n0] at hd
      exact cop.dvd_of_dvd_mul_left hd
theorem pos_mem : ∀ {ps : List Nat} {n : Nat}, (∀ p ∈ ps, 1 < p) → 0 < n → ∀ (i p : Nat), ps[i]? = some p → ∀ e : Nat, (stripAll ps n).1[i]? = some e → 0 < e → p ∣ n := by
  intro ps
  induction ps with
  | nil => intro n _ _ i p h; simp at h
  | cons q ps ih =>
    intro n hp n0 i p h e he e0
    have q1 := hp q (List.mem_cons_self ..)
    cases i with
    | zero =>
      simp only [List.getElem?_cons_zero, Option.some.injEq] at h
      subst h
      simp only [stripAll, List.getElem?_cons_zero, Option.some.injEq] at he
      by_cases h3 : n % q = 0
      · exact Nat.dvd_of_mod_eq_zero h3
      · rw [strip_no h3] at he
        simp only at he
        omega
    | succ i =>
      simp only [List.getElem?_cons_succ] at h
      simp only [stripAll, List.getElem?_cons_succ] at he
      have := ih (fun x hx => hp x (List.mem_cons_of_mem _ hx)) (strip_pos q1 n n0) i p h e he e0
      rw [strip_mul q1 n n0]
      exact Nat.dvd_trans this (Nat.dvd_mul_left _ _)
theorem cop_one : ∀ {ps : List Nat} {n g : Nat}, (∀ p ∈ ps, 1 < p) → 0 < n → (stripAll ps n).2 = 1 → g ∣ n → (∀ p ∈ ps, Nat.Coprime g p) → g = 1 := by
  intro ps
  induction ps with
  | nil =>
    intro n g _ n0 r hd _
    simp only [stripAll] at r
    subst r
    exact Nat.dvd_one.mp hd
  | cons q ps ih =>
    intro n g hp n0 r hd hc
    have q1 := hp q (List.mem_cons_self ..)
    simp only [stripAll] at r
    refine ih (fun x hx => hp x (List.mem_cons_of_mem _ hx)) (strip_pos q1 n n0) r ?_ fun p hpp => hc p (List.mem_cons_of_mem _ hpp)
    have cop : Nat.Coprime g (q ^ (strip q n).1) := Nat.Coprime.pow_right _ (hc q (List.mem_cons_self ..))
    rw [strip_mul q1 n n0] at hd
    exact cop.dvd_of_dvd_mul_left hd
theorem PR_pair : PR.Pairwise Nat.Coprime := by decide
theorem PR_prime {p g : Nat} (hp : p ∈ PR) (h : ¬ p ∣ g) : Nat.Coprime g p := by
  have d1 : Nat.gcd g p ∣ p := Nat.gcd_dvd_right ..
  have div : ∀ p ∈ PR, ∀ d, d ≤ p → d ∣ p → d = 1 ∨ d = p := by decide
  have p0 := PR_ok p hp
  rcases div p hp _ (Nat.le_of_dvd (by omega) d1) d1 with e | e
  · exact e
  · exact absurd (by rw [← e]; exact Nat.gcd_dvd_left ..) h
end Gd
namespace Gd
open PySem PySem.Spec PyProof.Rows L2 Sm
def upto (t : T) (a b : Int) : Bool := match t with
  | .int i => decide (a ≤ i) && decide (i ≤ b)
  | _ => false
def full (n : Nat) : Bool := (stripAll PR n).2 == 1
def apart : List Nat → List Nat → Bool
  | x :: xs, y :: ys => (x == 0 || y == 0) && apart xs ys
  | _, _ => true
theorem apart_iff : ∀ {xs ys : List Nat}, apart xs ys = true ↔ ∀ (i x y : Nat), xs[i]? = some x → ys[i]? = some y → x = 0 ∨ y = 0
  | [], ys => by simp [apart]
  | x :: xs, [] => by simp [apart]
  | x :: xs, y :: ys => by
    rw [apart, Bool.and_eq_true, apart_iff]
    constructor
    · rintro ⟨a, b⟩ i u v hu hv
      cases i with
      | zero => cases hu; cases hv; simpa using a
      | succ i => exact b i u v hu hv
    · exact fun z => ⟨by simpa using z 0 x y rfl rfl, fun i u v hu hv => z (i + 1) u v hu hv⟩
theorem apart_gcd {a b : Nat} (a0 : 0 < a) (b0 : 0 < b) (fa : full a = true) : apart (stripAll PR a).1 (stripAll PR b).1 = decide (Nat.gcd a b = 1) := by
  have p1 : ∀ p ∈ PR, 1 < p := fun p hp => (PR_ok p hp).1
  by_cases g : Nat.gcd a b = 1
  · rw [decide_eq_true g, apart_iff]
    intro i x y hx hy
    by_cases x0 : x = 0
    · exact .inl x0
    · by_cases y0 : y = 0
      · exact .inr y0
      · have il : i < PR.length := by
          have := (List.getElem?_eq_some_iff.mp hx).1
          rwa [stripAll_len] at this
        have hp : PR[i]? = some PR[i] := List.getElem?_eq_getElem il
        have d1 := pos_mem p1 a0 i _ hp x hx (by omega)
        have d2 := pos_mem p1 b0 i _ hp y hy (by omega)
        have d3 := Nat.dvd_gcd d1 d2
        rw [g] at d3
        have := Nat.dvd_one.mp d3
        have := p1 _ (List.mem_of_getElem? hp)
        omega
  · rw [decide_eq_false g]
    refine Bool.eq_false_iff.mpr fun z => g ?_
    rw [apart_iff] at z
    refine cop_one p1 a0 (by simpa [full] using fa) (Nat.gcd_dvd_left a b) fun p hp => ?_
    refine PR_prime hp fun hd => ?_
    obtain ⟨i, hi, e⟩ := List.getElem_of_mem hp
    have hpi : PR[i]? = some p := by rw [List.getElem?_eq_getElem hi, e]
    have la : i < (stripAll PR a).1.length := by rw [stripAll_len]; exact hi
    have lb : i < (stripAll PR b).1.length := by rw [stripAll_len]; exact hi
    have u := mem_pos p1 PR_pair a0 i p hpi (Nat.dvd_trans hd (Nat.gcd_dvd_left ..)) _ (List.getElem?_eq_getElem la)
    have v := mem_pos p1 PR_pair b0 i p hpi (Nat.dvd_trans hd (Nat.gcd_dvd_right ..)) _ (List.getElem?_eq_getElem lb)
    rcases z i _ _ (List.getElem?_eq_getElem la) (List.getElem?_eq_getElem lb) with q | q <;> omega
def fracB (t : T) : Bool := match t with
  | .tup [.int x, .int y] => upto (.int x) 1 1000000000000 && upto (.int y) 1 1000000000000 && full x.toNat && full y.toNat && decide (Nat.gcd x.toNat y.toNat = 1)
  | _ => false
theorem zip_pairs2 : ∀ {es fs : List Nat}, List.zipWith (fun a b => pairT (tN a) (tN b)) es fs = (es.zip fs).map fun p => T.tup [tN p.1, tN p.2]
  | [], _ => by simp
  | _ :: _, [] => by simp
  | x :: r, y :: s => by
    rw [List.zipWith_cons_cons, List.zip_cons_cons, List.map_cons, zip_pairs2]
    rfl
end Gd
namespace Gd
open PySem PySem.Spec PyProof.Rows L2 Sm
def prodOf : List Nat → List Nat → Nat
  | p :: ps, e :: es => p ^ e * prodOf ps es
  | _, _ => 1
theorem strip_pow {p m : Nat} (h1 : 1 < p) (m0 : 0 < m) (hm : ¬ p ∣ m) : ∀ e : Nat, strip p (p ^ e * m) = (e, m) := by
  intro e
  induction e with
  | zero =>
    rw [Nat.pow_zero, Nat.one_mul]
    exact strip_no fun z => hm (Nat.dvd_of_mod_eq_zero z)
  | succ e ih =>
    have hd : p ^ (e + 1) * m = p * (p ^ e * m) := by rw [Nat.pow_succ, Nat.mul_comm (p ^ e) p, Nat.mul_assoc]
    have hp : 0 < p ^ e * m := Nat.mul_pos (Nat.pow_pos (by omega)) m0
    rw [hd, strip_yes h1 (Nat.mul_pos (by omega) hp) (Nat.mul_mod_right ..), Nat.mul_div_cancel_left _ (by omega), ih]
theorem prodOf_pos : ∀ {ps es : List Nat}, (∀ p ∈ ps, 1 < p) → 0 < prodOf ps es
  | [], _, _ => Nat.one_pos
  | p :: ps, [], _ => Nat.one_pos
  | p :: ps, e :: es, h => Nat.mul_pos (Nat.pow_pos (by have := h p (List.mem_cons_self ..); omega)) (prodOf_pos fun x hx => h x (List.mem_cons_of_mem _ hx))
theorem prodOf_cop : ∀ {ps es : List Nat} {q : Nat}, (∀ p ∈ ps, Nat.Coprime q p) → Nat.Coprime q (prodOf ps es)
  | [], _, q, _ => Nat.coprime_one_right q
  | p :: ps, [], q, _ => Nat.coprime_one_right q
  | p :: ps, e :: es, q, h => Nat.Coprime.mul_right (Nat.Coprime.pow_right _ (h p (List.mem_cons_self ..))) (prodOf_cop fun x hx => h x (List.mem_cons_of_mem _ hx))
theorem strip_prod : ∀ {ps es : List Nat}, (∀ p ∈ ps, 1 < p) → ps.Pairwise Nat.Coprime → es.length = ps.length → stripAll ps (prodOf ps es) = (es, 1)
  | [], [], _, _, _ => rfl
  | p :: ps, e :: es, h, hc, hl => by
    have p1 := h p (List.mem_cons_self ..)
    have hp := fun x hx => h x (List.mem_cons_of_mem _ hx)
    have cop : Nat.Coprime p (prodOf ps es) := prodOf_cop (List.pairwise_cons.mp hc).1
    have nd : ¬ p ∣ prodOf ps es := fun z => by
      have := Nat.Coprime.eq_one_of_dvd cop z
      omega
    have s : strip p (prodOf (p :: ps) (e :: es)) = (e, prodOf ps es) := strip_pow p1 (prodOf_pos hp) nd e
    simp only [stripAll, s, strip_prod hp (List.pairwise_cons.mp hc).2 (by simpa using hl)]
theorem prodOf_le : ∀ {ps es : List Nat} {b : Nat}, (∀ p ∈ ps, p ≤ b) → 0 < b → prodOf ps es ≤ b ^ es.sum
  | [], _, b, _, hb => Nat.pow_pos hb
  | p :: ps, [], b, _, hb => Nat.pow_pos hb
  | p :: ps, e :: es, b, h, hb => by
    rw [List.sum_cons, Nat.pow_add]
    exact Nat.mul_le_mul (Nat.pow_le_pow_left (h p (List.mem_cons_self ..)) e) (prodOf_le (fun x hx => h x (List.mem_cons_of_mem _ hx)) hb)
theorem asN_ok {e : Nat} (ee : e < 1000) {h' : Store} : asR1 [tN e] h' = .ok ⟨Sm.rangeT 0 (e : Int).toNat, []⟩ h' := asR1_ok (by omega) (by omega)
theorem range1_of {r : M (List T)} {env : Env'} {h : Store} {e : Nat} (er : r env h = .ok [tN e] h) (ee : e < 1000) : mRange1 r env h = .ok ⟨Sm.rangeT 0 (e : Int).toNat, []⟩ h := by
  rw [q1_range1, er, bind_ok]
  exact asN_ok ee
theorem sFor_of {src : M Src} {tg : Tgt} {kl : List Nat} {b : MS} {env : Env'} {h h1 : Store} {s : Src} (e : src env h = .ok s h1) : sFor src tg kl b env h = forLoop s.gs tg kl b s.items (dropE kl env) h1 := by
  unfold sFor
  rw [e, bindE_ok]
theorem mulN {x : Int} {p : Nat} (h : p < 2 ^ 64) : mulB x (p : Int) = true := mulB_r (by omega)
theorem prod_loop {ps es : List Nat} {h : Store} {P : Pst} (hp : ∀ p ∈ ps, p < 2 ^ 64) (hl : es.length = ps.length) (he : ∀ e ∈ es, e < 1000)
    (q : P.nx [none, some (tN (prodOf ps es)), none, none, none] h) :
    (forLoop [] (.tup [3, 2]) [0, 2, 3, 4] (sFor (mRange1 (mCons (mVar 2) mNil)) (.one 4) [0, 2, 4] (sSet 1 (mBin fMul (mVar 1) (mVar 3)))) ((ps.zip es).map fun p => T.tup [tN p.1, tN p.2]) [none, some (.int 1), none, none, none] h).wp P := by
  refine forLoop_wp _ (fun i env h' => i ≤ ps.length ∧ h' = h ∧ ∃ k : Nat, env = [none, some (tN k), none, none, none] ∧ k * prodOf (ps.drop i) (es.drop i) = prodOf ps es) ?_ ?_ ⟨Nat.zero_le _, rfl, 1, rfl, by simp⟩
  · rintro i x env h' hx ⟨hi, rfl, k, rfl, ek⟩
    rw [List.getElem?_map, Option.map_eq_some_iff] at hx
    obtain ⟨⟨p, e⟩, hz, rfl⟩ := hx
    rw [List.getElem?_zip_eq_some] at hz
    obtain ⟨h1, h2⟩ := hz
    have il : i < ps.length := (List.getElem?_eq_some_iff.mp h1).1
    have il2 : i < es.length := (List.getElem?_eq_some_iff.mp h2).1
    have pe := hp p (List.mem_of_getElem? h1)
    have ee := he e (List.mem_of_getElem? h2)
    refine ⟨by simp, _, b_tup, ?_⟩
    have dr : ps.drop i = p :: ps.drop (i + 1) := by rw [List.drop_eq_getElem_cons il]; congr 1; exact (List.getElem?_eq_some_iff.mp h1).2
    have ds : es.drop i = e :: es.drop (i + 1) := by rw [List.drop_eq_getElem_cons il2]; congr 1; exact (List.getElem?_eq_some_iff.mp h2).2
    rw [dr, ds] at ek
    simp only [prodOf] at ek
    have e0 : setT [3, 2] [tN p, tN e] [none, some (tN k), none, none, none] = [none, some (tN k), some (tN e), some (tN p), none] := rfl
    dsimp only
    rw [e0]
    rw [sFor_of (range1_of (r := mCons (mVar 2) mNil) (e := e) rfl ee)]
    simp only [drop_cons, drop_nil, List.set_cons_succ, List.set_cons_zero]
    refine forLoop_wp _ (fun j env h2 => h2 = h' ∧ env = [none, some (tN (k * p ^ j)), none, some (tN p), none]) ?_ ?_ ⟨rfl, by simp⟩
    · rintro j y env h2 hy ⟨rfl, rfl⟩
      obtain ⟨rfl, hj⟩ := range_at hy
      refine ⟨by simp, _, b_one, ?_⟩
      have mb : mulB ((k * p ^ j : Nat) : Int) (p : Int) = true := mulN pe
      obtain ⟨w, hw⟩ : ∃ w, w = k * p ^ j := ⟨_, rfl⟩
      rw [← hw] at mb ⊢
      simp [tN, mb]
      rw [hw]
      simp [Int.pow_succ, Int.mul_assoc]
    · rintro env h2 ⟨rfl, rfl⟩
      refine ⟨by simp, ?_⟩
      rw [Sm.rangeT_length]
      refine ⟨il, rfl, k * p ^ e, by simp [tN], ?_⟩
      rw [Nat.mul_assoc]
      exact ek
  · rintro env h' ⟨hi, rfl, k, rfl, ek⟩
    refine ⟨by simp, ?_⟩
    rw [List.length_map, List.length_zip, hl, Nat.min_self, List.drop_length] at ek
    rw [show prodOf [] (es.drop ps.length) = 1 from rfl, Nat.mul_one] at ek
    rw [ek]
    exact q
theorem product_eq {h : Store} {es : List Nat} (hl : es.length = 10) (he : ∀ e ∈ es, e < 1000) : F_law_product [.tup (es.map tN)] h = .ok (tN (prodOf PR es)) h := by
  refine Out.wp_eq' (fn_wp rfl ?_)
  show (b_law_product [some (.tup (es.map tN)), none, none, none, none] h).wp _
  simp [b_law_product, sFor, so_seq, mZip, primes_eq, seqK, gdOf, zip_pairs2]
  refine prod_loop (ps := PR) (fun p hp => (PR_ok p hp).2) (by rw [hl]; rfl) he ?_
  simp [fnP, tN]
end Gd
namespace Gd
open PySem PySem.Spec PyProof.Rows L2 Sm
def posS (xs : List Int) : Nat := (xs.map Int.toNat).sum
def negS (xs : List Int) : Nat := (xs.map fun x => (-x).toNat).sum
theorem sum_set (f : Int → Nat) : ∀ {xs : List Int} {i : Nat} {x v : Int}, xs[i]? = some x → ((xs.set i v).map f).sum + f x = (xs.map f).sum + f v
  | [], _, _, _, h => by simp at h
  | y :: r, 0, x, v, h => by
    simp only [List.getElem?_cons_zero, Option.some.injEq] at h
    subst h
    simp only [List.set_cons_zero, List.map_cons, List.sum_cons]
    omega
  | y :: r, i + 1, x, v, h => by
    simp only [List.getElem?_cons_succ] at h
    have ih := sum_set f (v := v) h
    simp only [List.set_cons_succ, List.map_cons, List.sum_cons]
    omega
theorem pos_up {xs : List Int} {i : Nat} {x : Int} (h : xs[i]? = some x) : posS (xs.set i (x + 1)) ≤ posS xs + 1 ∧ negS (xs.set i (x + 1)) ≤ negS xs := by
  have a := sum_set Int.toNat (v := x + 1) h
  have b := sum_set (fun x => (-x).toNat) (v := x + 1) h
  unfold posS negS
  constructor <;> omega
theorem neg_up {xs : List Int} {i : Nat} {x : Int} (h : xs[i]? = some x) : negS (xs.set i (x - 1)) ≤ negS xs + 1 ∧ posS (xs.set i (x - 1)) ≤ posS xs := by
  have a := sum_set Int.toNat (v := x - 1) h
  have b := sum_set (fun x => (-x).toNat) (v := x - 1) h
  unfold posS negS
  constructor <;> omega
theorem place_at {ps : List Nat} {w : Int} (hw : 0 ≤ w) (h0 : ps ≠ []) (hp : ∀ p ∈ ps, p < 10) : ∃ p : Nat, p < 10 ∧ atI (ps.map tN) (w % ((ps.map tN).length : Nat)) = some (tN p) := by
  have l0 : 0 < ps.length := List.length_pos_iff.mpr h0
  have hl : (ps.map tN).length = ps.length := List.length_map ..
  have a := Int.emod_nonneg w (show (((ps.map tN).length : Nat) : Int) ≠ 0 by omega)
  have b := Int.emod_lt_of_pos w (show (0 : Int) < (((ps.map tN).length : Nat) : Int) by omega)
  obtain ⟨x, ex, mx⟩ := atI_mem a b
  obtain ⟨p, mp, rfl⟩ := List.mem_map.mp mx
  exact ⟨p, hp p mp, ex⟩
theorem frac_loop {h : Store} {n : Nat} {ps : List Nat} {v : Int} {k : Nat} {d : Int} (f : F2) (P : Pst) (hn : n < h.length) (h0 : ps ≠ []) (h9 : ps.length < 1000) (hp : ∀ p ∈ ps, p < 10) (hv : 0 ≤ v) (hk : k < 1000) (xs0 : List Int) (hl0 : xs0.length = 10)
    (hf : ∀ x : Int, ∀ h, f (.int x) (.int 1) h = some (.int (x + d))) (J : List Int → Nat → Prop) (j0 : J xs0 0) (js : ∀ xs i pl x, J xs i → xs[pl]? = some x → J (xs.set pl (x + d)) (i + 1))
    (q : ∀ w xs, 0 ≤ w → xs.length = 10 → J xs k → P.nx [some (.loc n), some (.tup (ps.map tN)), some (.loc h.length), none, none, none, none, none] (pst h n w ++ [.lst (xs.map T.int)])) :
    (forLoop [] (.one 4) [3, 4, 5, 6] (sSeq (sSet 3 (mBin fIdx (mVar 1) (mCall F_law_take (mCons (mVar 0) (mCons (mCallF fLen (mCons (mVar 1) mNil)) mNil))))) (sItem (mBin f (mBin fIdx (mVar 2) (mVar 3)) (mC (.int 1))) (mVar 2) (mVar 3))) (Sm.rangeT 0 k)
      [some (.loc n), some (.tup (ps.map tN)), some (.loc h.length), none, none, none, none, none] (pst h n v ++ [.lst (xs0.map T.int)])).wp P := by
  refine forLoop_wp _ (fun i env h' => ∃ w xs, 0 ≤ w ∧ h' = pst h n w ++ [.lst (xs.map T.int)] ∧ xs.length = 10 ∧ J xs i ∧ env = [some (.loc n), some (.tup (ps.map tN)), some (.loc h.length), none, none, none, none, none]) ?_ ?_ ⟨v, xs0, hv, rfl, hl0, j0, rfl⟩
  · rintro i x env h' hx ⟨w, xs, hw, rfl, hl, hj, rfl⟩
    obtain ⟨rfl, hi⟩ := range_at hx
    obtain ⟨p, p9, ep⟩ := place_at hw h0 hp
    have l0 : 0 < ps.length := List.length_pos_iff.mpr h0
    have lm : (ps.map tN).length = ps.length := List.length_map ..
    have w1 : 0 ≤ w / ((ps.map tN).length : Nat) := Int.ediv_nonneg hw (by omega)
    have hpx : p < xs.length := by omega
    have ex : xs[p]? = some xs[p] := List.getElem?_eq_getElem hpx
    have ei : atI (xs.map T.int) (p : Int) = some (.int xs[p]) := by rw [atI_p (by omega) (by rw [List.length_map]; omega), List.getElem?_map]; simp [hpx]
    refine ⟨by simp, _, b_one, ?_⟩
    have tk := take_2 (h := h) (l := [.lst (xs.map T.int)]) (n := n) (v := w) (far := ((ps.map tN).length : Nat)) hn hw (by omega) (by omega)
    simp only [q2_seq, q2_set, q1_bin, q1_var, q1_call, q1_cons, q1_nil, q1_callF, List.getElem?_cons_zero, List.getElem?_cons_succ, List.set_cons_succ, List.set_cons_zero, bind_ok, q3_len, ofO_some, tk, q3_idx, ep, bindE_ok, seq_nx, q2_item, q1_C]
    rw [show fIdx (.loc h.length) (tN p) (pst h n (w / ((ps.map tN).length : Nat)) ++ [.lst (xs.map T.int)]) = some (.int xs[p]) from (e_idx pst_len).trans ei]
    simp only [ofO_some, bind_ok, hf, bindE_ok]
    show (setC (pst h n _ ++ [.lst (xs.map T.int)]) h.length (p : Int) (.int (xs[p] + d)) _).wp _
    rw [e_set pst_len (by omega) (by rw [List.length_map]; omega) rfl]
    refine ⟨_, xs.set p (xs[p] + d), w1, ?_, by rw [List.length_set]; exact hl, js xs i p _ hj ex, by simp⟩
    rw [Int.toNat_natCast, List.map_set]
  · rintro env h' ⟨w, xs, hw, rfl, hl, hj, rfl⟩
    rw [Sm.rangeT_length] at hj
    exact ⟨by simp, q w xs hw hl hj⟩
end Gd
namespace Gd
open PySem PySem.Spec PyProof.Rows L2 Sm
theorem pst_self {h : Store} {n : Nat} {v : Int} (p : potAt h n v) : pst h n v = h := by
  unfold pst
  obtain ⟨hn, e⟩ := List.getElem?_eq_some_iff.mp p.1
  rw [← e]
  exact List.set_getElem_self hn
theorem range_of {r : M (List T)} {env : Env'} {h h1 : Store} {e : Nat} (er : r env h = .ok [tN e] h1) (ee : e < 1000) : mRange1 r env h = .ok ⟨Sm.rangeT 0 e, []⟩ h1 := by
  rw [q1_range1, er, bind_ok]
  have := asN_ok ee (h' := h1)
  rw [Int.toNat_natCast] at this
  exact this
theorem asS_loc {h : Store} {n : Nat} {xs : List T} (e : h[n]? = some (.lst xs)) : asS (.loc n) h = .ok ⟨xs, [(n, xs)]⟩ h := by
  simp [asS, seqK, gdOf, e]
theorem single_le_sum : ∀ {es : List Nat} {e : Nat}, e ∈ es → e ≤ es.sum
  | x :: r, e, h => by
    rw [List.sum_cons]
    rcases List.mem_cons.mp h with q | q
    · omega
    · have := single_le_sum q
      omega
def tops (xs : List Int) : List Nat := xs.map Int.toNat
def bots (xs : List Int) : List Nat := xs.map fun x => (-x).toNat
theorem tops_apart : ∀ xs : List Int, apart (tops xs) (bots xs) = true
  | [] => rfl
  | x :: r => by
    show ((x.toNat == 0 || (-x).toNat == 0) && apart (tops r) (bots r)) = true
    rw [tops_apart r, Bool.and_true, Bool.or_eq_true, beq_iff_eq, beq_iff_eq]
    omega
theorem PR29 : ∀ p ∈ PR, p ≤ 29 := by decide
theorem prod_bound {es : List Nat} (hs : es.sum ≤ 3) : 1 ≤ prodOf PR es ∧ prodOf PR es ≤ 24389 := by
  refine ⟨prodOf_pos fun p hp => (PR_ok p hp).1, ?_⟩
  have a := prodOf_le (es := es) PR29 (by omega)
  have b : 29 ^ es.sum ≤ 29 ^ 3 := Nat.pow_le_pow_right (by omega) hs
  omega
theorem frac_good {xs : List Int} (hl : xs.length = 10) (a : posS xs ≤ 3) (b : negS xs ≤ 3) : fracB (.tup [tN (prodOf PR (tops xs)), tN (prodOf PR (bots xs))]) = true := by
  have p1 : ∀ p ∈ PR, 1 < p := fun p hp => (PR_ok p hp).1
  have la : (tops xs).length = PR.length := by rw [tops, List.length_map, hl]; rfl
  have lb : (bots xs).length = PR.length := by rw [bots, List.length_map, hl]; rfl
  have sa := strip_prod p1 PR_pair la
  have sb := strip_prod p1 PR_pair lb
  have ba := prod_bound (es := tops xs) a
  have bb := prod_bound (es := bots xs) b
  have fa : full (prodOf PR (tops xs)) = true := by simp [full, sa]
  have fb : full (prodOf PR (bots xs)) = true := by simp [full, sb]
  have g := apart_gcd (a := prodOf PR (tops xs)) (b := prodOf PR (bots xs)) (by omega) (by omega) fa
  rw [sa, sb, tops_apart] at g
  have g' := of_decide_eq_true g.symm
  have ua : upto (tN (prodOf PR (tops xs))) 1 1000000000000 = true := by
    show (decide _ && decide _) = true
    rw [decide_eq_true (by omega), decide_eq_true (by omega)]
    rfl
  have ub : upto (tN (prodOf PR (bots xs))) 1 1000000000000 = true := by
    show (decide _ && decide _) = true
    rw [decide_eq_true (by omega), decide_eq_true (by omega)]
    rfl
  show (upto (tN _) 1 _ && upto (tN _) 1 _ && full (Int.toNat _) && full (Int.toNat _) && decide (Nat.gcd (Int.toNat _) (Int.toNat _) = 1)) = true
  rw [ua, ub, Int.toNat_natCast, Int.toNat_natCast, fa, fb]
  exact decide_eq_true g'
theorem fraction_wp {h : Store} {n : Nat} {v : Int} {ps : List Nat} {Q : T → Store → Prop} {X : Ex → Store → Prop} (p : potAt h n v) (h0 : ps ≠ []) (h9 : ps.length < 1000) (hp : ∀ p ∈ ps, p < 10)
    (q : ∀ a b w, 0 ≤ w → fracB (.tup [tN a, tN b]) = true → Q (.tup [tN a, tN b]) (pst h n w)) : (F_law_fraction [.loc n, .tup (ps.map tN)] h).wp Q X := by
  refine fn_wp rfl ?_
  show (b_law_fraction [some (.loc n), some (.tup (ps.map tN)), none, none, none, none, none, none] h).wp _
  have hn := p.lt
  have v1 : 0 ≤ v / 4 := by have := p.2; omega
  have r0 : fRep (.lst [.int 0]) (.int 10) h = some ((List.replicate 10 (0 : Int)).map T.int) := rfl
  have k0 : T.int (v % 4) = tN (v % 4).toNat := by show _ = T.int _; congr 1; have := p.2; omega
  have kb : (v % 4).toNat < 1000 := by omega
  have tk0 : F_law_take [.loc n, .int 4] (h ++ [.lst ((List.replicate 10 (0 : Int)).map T.int)]) = .ok (.int (v % 4)) (pst h n (v / 4) ++ [.lst ((List.replicate 10 (0 : Int)).map T.int)]) := by
    have := take_2 (h := h) (l := [.lst ((List.replicate 10 (0 : Int)).map T.int)]) (n := n) (v := v) (far := 4) hn p.2 (by omega) (by omega)
    rwa [pst_self p] at this
  have s0 : (sSet 2 (mCell (mNew2 fRep (mFrz (mLst (mCons (mC (.int 0)) mNil))) (mC (.int 10))))) [some (.loc n), some (.tup (ps.map tN)), none, none, none, none, none, none] h
      = .nx [some (.loc n), some (.tup (ps.map tN)), some (.loc h.length), none, none, none, none, none] (h ++ [.lst ((List.replicate 10 (0 : Int)).map T.int)]) := by
    simp only [q2_set, q1_cell, q1_new2, q1_frz, q1_lst, q1_cons, q1_C, q1_nil, bind_ok, List.length_cons, List.length_nil, ofO_some]
    rw [if_pos (by decide)]
    simp only [bind_ok, r0, ofO_some, pus_ints, if_true, bindE_ok, List.set_cons_succ, List.set_cons_zero]
  unfold b_law_fraction
  rw [q2_seq, s0, seq_nx, q2_seq, so_seq]
  rw [sFor_of (range_of (e := (v % 4).toNat) (h1 := pst h n (v / 4) ++ [.lst ((List.replicate 10 (0 : Int)).map T.int)]) (by
    simp only [q1_cons, q1_call, q1_var, q1_C, q1_nil, List.getElem?_cons_zero, bind_ok, tk0, k0]) kb)]
  simp only [drop_cons, drop_nil, List.set_cons_succ, List.set_cons_zero]
  refine frac_loop fAdd _ hn h0 h9 hp v1 kb (List.replicate 10 0) rfl (d := 1) (fun x h => rfl) (fun xs i => posS xs ≤ i ∧ negS xs = 0) ⟨Nat.le_of_eq rfl, rfl⟩ (fun xs i pl x ⟨ja, jb⟩ ex => ?_) fun w xs hw hl ⟨ja, jb⟩ => ?_
  · have := pos_up ex
    exact ⟨by omega, by omega⟩
  have w1 : 0 ≤ w / 4 := by omega
  have k1 : T.int (w % 4) = tN (w % 4).toNat := by show _ = T.int _; congr 1; omega
  have kb1 : (w % 4).toNat < 1000 := by omega
  have tk1 := take_2 (h := h) (l := [.lst (xs.map T.int)]) (n := n) (v := w) (far := 4) hn hw (by omega) (by omega)
  show ((sSeq _ _) _ _).wp _
  rw [q2_seq, so_seq, sFor_of (range_of (e := (w % 4).toNat) (h1 := pst h n (w / 4) ++ [.lst (xs.map T.int)]) (by
    simp only [q1_cons, q1_call, q1_var, q1_C, q1_nil, List.getElem?_cons_zero, bind_ok, tk1, k1]) kb1)]
  simp only [drop_cons, drop_nil, List.set_cons_succ, List.set_cons_zero]
  refine frac_loop fSub _ hn h0 h9 hp w1 kb1 xs hl (d := -1) (fun x h => rfl) (fun ys i => posS ys ≤ 3 ∧ negS ys ≤ i) ⟨by omega, by omega⟩ (fun ys i pl x ⟨jc, jd⟩ ex => ?_) fun u ys hu hy ⟨jc, jd⟩ => ?_
  · have := neg_up ex
    rw [show x + -1 = x - 1 by omega]
    exact ⟨by omega, by omega⟩
  have en : (pst h n u ++ [Cell.lst (ys.map T.int)])[h.length]? = some (.lst (ys.map T.int)) := at_end pst_len
  have go : gsOk (pst h n u ++ [Cell.lst (ys.map T.int)]) [(h.length, ys.map T.int)] := by
    intro g hg
    rw [List.mem_singleton.mp hg]
    exact en
  have as_ : asS (.loc h.length) (pst h n u ++ [Cell.lst (ys.map T.int)]) = .ok ⟨ys.map T.int, [(h.length, ys.map T.int)]⟩ (pst h n u ++ [Cell.lst (ys.map T.int)]) := asS_loc en
  have c1 := compLoop_map (gs := [(h.length, ys.map T.int)]) (tg := .one 7) (me := mCallF fMax (mCons (mC (.int 0)) (mCons (mVar 7) mNil))) (env := [some (.loc n), some (.tup (ps.map tN)), some (.loc h.length), none, none, none, none, none]) (h := pst h n u ++ [.lst (ys.map T.int)]) (ys.map T.int) (fun t => match t with | .int i => tN i.toNat | _ => .non) go (by rw [List.length_map]; omega) fun x hx => by
    obtain ⟨i, _, rfl⟩ := List.mem_map.mp hx
    exact ⟨_, b_one, by simp [tN]; split <;> omega⟩
  have m1 : (ys.map T.int).map (fun t => match t with | .int i => tN i.toNat | _ => .non) = (tops ys).map tN := by
    rw [tops, List.map_map, List.map_map]
    rfl
  rw [m1] at c1
  have c2 := compLoop_map (gs := [(h.length, ys.map T.int)]) (tg := .one 7) (me := mCallF fMax (mCons (mC (.int 0)) (mCons (mBin fSub (mC (.int 0)) (mVar 7)) mNil))) (env := [some (.loc n), some (.tup (ps.map tN)), some (.loc h.length), none, none, some (.tup ((tops ys).map tN)), none, none]) (h := pst h n u ++ [.lst (ys.map T.int)]) (ys.map T.int) (fun t => match t with | .int i => tN (-i).toNat | _ => .non) go (by rw [List.length_map]; omega) fun x hx => by
    obtain ⟨i, _, rfl⟩ := List.mem_map.mp hx
    exact ⟨_, b_one, by simp [tN]; split <;> omega⟩
  have m2 : (ys.map T.int).map (fun t => match t with | .int i => tN (-i).toNat | _ => .non) = (bots ys).map tN := by
    rw [bots, List.map_map, List.map_map]
    rfl
  rw [m2] at c2
  have small : ∀ es : List Nat, es.sum ≤ 3 → ∀ e ∈ es, e < 1000 := fun es hs e he => by
    have := single_le_sum he
    omega
  have p1 := product_eq (h := pst h n u ++ [.lst (ys.map T.int)]) (es := tops ys) (by rw [tops, List.length_map, hy]) (small _ jc)
  have p2 := product_eq (h := pst h n u ++ [.lst (ys.map T.int)]) (es := bots ys) (by rw [bots, List.length_map, hy]) (small _ (by show negS ys ≤ 3; omega))
  show ((sSeq _ _) _ _).wp _
  simp only [q2_seq, q2_set, q1_callF, q1_cons, q1_nil, q1_frz, mComp, q1_seqS, q1_var, List.getElem?_cons_succ, List.getElem?_cons_zero, bind_ok, as_, drop_cons, drop_nil, List.set_cons_succ, List.set_cons_zero, c1, tup_lst, ofO_some, bindE_ok, seq_nx, c2, q2_ret, q1_tup, q1_call, p1, p2, List.length_cons, List.length_nil]
  rw [if_pos (by decide), bindE_ok, so_rt]
  exact ⟨si_pst_app, .inl ⟨rfl, by rw [take_pst_app]; exact q _ _ u hu (frac_good hy jc (by omega))⟩⟩
end Gd
namespace Gd
open PySem PySem.Spec PyProof.Rows L2 Sm
theorem e_insert {h : Store} {m : Nat} {i : Int} {y : T} {xs : List T} (e : h.length = m) (hl : xs.length < 100000) (hy : y.pu = true) (h0 : 0 ≤ i) (h1 : i < 100000) :
    outM (fInsert (.loc m) [.int i, y] (h ++ [.lst xs])) = .ok .non (h ++ [.lst (xs.take i.toNat ++ [y] ++ xs.drop i.toNat)]) := by
  have c : cellL (h ++ [.lst xs]) m = some xs := by unfold cellL; rw [at_end e]
  have : fInsert (.loc m) [.int i, y] (h ++ [.lst xs]) = some (.non, (h ++ [Cell.lst xs]).set m (.lst (xs.take i.toNat ++ [y] ++ xs.drop i.toNat))) := by
    simp only [fInsert, c]
    rw [if_pos ⟨hl, hy, h0, h1⟩]
  rw [this, set_end e]
  rfl
theorem order_wp {h : Store} {n : Nat} {v : Int} {Q : T → Store → Prop} {X : Ex → Store → Prop} (p : potAt h n v)
    (q : ∀ (ps : List Nat) w, 0 ≤ w → ps.length = 10 → (∀ p ∈ ps, p < 10) → Q (.tup (ps.map tN)) (pst h n w)) : (F_law_order [.loc n, .int 10] h).wp Q X := by
  refine fn_wp rfl ?_
  show (b_law_order [some (.loc n), some (.int 10), none, none] h).wp _
  have hn := p.lt
  simp (disch := first | omega | simp) [b_law_order, sFor, asR1_ok, so_seq]
  refine forLoop_wp _ (fun i env h' => ∃ w ps, 0 ≤ w ∧ h' = pst h n w ++ [.lst (ps.map tN)] ∧ ps.length = i ∧ (∀ p ∈ ps, p < 10) ∧ env = [some (.loc n), none, some (.loc h.length), none]) ?_ ?_ ⟨v, [], p.2, by rw [pst_self p]; rfl, rfl, by simp, rfl⟩
  · rintro i x env h' hx ⟨w, ps, hw, rfl, hl, hp, rfl⟩
    obtain ⟨rfl, hi⟩ := range_at hx
    refine ⟨by simp, _, b_one, ?_⟩
    have z : (0 : Int) + (i : Int) = (i : Int) := by omega
    rw [z]
    have tk := take_2 (h := h) (l := [.lst (ps.map tN)]) (n := n) (v := w) (far := (i : Int) + 1) hn hw (by omega) (by omega)
    have w1 : 0 ≤ w / ((i : Int) + 1) := Int.ediv_nonneg hw (by omega)
    have a := Int.emod_nonneg w (show (i : Int) + 1 ≠ 0 by omega)
    have b := Int.emod_lt_of_pos w (show (0 : Int) < (i : Int) + 1 by omega)
    have lm : (ps.map tN).length = ps.length := List.length_map ..
    simp [at_end (h := pst h n w) (m := h.length) pst_len, tk]
    rw [e_insert pst_len (by omega) rfl a (by omega)]
    simp
    refine ⟨_, w1, ps.take (w % ((i : Int) + 1)).toNat ++ [i] ++ ps.drop (w % ((i : Int) + 1)).toNat, ⟨rfl, by simp [tN]⟩, ?_, ?_⟩
    · simp
      omega
    · intro r hr
      simp only [List.mem_append, List.mem_singleton] at hr
      rcases hr with (hr | rfl) | hr
      · exact hp r (List.mem_of_mem_take hr)
      · omega
      · exact hp r (List.mem_of_mem_drop hr)
  · rintro env h' ⟨w, ps, hw, rfl, hl, hp, rfl⟩
    rw [Sm.rangeT_length] at hl
    simp [e_tup, fnP]
    exact q ps w hw hl hp
theorem places_wp {h : Store} {n : Nat} {v : Int} {Q : T → Store → Prop} {X : Ex → Store → Prop} (p : potAt h n v)
    (q : ∀ (ps : List Nat) w, 0 ≤ w → ps ≠ [] → ps.length ≤ 10 → (∀ p ∈ ps, p < 10) → Q (.tup (ps.map tN)) (pst h n w)) : (F_law_places [.loc n] h).wp Q X := by
  refine fn_wp rfl ?_
  show (b_law_places [some (.loc n), none] h).wp _
  have hn := p.lt
  have v1 : 0 ≤ v / 5 := by have := p.2; omega
  have a : 0 ≤ v % 5 ∧ v % 5 < 5 := by have := p.2; omega
  have v2 : 0 ≤ v / 5 / 2 := by omega
  by_cases hz : v / 5 % 2 = 0
  · have r0 : asR2 [.int 0, .int (1 + v % 5)] (pst h n (v / 5 / 2)) = .ok ⟨Sm.rangeT 0 (1 + v % 5 - 0).toNat, []⟩ (pst h n (v / 5 / 2)) := asR2_ok (by omega) (by omega) (by omega) (by omega)
    have e : Sm.rangeT 0 (1 + v % 5 - 0).toNat = (List.range (1 + v % 5).toNat).map tN := by
      unfold Sm.rangeT
      rw [Int.sub_zero]
      refine List.map_congr_left fun i _ => ?_
      show T.int _ = T.int _
      congr 1
      omega
    rw [e] at r0
    simp (disch := first | omega | assumption | simp) [b_law_places, take_eq p, take_1, hz, r0, fnP]
    refine q _ _ v2 ?_ (by rw [List.length_range]; omega) fun p hp => by have := List.mem_range.mp hp; omega
    intro z
    have := congrArg List.length z
    rw [List.length_range] at this
    simp at this
    omega
  · simp (disch := first | omega | assumption | simp) [b_law_places, take_eq p, take_1, hz]
    simp only [so_bindE, wp_bind]
    refine order_wp (potAt.old hn v2) fun ps w hw hl hp => ?_
    simp (disch := first | omega | assumption | simp) [cut_to, fnP]
    have e : (ps.map tN).take (1 + v % 5).toNat = (ps.take (1 + v % 5).toNat).map tN := by rw [List.map_take]
    have pl : pus ((ps.map tN).take (1 + v % 5).toNat) = true := by rw [e]; exact pus_tN
    rw [pl]
    simp only [true_and, true_or, Bool.true_eq_false, false_and, or_false]
    rw [e]
    refine q (ps.take (1 + v % 5).toNat) w hw ?_ (by rw [List.length_take]; omega) fun p hm => hp p (List.mem_of_mem_take hm)
    intro z
    have := congrArg List.length z
    rw [List.length_take, List.length_nil] at this
    omega
end Gd
namespace Gd
open PySem PySem.Spec PyProof.Rows L2 Sm
def isFr (f : T) : Prop := ∃ a b : Nat, f = .tup [tN a, tN b] ∧ fracB f = true
theorem isFr.plain {f : T} (k : isFr f) : f.plain = true := by
  obtain ⟨a, b, rfl, _⟩ := k
  simp [tN]
theorem program_wpN {h : Store} {n : Nat} {v far : Int} {ps : List Nat} {Q : T → Store → Prop} {X : Ex → Store → Prop} (p : potAt h n v) (h0 : ps ≠ []) (h9 : ps.length < 1000) (hp : ∀ p ∈ ps, p < 10) (f0 : 0 < far) (f1 : far < 1000)
    (q : ∀ fs w, 0 ≤ w → 1 ≤ fs.length → (fs.length : Int) ≤ far → (∀ f ∈ fs, isFr f) → Q (.tup fs) (pst h n w)) : (F_law_program [.loc n, .tup (ps.map tN), .int far] h).wp Q X := by
  refine fn_wp rfl ?_
  show (b_law_program [some (.loc n), some (.tup (ps.map tN)), some (.int far), none] h).wp _
  have hn := p.lt
  have v1 : 0 ≤ v / far := Int.ediv_nonneg p.2 (by omega)
  have a : 0 ≤ v % far ∧ v % far < far := ⟨Int.emod_nonneg _ (by omega), Int.emod_lt_of_pos _ f0⟩
  simp (disch := first | omega | assumption | simp) [b_law_program, take_eq p, mComp, asR1_ok]
  simp only [so_bindE, wp_bind]
  refine compLoop_wp _ (fun i acc h' => ∃ w, 0 ≤ w ∧ h' = pst h n w ∧ acc.length = i ∧ ∀ f ∈ acc, isFr f) ?_ ?_ (by rw [Sm.rangeT_length]; omega) ⟨_, v1, rfl, rfl, by simp⟩
  · rintro i x acc h' hx ha ⟨w, hw, rfl, hl, hf⟩
    obtain ⟨rfl, hi⟩ := range_at hx
    refine ⟨by simp, _, b_one, ?_⟩
    simp
    refine fraction_wp (potAt.old hn hw) h0 h9 hp fun a b w2 hw2 fr => ?_
    refine ⟨w2, hw2, by simp, by simp [hl], fun f hm => ?_⟩
    rcases hm with m | m
    · exact hf f m
    · rw [m]
      exact ⟨a, b, rfl, fr⟩
  · rintro acc h' ⟨w, hw, rfl, hl, hf⟩
    rw [Sm.rangeT_length] at hl
    have pa : pus acc = true := pus_iff.mpr fun f hm => plain_pu (hf f hm).plain
    simp [fnP, pa]
    exact q acc w hw (by omega) (by omega) hf
end Gd
namespace Gd
open PySem PySem.Spec PyProof.Rows L2 Sm
abbrev iT (xs : List Int) : T := .tup (xs.map T.int)
def nI (es : List Nat) : List Int := es.map Int.ofNat
theorem tN_nI (es : List Nat) : es.map tN = (nI es).map T.int := by
  simp [nI, tN]
def zpT (xs ys : List Int) : List T := (xs.zip ys).map fun p => .tup [.int p.1, .int p.2]
theorem zw_zp : ∀ {xs ys : List Int}, List.zipWith pairT (xs.map T.int) (ys.map T.int) = zpT xs ys
  | [], _ => by simp [zpT]
  | _ :: _, [] => by simp [zpT]
  | x :: xs, y :: ys => by
    have := zw_zp (xs := xs) (ys := ys)
    simp only [List.map_cons, List.zipWith_cons_cons, this, zpT, List.zip_cons_cons]
    rfl
theorem src_zip {r : M (List T)} {env : Env'} {h h1 : Store} {xs ys : List Int} (er : r env h = .ok [iT xs, iT ys] h1) : mZip r env h = .ok ⟨zpT xs ys, []⟩ h1 := by
  unfold mZip
  rw [er]
  simp only [bind_ok, seqK, gdOf, lstOf, Option.map_some, List.append_nil, zw_zp]
theorem comp_zip {r : M (List T)} {env : Env'} {h h1 : Store} {xs ys : List Int} {tg : Tgt} {own : List Nat} {me : M T} (f : Int → Int → T) (es : mZip r env h = .ok ⟨zpT xs ys, []⟩ h1) (hl : xs.length ≤ 1000)
    (el : ∀ x y, ∃ env1, bindT tg (.tup [.int x, .int y]) (dropE own env) = some env1 ∧ me env1 h1 = .ok (f x y) h1) :
    mComp (mZip r) own tg mYes me env h = .ok ((xs.zip ys).map fun p => f p.1 p.2) h1 := by
  unfold mComp
  rw [es]
  show compLoop [] tg mYes me (dropE own env) (zpT xs ys) [] h1 = _
  have kc := compLoop_map (gs := []) (tg := tg) (me := me) (env := dropE own env) (h := h1) (zpT xs ys) (fun t => match t with | .tup [.int u, .int v] => f u v | _ => .non) (by simp) (by simp [zpT]; omega) fun z hz => by
    obtain ⟨p, hp, rfl⟩ := List.mem_map.mp hz
    obtain ⟨e, a, b⟩ := el p.1 p.2
    exact ⟨e, a, b⟩
  rw [kc]
  unfold zpT
  rw [List.map_map]
  rfl
def subL (xs ys : List Int) : List Int := (xs.zip ys).map fun p => p.1 - p.2
def fits (xs ws : List Int) : Bool := (xs.zip ws).all fun p => decide (p.2 ≤ p.1)
theorem zip_ints {f : Int → Int → Int} {xs ys : List Int} : ((xs.zip ys).map fun p => T.int (f p.1 p.2)) = ((xs.zip ys).map fun p => f p.1 p.2).map T.int := by
  rw [List.map_map]
  rfl
theorem subL_len {xs ys : List Int} : (subL xs ys).length = min xs.length ys.length := by simp [subL]
abbrev Fr := Nat × Nat
def frT (p : Fr) : T := .tup [tN p.1, tN p.2]
abbrev prT (fr : List Fr) : T := .tup (fr.map frT)
structure okFr (p : Fr) : Prop where
  a0 : 0 < p.1
  b0 : 0 < p.2
  fa : full p.1 = true
  fb : full p.2 = true
  am : p.1 ≤ 1000000000000
  bm : p.2 ≤ 1000000000000
  co : Nat.gcd p.1 p.2 = 1
def okP (fr : List Fr) : Prop := ∀ p ∈ fr, okFr p
theorem okFr_of {f : T} (k : isFr f) : ∃ p, f = frT p ∧ okFr p := by
  obtain ⟨a, b, rfl, e⟩ := k
  refine ⟨(a, b), rfl, ?_⟩
  simp only [tN, fracB, upto, Bool.and_eq_true, decide_eq_true_eq, Int.toNat_natCast] at e
  obtain ⟨⟨⟨⟨⟨a1, a2⟩, b1, b2⟩, fa⟩, fb⟩, co⟩ := e
  exact ⟨by show 0 < a; omega, by show 0 < b; omega, fa, fb, by show a ≤ _; omega, by show b ≤ _; omega, co⟩
theorem okP_of : ∀ {fs : List T}, (∀ f ∈ fs, isFr f) → ∃ fr : List Fr, fs = fr.map frT ∧ okP fr
  | [], _ => ⟨[], rfl, fun _ h => absurd h (by simp)⟩
  | f :: r, h => by
    obtain ⟨p, e1, k⟩ := okFr_of (h f (by simp))
    obtain ⟨fr, e2, k2⟩ := okP_of fun g m => h g (List.mem_cons_of_mem _ m)
    refine ⟨p :: fr, by rw [e1, e2]; rfl, fun q m => ?_⟩
    rcases List.mem_cons.mp m with e | m
    · rw [e]; exact k
    · exact k2 q m
def ex (n : Nat) : List Int := nI (stripAll PR n).1
theorem ex_len {n : Nat} : (ex n).length = 10 := by simp [ex, nI, stripAll_len, PR]
theorem full_ex {n : Nat} (f : full n = true) : fullT n = iT (ex n) := by
  have : (stripAll PR n).2 = 1 := by simpa [full] using f
  rw [fullT, if_pos this, tN_nI]
  rfl
def addF (p : Fr) : List Int := subL (ex p.1) (ex p.2)
theorem addF_len {p : Fr} : (addF p).length = 10 := by simp [addF, subL_len, ex_len]
abbrev topsT (fr : List Fr) : T := .lst (fr.map fun p => iT (ex p.1))
abbrev wantT (fr : List Fr) : T := .lst (fr.map fun p => iT (ex p.2))
abbrev addsT (fr : List Fr) : T := .lst (fr.map fun p => iT (addF p))
section
variable {h : Store} {fr : List Fr}
theorem pus_map {α : Type} {f : α → T} {l : List α} (k : ∀ x, (f x).pu = true) : pus (l.map f) = true := pus_iff.mpr fun t m => by
  obtain ⟨x, _, rfl⟩ := List.mem_map.mp m
  exact k x
theorem pu_iT {xs : List Int} : (iT xs).pu = true := by simp
theorem tops_eq (k : okP fr) (hl : fr.length ≤ 1000) : F_tops_of [prT fr] h = .ok (topsT fr) h := by
  refine Out.wp_eq (fn_wp rfl ?_)
  show (b_tops_of [some (prT fr), none, none] h).wp _
  have kc := compLoop_map (gs := []) (tg := .tup [1, 2]) (me := mCall F_found_powers (mCons (mVar 1) mNil)) (env := [some (prT fr), none, none]) (h := h) (fr.map frT) (fun t => match t with | .tup [.int u, .int v] => fullT u.toNat | _ => .non) (by simp) (by simp; omega) fun z hz => by
    obtain ⟨p, hp, rfl⟩ := List.mem_map.mp hz
    refine ⟨_, b_tup, ?_⟩
    have e := found_eq (h := h) (k p hp).a0
    simp only [tN] at e
    simp [setT, tN, e, frT]
  have em : ((fr.map frT).map fun t => match t with | .tup [.int u, .int v] => fullT u.toNat | _ => .non) = fr.map fun p => iT (ex p.1) := by
    rw [List.map_map]
    refine List.map_congr_left fun (p : Fr) hp => ?_
    show fullT (p.1 : Int).toNat = _
    rw [Int.toNat_natCast, full_ex (k p hp).fa]
  rw [em] at kc
  simp [b_tops_of, mComp, kc, fnP, pus_map (fun p : Fr => pu_iT (xs := ex p.1))]
theorem bottoms_eq (k : okP fr) (hl : fr.length ≤ 1000) : F_bottoms_of [prT fr] h = .ok (wantT fr) h := by
  refine Out.wp_eq (fn_wp rfl ?_)
  show (b_bottoms_of [some (prT fr), none, none] h).wp _
  have kc := compLoop_map (gs := []) (tg := .tup [1, 2]) (me := mCall F_found_powers (mCons (mVar 2) mNil)) (env := [some (prT fr), none, none]) (h := h) (fr.map frT) (fun t => match t with | .tup [.int u, .int v] => fullT v.toNat | _ => .non) (by simp) (by simp; omega) fun z hz => by
    obtain ⟨p, hp, rfl⟩ := List.mem_map.mp hz
    refine ⟨_, b_tup, ?_⟩
    have e := found_eq (h := h) (k p hp).b0
    simp only [tN] at e
    simp [setT, tN, e, frT]
  have em : ((fr.map frT).map fun t => match t with | .tup [.int u, .int v] => fullT v.toNat | _ => .non) = fr.map fun p => iT (ex p.2) := by
    rw [List.map_map]
    refine List.map_congr_left fun (p : Fr) hp => ?_
    show fullT (p.2 : Int).toNat = _
    rw [Int.toNat_natCast, full_ex (k p hp).fb]
  rw [em] at kc
  simp [b_bottoms_of, mComp, kc, fnP, pus_map (fun p : Fr => pu_iT (xs := ex p.2))]
end
end Gd
namespace Gd
open PySem PySem.Spec PyProof.Rows L2 Sm
section
variable {h : Store} {fr : List Fr}
theorem src_zipA {r : M (List T)} {env : Env'} {h h1 : Store} {xs ys : List T} (er : r env h = .ok [.lst xs, .lst ys] h1) : mZip r env h = .ok ⟨List.zipWith pairT xs ys, []⟩ h1 := by
  unfold mZip
  rw [er]
  simp only [bind_ok, seqK, gdOf, lstOf, Option.map_some, List.append_nil]
theorem zw_map {α : Type} {f g : α → T} : ∀ l : List α, List.zipWith pairT (l.map f) (l.map g) = l.map fun x => pairT (f x) (g x)
  | [] => rfl
  | x :: r => by simp only [List.map_cons, List.zipWith_cons_cons, zw_map r]
theorem getm {α : Type} {f : α → T} {l : List α} {i : Nat} {t : T} (e : (l.map f)[i]? = some t) : ∃ x, l[i]? = some x ∧ t = f x ∧ i < l.length := by
  rw [List.getElem?_map, Option.map_eq_some_iff] at e
  obtain ⟨x, a, b⟩ := e
  exact ⟨x, a, b.symm, (List.getElem?_eq_some_iff.mp a).1⟩
theorem take_snoc {α : Type} {l : List α} {i : Nat} {x : α} (e : l[i]? = some x) : l.take (i + 1) = l.take i ++ [x] := by
  rw [List.take_add_one, e]
  rfl
theorem sub_comp {env : Env'} {i j a b : Nat} {xs ys : List Int} (ea : env[a]? = some (some (iT xs))) (eb : env[b]? = some (some (iT ys))) (hl : xs.length ≤ 1000) (h1 : i < env.length) (h2 : j < env.length) (ne : i ≠ j) :
    mComp (mZip (mCons (mVar a) (mCons (mVar b) mNil))) [i, j] (.tup [i, j]) mYes (mBin fSub (mVar i) (mVar j)) env h = .ok ((subL xs ys).map T.int) h := by
  have es : mZip (mCons (mVar a) (mCons (mVar b) mNil)) env h = .ok ⟨zpT xs ys, []⟩ h := src_zip (by simp [ea, eb])
  rw [comp_zip (fun x y => .int (x - y)) es hl fun x y => ⟨_, b_tup, ?_⟩]
  · rw [zip_ints]
    rfl
  · have l1 : i < (dropE [i, j] env).length := by simpa [dropE] using h1
    have l2 : j < (dropE [i, j] env).length := by simpa [dropE] using h2
    simp only [setT, q1_bin, q1_var]
    rw [List.getElem?_set_ne (Ne.symm ne), List.getElem?_set_self l1]
    simp only [bind_ok]
    rw [List.getElem?_set_self (by simpa using l2)]
    rfl
theorem changes_eq (k : okP fr) (hl : fr.length ≤ 1000) : F_changes_of [prT fr] h = .ok (addsT fr) h := by
  refine Out.wp_eq (fn_wp rfl ?_)
  show (b_changes_of [some (prT fr), none, none, none, none, none] h).wp _
  simp only [b_changes_of, q2_seq, q2_set, q1_cell, q1_lst, q1_nil, bind_ok, List.length_nil, Nat.zero_le, if_true, pus_nil, bindE_ok, seq_nx, so_seq, List.set]
  rw [sFor_of (src_zipA (h1 := h ++ [.lst []]) (xs := fr.map fun p => iT (ex p.1)) (ys := fr.map fun p => iT (ex p.2)) (by simp [tops_eq k hl, bottoms_eq k hl]))]
  refine forLoop_wp _ (fun i env h' => h' = h ++ [.lst ((fr.take i).map fun p => iT (addF p))] ∧ env = [none, some (.loc h.length), none, none, none, none]) ?_ ?_ ⟨rfl, rfl⟩
  · rintro i x env h' hx ⟨rfl, rfl⟩
    rw [zw_map] at hx
    obtain ⟨p, hp, rfl, hi⟩ := getm hx
    refine ⟨by simp, _, b_tup, ?_⟩
    have sc : ∀ h0 : Store, mComp (mZip (mCons (mVar 3) (mCons (mVar 2) mNil))) [4, 5] (.tup [4, 5]) mYes (mBin fSub (mVar 4) (mVar 5)) [none, some (.loc h.length), some (iT (ex p.2)), some (iT (ex p.1)), none, none] h0 = .ok ((addF p).map T.int) h0 := fun h0 =>
      sub_comp (by rfl) (by rfl) (by rw [ex_len]; omega) (by simp) (by simp) (by simp)
    simp [setT, pairT, sc]
    rw [e_append rfl (by simp; omega) (by simp)]
    have tk : (fr.map fun p => iT (addF p)).take (i + 1) = (fr.map fun p => iT (addF p)).take i ++ [iT (addF p)] := take_snoc (by simp [hp])
    simp [tk]
  · rintro env h' ⟨rfl, rfl⟩
    rw [zw_map, List.length_map, List.take_length]
    simp [fnP, frz, pus_map (fun p : Fr => pu_iT (xs := addF p)), si_app]
end
end Gd
namespace Gd
open PySem PySem.Spec PyProof.Rows L2 Sm
section
variable {h h1 : Store} {fr : List Fr} {c n i j : Nat} {m mo mv : M T} {r : M (List T)} {env : Env'} {F : Fn} {nm f : Str} {fs : List (Str × T)}
@[simp] theorem q1_fld : mFld c f m env h = (m env h).bind fun a h1 => Out.ofO ((insOf c h1 a).bind fun p => p.2.lookup f) h1 := rfl
theorem insOf_at (e : h[n]? = some (.ins c fs)) (hc : c < 1000 := by decide) : insOf c h (.loc n) = some (n, fs) := by
  simp [insOf, e, hc]
def sW : Str := "wants"
def sA : Str := "adds"
def waysC (fr : List Fr) : Cell := .ins 0 [(sW, wantT fr), (sA, addsT fr)]
theorem put_adds {a b : T} : putT sA b [(sW, a)] = [(sW, a), (sA, b)] := by
  unfold putT
  rw [if_neg (by decide)]
  rfl
theorem init_eq (k : okP fr) (hl : fr.length ≤ 1000) : F_Ways_init [.loc h.length, prT fr] (h ++ [.ins 0 []]) = .ok .non (h ++ [waysC fr]) := by
  refine Out.wp_eq' (fnK_wp rfl ?_)
  show (b_Ways_init [some (.loc h.length), some (prT fr)] (h ++ [.ins 0 []])).wp _
  have e1 : ∀ fs : List (Str × T), insOf 0 (h ++ [.ins 0 fs]) (.loc h.length) = some (h.length, fs) := fun fs => insOf_at (by simp)
  have b1 : ∀ h0 : Store, F_bottoms_of [prT fr] h0 = .ok (wantT fr) h0 := fun h0 => bottoms_eq k hl
  have b2 : ∀ h0 : Store, F_changes_of [prT fr] h0 = .ok (addsT fr) h0 := fun h0 => changes_eq k hl
  have s1 : (h ++ [Cell.ins 0 []]).set h.length (.ins 0 (putT sW (wantT fr) [])) = h ++ [.ins 0 [(sW, wantT fr)]] := set_end rfl
  have s2 : (h ++ [Cell.ins 0 [(sW, wantT fr)]]).set h.length (.ins 0 (putT sA (addsT fr) [(sW, wantT fr)])) = h ++ [waysC fr] := by rw [put_adds]; exact set_end rfl
  have p1 : Sm.sFld 0 sW (mCall F_bottoms_of (mCons (mVar 1) mNil)) (mVar 0) [some (.loc h.length), some (prT fr)] (h ++ [.ins 0 []]) = .nx [some (.loc h.length), some (prT fr)] (h ++ [.ins 0 [(sW, wantT fr)]]) := by
    unfold Sm.sFld
    simp only [q1_call, q1_cons, q1_var, q1_nil, bind_ok, List.getElem?_cons_succ, List.getElem?_cons_zero, b1, bindE_ok, e1]
    rw [if_pos (by decide), s1]
  have p2 : Sm.sFld 0 sA (mCall F_changes_of (mCons (mVar 1) mNil)) (mVar 0) [some (.loc h.length), some (prT fr)] (h ++ [.ins 0 [(sW, wantT fr)]]) = .nx [some (.loc h.length), some (prT fr)] (h ++ [waysC fr]) := by
    unfold Sm.sFld
    simp only [q1_call, q1_cons, q1_var, q1_nil, bind_ok, List.getElem?_cons_succ, List.getElem?_cons_zero, b2, bindE_ok, e1]
    rw [if_pos (by simp), s2]
  unfold b_Ways_init
  rw [q2_seq]
  show ((Sm.sFld 0 sW _ _ _ _).seq (Sm.sFld 0 sA _ _)).wp _
  rw [p1, seq_nx, p2]
  exact ⟨rfl, rfl⟩
theorem ways_new (er : r env h = .ok [prT fr] h1) (k : okP fr) (hl : fr.length ≤ 1000) : mNew 0 F_Ways_init r env h = .ok (.loc h1.length) (h1 ++ [waysC fr]) := by
  unfold mNew
  rw [er]
  simp only [bind_ok]
  rw [init_eq k hl]
  rfl
theorem ways_wants (e : h[n]? = some (waysC fr)) : (insOf 0 h (.loc n)).bind (fun p => p.2.lookup sW) = some (wantT fr) := by
  rw [insOf_at e]
  rfl
theorem ways_adds (e : h[n]? = some (waysC fr)) : (insOf 0 h (.loc n)).bind (fun p => p.2.lookup sA) = some (addsT fr) := by
  rw [insOf_at e]
  rw [Option.bind_some, List.lookup_cons, show (sA == sW) = false by decide]
  simp
def firstL : List (List Int) → List Int → Option Nat
  | [], _ => none
  | w :: r, xs => if fits xs w then some 0 else (firstL r xs).map (· + 1)
def optT : Option Nat → T
  | some n => tN n
  | none => .non
def goneL (xs as : List Int) (k : Int) : List Int := (xs.zip as).map fun p => p.1 + k * p.2
def wantsL (fr : List Fr) : List (List Int) := fr.map fun p => ex p.2
theorem firstL_none : ∀ {ws : List (List Int)} {xs : List Int}, firstL ws xs = none ↔ ∀ w ∈ ws, fits xs w = false
  | [], xs => by simp [firstL]
  | w :: r, xs => by
    unfold firstL
    cases e : fits xs w with
    | true => simp [e]
    | false => simp [e, firstL_none (ws := r)]
theorem firstL_some : ∀ {ws : List (List Int)} {xs : List Int} {n : Nat}, firstL ws xs = some n ↔ (∃ w, ws[n]? = some w ∧ fits xs w = true) ∧ ∀ i w, i < n → ws[i]? = some w → fits xs w = false
  | [], xs, n => by simp [firstL]
  | w :: r, xs, n => by
    unfold firstL
    cases e : fits xs w with
    | true =>
      rw [if_pos rfl]
      constructor
      · intro h
        cases h
        exact ⟨⟨w, rfl, e⟩, fun i w h => absurd h (by omega)⟩
      · rintro ⟨_, h⟩
        cases n with
        | zero => rfl
        | succ n =>
          have := h 0 w (by omega) rfl
          rw [e] at this
          cases this
    | false =>
      rw [if_neg Bool.false_ne_true, Option.map_eq_some_iff]
      constructor
      · rintro ⟨m, h, rfl⟩
        obtain ⟨⟨u, a, b⟩, c⟩ := firstL_some.mp h
        refine ⟨⟨u, a, b⟩, fun i z hi hz => ?_⟩
        cases i with
        | zero => cases hz; exact e
        | succ i => exact c i z (by omega) hz
      · rintro ⟨⟨u, a, b⟩, c⟩
        cases n with
        | zero =>
          cases a
          rw [e] at b
          cases b
        | succ n => exact ⟨n, firstL_some.mpr ⟨⟨u, a, b⟩, fun i z hi hz => c (i + 1) z (by omega) hz⟩, rfl⟩
theorem comp_all {r : M (List T)} {env : Env'} {h h1 : Store} {xs ys : List Int} {tg : Tgt} {own : List Nat} {me : M T} (f : Int → Int → Bool) (es : mZip r env h = .ok ⟨zpT xs ys, []⟩ h1) (hl : xs.length ≤ 1000)
    (el : ∀ x y, ∃ env1, bindT tg (.tup [.int x, .int y]) (dropE own env) = some env1 ∧ me env1 h1 = .ok (.bl (f x y)) h1) :
    mCallF fAll (mCons (mFrz (mComp (mZip r) own tg mYes me)) mNil) env h = .ok (.bl ((xs.zip ys).all fun p => f p.1 p.2)) h1 := by
  simp only [q1_callF, q1_cons, q1_frz, q1_nil]
  rw [comp_zip (fun x y => .bl (f x y)) es hl el]
  simp only [bind_ok]
  rw [all_map (fun p : Int × Int => f p.1 p.2)]
  rfl
theorem enum_at {xs : List T} {i : Nat} {x : T} (e : (enumT 0 xs)[i]? = some x) : ∃ t, xs[i]? = some t ∧ x = .tup [tN i, t] := by
  rw [enumT_get, Option.map_eq_some_iff] at e
  obtain ⟨t, a, b⟩ := e
  refine ⟨t, a, ?_⟩
  rw [← b, Nat.zero_add]
  rfl
theorem src_enum {r : M (List T)} {env : Env'} {h h1 : Store} {xs : List T} (er : r env h = .ok [.lst xs] h1) : mEnum r env h = .ok ⟨enumT 0 xs, []⟩ h1 := by
  unfold mEnum
  rw [er]
  rfl
theorem src_enumT {r : M (List T)} {env : Env'} {h h1 : Store} {xs : List T} (er : r env h = .ok [.tup xs] h1) : mEnum r env h = .ok ⟨enumT 0 xs, []⟩ h1 := by
  unfold mEnum
  rw [er]
  rfl
theorem first_eq (e : h[n]? = some (waysC fr)) {xs : List Int} (hx : xs.length = 10) : F_Ways_first [.loc n, iT xs] h = .ok (optT (firstL (wantsL fr) xs)) h := by
  refine Out.wp_eq (fn_wp rfl ?_)
  show (b_Ways_first [some (.loc n), some (iT xs), none, none, none, none] h).wp _
  simp only [b_Ways_first, q2_seq, so_seq]
  rw [sFor_of (src_enum (h1 := h) (xs := fr.map fun p => iT (ex p.2)) (by simp only [q1_cons, q1_fld, q1_var, q1_nil, bind_ok, List.getElem?_cons_zero]; rw [show (("wants" : Str)) = sW from rfl, ways_wants e]; rfl))]
  refine forLoop_wp _ (fun i env h' => h' = h ∧ env = [none, some (iT xs), none, none, none, none] ∧ ∀ j w, j < i → (wantsL fr)[j]? = some w → fits xs w = false) ?_ ?_ ⟨rfl, rfl, fun j w hj => absurd hj (by omega)⟩
  · rintro i x env h' hx' ⟨rfl, rfl, ih⟩
    obtain ⟨t, ht, rfl⟩ := enum_at hx'
    obtain ⟨p, hp, rfl, hi⟩ := getm ht
    refine ⟨by simp, _, b_tup, ?_⟩
    have sc : mCallF fAll (mCons (mFrz (mComp (mZip (mCons (mVar 1) (mCons (mVar 3) mNil))) [4, 5] (.tup [4, 5]) mYes (mBin fGe (mVar 4) (mVar 5)))) mNil) [none, some (iT xs), some (tN i), some (iT (ex p.2)), none, none] h' = .ok (.bl (fits xs (ex p.2))) h' :=
      comp_all (fun x y => decide (y ≤ x)) (src_zip (by simp)) (by omega) fun x y => ⟨_, b_tup, by simp [setT]⟩
    have hw : (wantsL fr)[i]? = some (ex p.2) := by simp [wantsL, hp]
    simp only [setT, List.set, q2_if, q1_tru, sc, bind_ok, truF_bl, ofO_some, bindE_ok]
    cases ef : fits xs (ex p.2) with
    | true =>
      have : firstL (wantsL fr) xs = some i := firstL_some.mpr ⟨⟨_, hw, ef⟩, ih⟩
      simp [this, fnP, optT, tN]
    | false =>
      simp
      intro j w hj hw'
      by_cases q : j = i
      · subst q
        rw [hw] at hw'
        cases hw'
        exact ef
      · exact ih j w (by omega) hw'
  · rintro env h' ⟨rfl, rfl, ih⟩
    have : firstL (wantsL fr) xs = none := firstL_none.mpr fun w hm => by
      obtain ⟨j, hj⟩ := List.mem_iff_getElem?.mp hm
      refine ih j w ?_ hj
      have := (List.getElem?_eq_some_iff.mp hj).1
      rw [enumT_length]
      simpa [wantsL] using this
    simp [this, fnP, optT]
end
end Gd
namespace Gd
open PySem PySem.Spec PyProof.Rows L2 Sm
section
variable {h : Store}
end
end Gd
namespace Gd
open PySem PySem.Spec PyProof.Rows L2 Sm
section
variable {h h1 : Store} {fr : List Fr} {c n i j : Nat} {m mo mv : M T} {r : M (List T)} {env : Env'} {F : Fn} {nm f : Str} {fs : List (Str × T)}
theorem gone_eq (e : h[n]? = some (waysC fr)) {xs : List Int} {k : Nat} {q : Int} {p : Fr} (hx : xs.length = 10) (hp : fr[k]? = some p) (hq : q.natAbs < 2 ^ 64) : F_Ways_gone [.loc n, iT xs, tN k, .int q] h = .ok (iT (goneL xs (addF p) q)) h := by
  refine Out.wp_eq (fn_wp rfl ?_)
  show (b_Ways_gone [some (.loc n), some (iT xs), some (tN k), some (.int q), none, none] h).wp _
  have hk : k < fr.length := (List.getElem?_eq_some_iff.mp hp).1
  have sc : mComp (mZip (mCons (mVar 1) (mCons (mBin fIdx (mFld 0 "adds" (mVar 0)) (mVar 2)) mNil))) [4, 5] (.tup [4, 5]) mYes (mBin fAdd (mVar 4) (mBin fMul (mVar 3) (mVar 5))) [some (.loc n), some (iT xs), some (tN k), some (.int q), none, none] h = .ok ((goneL xs (addF p) q).map T.int) h := by
    rw [comp_zip (h1 := h) (xs := xs) (ys := addF p) (fun x y => .int (x + q * y)) (src_zip ?_) (by omega) fun x y => ⟨_, b_tup, by simp [setT, mulB_l hq]⟩, zip_ints (f := fun x y => x + q * y)]
    · rfl
    · simp only [q1_cons, q1_var, q1_bin, q1_fld, q1_nil, bind_ok, List.getElem?_cons_succ, List.getElem?_cons_zero]
      rw [show (("adds" : Str)) = sA from rfl, ways_adds e]
      simp only [ofO_some, bind_ok, tN, q3_idxL]
      rw [atI_p (by omega) (by simpa using hk)]
      simp [hp]
  simp [b_Ways_gone, sc, fnP]
end
end Gd
namespace Gd
open PySem PySem.Spec PyProof.Rows L2 Sm
section
variable {h : Store} {fr : List Fr}
theorem line_wp {n most : Nat} {v : Int} {ps : List Nat} {Q : T → Store → Prop} {X : Ex → Store → Prop} (p : potAt h n v) (h9 : ps.length < 1000) (hp : ∀ p ∈ ps, p < 10) (hm : most < 1000)
    (q : ∀ (es : List Nat) w, 0 ≤ w → es.length = 10 → (∀ e ∈ es, e ≤ most) → Q (.tup (es.map tN)) (pst h n w)) : (F_law_line [.loc n, .tup (ps.map tN), tN most] h).wp Q X := by
  refine fn_wp rfl ?_
  show (b_law_line [some (.loc n), some (.tup (ps.map tN)), some (tN most), none, none] h).wp _
  have hn := p.lt
  have r0 : fRep (.lst [.int 0]) (.int 10) h = some ((List.replicate 10 0).map tN) := rfl
  have s0 : (sSet 3 (mCell (mNew2 fRep (mFrz (mLst (mCons (mC (.int 0)) mNil))) (mC (.int 10))))) [some (.loc n), some (.tup (ps.map tN)), some (tN most), none, none] h
      = .nx [some (.loc n), some (.tup (ps.map tN)), some (tN most), some (.loc h.length), none] (h ++ [.lst ((List.replicate 10 0).map tN)]) := by
    simp only [q2_set, q1_cell, q1_new2, q1_frz, q1_lst, q1_cons, q1_C, q1_nil, bind_ok, List.length_cons, List.length_nil, ofO_some]
    rw [if_pos (by decide)]
    simp only [bind_ok, r0, ofO_some, pus_tN, if_true, bindE_ok, List.set_cons_succ, List.set_cons_zero]
  have far : fAdd (tN most) (.int 1) = fun _ => some (.int (most + 1 : Nat)) := by funext h0; simp [tN]
  have tk : ∀ (w : Int) (l : Store), 0 ≤ w → F_law_take [.loc n, .int (most + 1 : Nat)] (pst h n w ++ l) = .ok (tN (w % (most + 1 : Nat)).toNat) (pst h n (w / (most + 1 : Nat)) ++ l) := fun w l hw => by
    rw [take_2 hn hw (by omega) (by omega)]
    have := Int.emod_nonneg w (show ((most + 1 : Nat) : Int) ≠ 0 by omega)
    rw [show tN (w % (most + 1 : Nat)).toNat = .int (w % (most + 1 : Nat)) by show T.int _ = _; congr 1; omega]
  have sm : ∀ w : Int, (w % (most + 1 : Nat)).toNat ≤ most := fun w => by
    have := Int.emod_nonneg w (show ((most + 1 : Nat) : Int) ≠ 0 by omega)
    have := Int.emod_lt_of_pos w (show (0 : Int) < ((most + 1 : Nat) : Int) by omega)
    omega
  have dv : ∀ w : Int, 0 ≤ w → 0 ≤ w / (most + 1 : Nat) := fun w hw => Int.ediv_nonneg hw (by omega)
  have put : ∀ (w : Int) (es : List Nat) (k e : Nat) (env : Env'), es.length = 10 → k < 10 → setC (pst h n w ++ [.lst (es.map tN)]) h.length (k : Int) (tN e) env = .nx env (pst h n w ++ [.lst ((es.set k e).map tN)]) := fun w es k e env hl hk => by
    rw [e_set pst_len (by omega) (by rw [List.length_map]; omega) rfl, Int.toNat_natCast, List.map_set]
  have okS : ∀ (es : List Nat) (k e : Nat), (∀ e ∈ es, e ≤ most) → e ≤ most → ∀ x ∈ es.set k e, x ≤ most := fun es k e a b x hx => by
    rcases List.mem_or_eq_of_mem_set hx with c | c
    · exact a x c
    · omega
  unfold b_law_line
  rw [q2_seq, s0, seq_nx, q2_seq, so_seq]
  rw [sFor_of (h1 := h ++ [.lst ((List.replicate 10 0).map tN)]) (s := ⟨ps.map tN, []⟩) (by simp only [q1_seqS, q1_var, List.getElem?_cons_succ, List.getElem?_cons_zero, bind_ok, asS_tup])]
  rw [show h ++ [Cell.lst ((List.replicate 10 0).map tN)] = pst h n v ++ [.lst ((List.replicate 10 0).map tN)] by rw [pst_self p]]
  refine forLoop_wp _ (fun i env h' => ∃ (w : Int) (es : List Nat), 0 ≤ w ∧ es.length = 10 ∧ (∀ e ∈ es, e ≤ most) ∧ h' = pst h n w ++ [.lst (es.map tN)] ∧ env = [some (.loc n), none, some (tN most), some (.loc h.length), none]) ?_ ?_ ⟨v, List.replicate 10 0, p.2, rfl, ?_, rfl, rfl⟩
  · rintro i x env h' hx ⟨w, es, hw, hl, he, rfl, rfl⟩
    obtain ⟨k, hk, rfl, _⟩ := getm hx
    have k9 := hp k (List.mem_of_getElem? hk)
    refine ⟨by simp, _, b_one, ?_⟩
    have t1 := tk w [.lst (es.map tN)] hw
    have p1 := put (w / (most + 1 : Nat)) es k (w % (most + 1 : Nat)).toNat
    simp only [q2_item, q1_call, q1_cons, q1_bin, q1_var, q1_C, q1_nil, List.getElem?_cons_zero, List.getElem?_cons_succ, List.set, bind_ok, far, ofO_some, t1, bindE_ok]
    show (setC _ _ (k : Int) (tN (w % (most + 1 : Nat)).toNat) _).wp _
    rw [p1 _ hl k9]
    exact ⟨_, es.set k _, dv w hw, by simpa using hl, okS _ _ _ he (sm w), rfl, by simp⟩
  · rintro env h' ⟨w, es, hw, hl, he, rfl, rfl⟩
    refine ⟨by simp, ?_⟩
    have t6 := take_2 (h := h) (l := [.lst (es.map tN)]) (n := n) (v := w) (far := 6) hn hw (by omega) (by omega)
    have w6 : 0 ≤ w / 6 := by omega
    have fin : ∀ (w : Int) (es : List Nat), 0 ≤ w → es.length = 10 → (∀ e ∈ es, e ≤ most) → (sRet (mCallF fTuple (mCons (mVar 3) mNil)) [some (.loc n), none, some (tN most), some (.loc h.length), none] (pst h n w ++ [.lst (es.map tN)])).wp (fnP h Q X) := fun w es hw hl he => by
      have := q es w hw hl he
      simp [fnP, e_tup, this]
    show ((sSeq _ _) _ _).wp _
    rw [q2_seq, q2_if]
    by_cases c : w % 6 = 0
    · have t2 := tk (w / 6) [.lst (es.map tN)] w6
      have w7 := dv _ w6
      have t10 := take_2 (h := h) (l := [.lst (es.map tN)]) (n := n) (v := w / 6 / (most + 1 : Nat)) (far := 10) hn w7 (by omega) (by omega)
      have k0 : T.int (w / 6 / (most + 1 : Nat) % 10) = tN (w / 6 / (most + 1 : Nat) % 10).toNat := by show _ = T.int _; congr 1; omega
      have k1 : (w / 6 / (most + 1 : Nat) % 10).toNat < 10 := by omega
      rw [k0] at t10
      generalize (w / 6 / (most + 1 : Nat) % 10).toNat = k at t10 k1
      have p1 := put (w / 6 / (most + 1 : Nat) / 10) es k (w / 6 % (most + 1 : Nat)).toNat [some (.loc n), none, some (tN most), some (.loc h.length), none] hl k1
      simp only [q1_tst, q1_bin, q1_call, q1_cons, q1_var, q1_C, q1_nil, List.getElem?_cons_zero, List.getElem?_cons_succ, bind_ok, t6, c]
      rw [show fEq (.int 0) (.int 0) = fun _ => some (.bl true) from rfl]
      simp only [ofO_some, bind_ok, asB_bl, bindE_ok, if_true, q2_item, q1_call, q1_cons, q1_bin, q1_var, q1_C, q1_nil, List.getElem?_cons_zero, List.getElem?_cons_succ, far, t2, t10]
      rw [show tN k = T.int (k : Int) from rfl, asLK_ok, p1, seq_nx]
      exact fin _ _ (by omega) (by simpa using hl) (okS _ _ _ he (sm _))
    · simp only [q1_tst, q1_bin, q1_call, q1_cons, q1_var, q1_C, q1_nil, List.getElem?_cons_zero, List.getElem?_cons_succ, bind_ok, t6]
      rw [show fEq (.int (w % 6)) (.int 0) = fun _ => some (.bl (decide (w % 6 = 0))) from by funext h0; simp]
      simp only [ofO_some, bind_ok, asB_bl, bindE_ok, c, decide_false, Bool.false_eq_true, if_false, q2_nil, seq_nx]
      exact fin _ _ w6 hl he
  · intro e he
    have := (List.mem_replicate.mp he).2
    omega
end
end Gd
namespace Gd
open PySem PySem.Spec PyProof.Rows L2 Sm
section
variable {h : Store} {fr : List Fr} {env : Env'} {a d : Addr} {e : Ex} {n : Nat}
theorem ways_methL {mo : M T} {r : M (List T)} {xs : List T} {nm : Str} {F : Fn} (em : mo env h = .ok (.loc n) h) (k : h[n]? = some (waysC fr)) (hn : (List.lookup nm [(sW, wantT fr), (sA, addsT fr)]).isNone = true) (er : r env h = .ok xs h) : mMeth 0 nm F mo r env h = F (.loc n :: xs) h := by
  unfold mMeth
  rw [em]
  simp only [bind_ok, insOf_at k]
  rw [if_pos hn, er]
  rfl
def stepP (fr : List Fr) (xs : List Int) : List Int := match firstL (wantsL fr) xs with
  | none => xs
  | some k => goneL xs (addF (fr.getD k (1, 1))) 1
def runP (fr : List Fr) (xs : List Int) : Nat → List Int
  | 0 => xs
  | n + 1 => stepP fr (runP fr xs n)
theorem goneL_len {xs as : List Int} {k : Int} (hx : xs.length = 10) (ha : as.length = 10) : (goneL xs as k).length = 10 := by simp [goneL, hx, ha]
theorem stepP_len {xs : List Int} (hx : xs.length = 10) : (stepP fr xs).length = 10 := by
  unfold stepP
  split
  · exact hx
  · exact goneL_len hx addF_len
theorem runP_len {xs : List Int} (hx : xs.length = 10) : ∀ n, (runP fr xs n).length = 10
  | 0 => hx
  | n + 1 => stepP_len (runP_len hx n)
theorem firstL_lt {xs : List Int} {k : Nat} (q : firstL (wantsL fr) xs = some k) : ∃ p, fr[k]? = some p ∧ fits xs (ex p.2) = true := by
  obtain ⟨⟨w, e1, e2⟩, _⟩ := firstL_some.mp q
  rw [wantsL, List.getElem?_map, Option.map_eq_some_iff] at e1
  obtain ⟨p, hp, rfl⟩ := e1
  exact ⟨p, hp, e2⟩
theorem getD_of {k : Nat} {p d : Fr} (q : fr[k]? = some p) : fr.getD k d = p := by simp [List.getD_eq_getElem?_getD, q]
theorem stop_by (f : Nat → Bool) : ∀ many : Nat, ∃ m, m ≤ many ∧ (∀ k, k < m → f k = false) ∧ (m = many ∨ f m = true)
  | 0 => ⟨0, Nat.le_refl _, fun k h => absurd h (by omega), .inl rfl⟩
  | n + 1 => by
    obtain ⟨m, a, b, c⟩ := stop_by f n
    by_cases q : m = n
    · subst q
      cases fm : f m with
      | true => exact ⟨m, by omega, b, .inr fm⟩
      | false =>
        refine ⟨m + 1, by omega, fun k hk => ?_, .inl rfl⟩
        by_cases e : k = m
        · rw [e]; exact fm
        · exact b k (by omega)
    · exact ⟨m, by omega, b, .inr (c.resolve_left q)⟩
abbrev restP (fr : List Fr) (xs : List Int) (j : Nat) : Bool := (firstL (wantsL fr) (runP fr xs j)).isNone
theorem range_ofB {r : M (List T)} {env : Env'} {h1 : Store} {e : Nat} (er : r env h = .ok [tN e] h1) (ee : e < 10000) : mRange1 r env h = .ok ⟨Sm.rangeT 0 e, []⟩ h1 := by
  rw [q1_range1, er, bind_ok]
  have := asR1_ok (h := h1) (k := (e : Int)) (by omega) (by omega)
  rw [Int.toNat_natCast] at this
  exact this
theorem after_wp {xs : List Int} {n m : Nat} (k : okP fr) (hl : fr.length ≤ 1000) (hx : xs.length = 10) (hn : n < 10000) (m1 : m ≤ n) (m2 : ∀ j, j < m → restP fr xs j = false) (m3 : m = n ∨ restP fr xs m = true) :
    (F_after [prT fr, iT xs, tN n] h).wp (fun t h' => m = n ∧ t = iT (runP fr xs n) ∧ h' = h) (fun e h' => m < n ∧ e = .fld 11 "steps" (tN m) ∧ h' = h) := by
  refine fn_wp rfl ?_
  show (b_after [some (prT fr), some (iT xs), some (tN n), none, none, none] h).wp _
  have nw := ways_new (h1 := h) (env := [some (prT fr), some (iT xs), some (tN n), none, none, none]) (r := mCons (mVar 0) mNil) (h := h) (by simp) k hl
  unfold b_after
  rw [q2_seq, q2_set, nw, bindE_ok, seq_nx, q2_seq, so_seq]
  rw [sFor_of (range_ofB (h1 := h ++ [waysC fr]) (e := n) (by simp) (by omega))]
  have at_ : (h ++ [waysC fr])[h.length]? = some (waysC fr) := by simp
  refine forLoop_wp _ (fun i env h' => i ≤ m ∧ h' = h ++ [waysC fr] ∧ env = [none, some (iT (runP fr xs i)), none, some (.loc h.length), none, none]) ?_ ?_ ⟨by omega, rfl, by simp [runP]⟩
  · rintro i x env h' hx' ⟨hi, rfl, rfl⟩
    obtain ⟨rfl, hin⟩ := range_at hx'
    refine ⟨by simp, _, b_one, ?_⟩
    rw [Int.zero_add]
    have hxi := runP_len (fr := fr) hx i
    have f1 := first_eq at_ hxi
    have c1 : ∀ t u : Option T, mMeth 0 "first" F_Ways_first (mVar 3) (mCons (mVar 1) mNil) [none, some (iT (runP fr xs i)), none, some (.loc h.length), t, u] (h ++ [waysC fr]) = .ok (optT (firstL (wantsL fr) (runP fr xs i))) (h ++ [waysC fr]) := fun t u => by
      rw [ways_methL (xs := [iT (runP fr xs i)]) (n := h.length) (by simp) at_ rfl (by simp), f1]
    simp only [List.set, q2_seq, q2_set, c1, bindE_ok, seq_nx]
    cases q : firstL (wantsL fr) (runP fr xs i) with
    | none =>
      have im : m = i := by
        by_cases z : i < m
        · have := m2 i z
          rw [restP, q] at this
          cases this
        · omega
      subst im
      have mn : m < n := hin
      simp -implicitDefEqProofs [optT, sRaiseF, fnP, mn, Ex.pu, si_app, tN]
    | some k =>
      have im : i < m := by
        rcases m3 with z | z
        · omega
        · by_cases w : i < m
          · exact w
          · have : i = m := by omega
            rw [restP, ← this, q] at z
            cases z
      obtain ⟨p, hp, _⟩ := firstL_lt q
      have g1 := gone_eq (q := 1) at_ hxi hp (by decide)
      have nx : runP fr xs (i + 1) = goneL (runP fr xs i) (addF p) 1 := by
        show stepP fr (runP fr xs i) = _
        rw [stepP, q]
        simp only [getD_of hp]
      have c2 : ∀ t, mMeth 0 "gone" F_Ways_gone (mVar 3) (mCons (mVar 1) (mCons (mVar 5) (mCons (mC (.int 1)) mNil))) [none, some (iT (runP fr xs i)), none, some (.loc h.length), t, some (tN k)] (h ++ [waysC fr]) = .ok (iT (runP fr xs (i + 1))) (h ++ [waysC fr]) := fun t => by
        rw [ways_methL (xs := [iT (runP fr xs i), tN k, .int 1]) (n := h.length) (by simp) at_ rfl (by simp), g1, nx]
      simp only [optT, q2_if, q1_tst, q1_bin, q1_var, q1_C, List.getElem?_cons_succ, List.getElem?_cons_zero, bind_ok]
      rw [show fIs (tN k) .non (h ++ [waysC fr]) = some (.bl false) by simp [tN]]
      simp only [ofO_some, bind_ok, asB_bl, bindE_ok, Bool.false_eq_true, if_false, q2_nil, seq_nx, q2_set, c2]
      exact ⟨im, rfl, rfl⟩
  · rintro env h' ⟨hi, rfl, rfl⟩
    rw [Sm.rangeT_length] at hi ⊢
    have e : m = n := by omega
    subst e
    simp -implicitDefEqProofs [fnP, si_app]
theorem step_wp {xs : List Int} (k : okP fr) (hl : fr.length ≤ 1000) (hx : xs.length = 10) :
    (F_step [prT fr, iT xs] h).wp (fun t h' => (firstL (wantsL fr) xs).isNone = false ∧ t = iT (stepP fr xs) ∧ h' = h) (fun e h' => (firstL (wantsL fr) xs).isNone = true ∧ e = .fld 11 "steps" (tN 0) ∧ h' = h) := by
  refine fn_wp rfl ?_
  show (b_step [some (prT fr), some (iT xs)] h).wp _
  simp only [b_step, q2_ret, q1_call, q1_cons, q1_var, q1_C, q1_nil, List.getElem?_cons_succ, List.getElem?_cons_zero, bind_ok]
  rw [so_bindE]
  cases q : (firstL (wantsL fr) xs).isNone with
  | true =>
    refine Out.wp_mono (after_wp (n := 1) (m := 0) k hl hx (by omega) (by omega) (fun j hj => absurd hj (by omega)) (.inr q)) (fun t h' z => ?_) fun e h' z => ?_
    · exact absurd z.1 (by omega)
    · obtain ⟨_, rfl, rfl⟩ := z
      simp [fnP, Ex.pu, tN]
  | false =>
    refine Out.wp_mono (after_wp (n := 1) (m := 1) k hl hx (by omega) (by omega) (fun j hj => ?_) (.inl rfl)) (fun t h' z => ?_) fun e h' z => ?_
    · rw [show j = 0 by omega]
      exact q
    · obtain ⟨_, rfl, rfl⟩ := z
      simp [fnP, runP]
    · exact absurd z.1 (by omega)
theorem first_fit_eq {xs : List Int} (k : okP fr) (hl : fr.length ≤ 1000) (hx : xs.length = 10) : F_first_fit [prT fr, iT xs] h = .ok (optT (firstL (wantsL fr) xs)) h := by
  refine Out.wp_eq (fn_wp rfl ?_)
  show (b_first_fit [some (prT fr), some (iT xs)] h).wp _
  have nw := ways_new (h1 := h) (env := [some (prT fr), some (iT xs)]) (r := mCons (mVar 0) mNil) (h := h) (by simp) k hl
  have at_ : (h ++ [waysC fr])[h.length]? = some (waysC fr) := by simp
  have f1 := first_eq at_ hx
  have po : (optT (firstL (wantsL fr) xs)).pu = true := by cases firstL (wantsL fr) xs <;> rfl
  have c1 : mMeth 0 "first" F_Ways_first (mNew 0 F_Ways_init (mCons (mVar 0) mNil)) (mCons (mVar 1) mNil) [some (prT fr), some (iT xs)] h = .ok (optT (firstL (wantsL fr) xs)) (h ++ [waysC fr]) := by
    unfold mMeth
    rw [nw]
    simp only [bind_ok, insOf_at at_]
    rw [if_pos (by rfl)]
    simp only [q1_cons, q1_var, q1_nil, List.getElem?_cons_succ, List.getElem?_cons_zero, bind_ok]
    exact f1
  simp only [b_first_fit, q2_ret, c1, bindE_ok]
  simp -implicitDefEqProofs [fnP, po, si_app]
end
end Gd
namespace Gd
open PySem PySem.Spec PyProof.Rows L2 Sm
section
variable {h : Store} {fr : List Fr} {xs : List Int} {n m : Nat}
def numP (fr : List Fr) (xs : List Int) (j : Nat) : Option Nat := firstL (wantsL fr) (runP fr xs j)
theorem numP_rest {j : Nat} : restP fr xs j = (numP fr xs j).isNone := rfl
theorem run_up {j k : Nat} {p : Fr} (q : numP fr xs j = some k) (hp : fr[k]? = some p) : runP fr xs (j + 1) = goneL (runP fr xs j) (addF p) 1 := by
  show stepP fr (runP fr xs j) = _
  rw [stepP, show firstL (wantsL fr) (runP fr xs j) = some k from q]
  simp only [getD_of hp]
theorem optT_pu {o : Option Nat} : (optT o).pu = true := by cases o <;> rfl
theorem isNot_opt {o : Option Nat} : fIsNot (optT o) .non h = some (.bl (!o.isNone)) := by cases o <;> rfl
theorem last_of {α : Type} {f : Nat → α} (m : Nat) : atI ((List.range (m + 1)).map f) (-1) = some (f m) := by
  have e : ixN (m + 1) (-1) = some m := by
    unfold ixN
    rw [if_neg (by omega), if_pos (by omega)]
    simp only [Option.some.injEq]
    omega
  unfold atI
  rw [List.length_map, List.length_range, e]
  simp
end
end Gd
namespace Gd
open PySem PySem.Spec PyProof.Rows L2 Sm
section
variable {h : Store} {fr : List Fr} {xs e : List Int} {n m k i : Nat} {p : Fr}
theorem pus_rows {L : List (List Int)} : pus (L.map rowT) = true := pus_map fun x => pu_iT
end
end Gd
namespace Gd
open PySem PySem.Spec PyProof.Rows L2 Sm
section
variable {h : Store} {fr : List Fr} {xs e : List Int} {n m k i : Nat} {p : Fr}
theorem more_end2 {xs ys : List T} (hl : xs.length + ys.length < 100000) (hy : pus ys = true) : outM (fExtend (.loc h.length) [.lst ys] (h ++ [.lst xs])) = .ok .non (h ++ [.lst (xs ++ ys)]) := by
  have c : cellL (h ++ [.lst xs]) h.length = some xs := by
    unfold cellL
    rw [at_end rfl]
  have l : lstOf (h ++ [Cell.lst xs]) (.lst ys) = some ys := rfl
  simp only [fExtend, c, l]
  rw [if_pos ⟨hl, hy⟩, set_end rfl]
  rfl
end
end Gd
namespace Gd
open PySem PySem.Spec PyProof.Rows L2 Sm
def doneP (fr : List Fr) (xs : List Int) : Option (List Int) := (fr.find? fun p => fits xs (ex p.2)).map addF
def doneT : Option (List Int) → T
  | none => .non
  | some a => iT a
theorem find_first : ∀ {fr : List Fr} {xs : List Int}, fr.find? (fun p => fits xs (ex p.2)) = (firstL (wantsL fr) xs).bind fun k => fr[k]?
  | [], xs => rfl
  | p :: r, xs => by
    have ih := find_first (fr := r) (xs := xs)
    show _ = (firstL (ex p.2 :: wantsL r) xs).bind _
    unfold firstL
    cases e : fits xs (ex p.2) with
    | true =>
      rw [List.find?_cons_of_pos (by simpa using e), if_pos rfl]
      rfl
    | false =>
      rw [List.find?_cons_of_neg (by simpa using e), if_neg Bool.false_ne_true, ih]
      cases firstL (wantsL r) xs <;> rfl
theorem done_first {fr : List Fr} {xs : List Int} {k : Nat} {p : Fr} (o : firstL (wantsL fr) xs = some k) (hp : fr[k]? = some p) : doneP fr xs = some (addF p) := by
  unfold doneP
  rw [find_first, o, Option.bind_some, hp]
  rfl
theorem done_none {fr : List Fr} {xs : List Int} (o : firstL (wantsL fr) xs = none) : doneP fr xs = none := by
  unfold doneP
  rw [find_first, o]
  rfl
def maxZ (xs ys : List Int) : List Int := (xs.zip ys).map fun p => if p.2 > p.1 then p.2 else p.1
theorem maxZ_len {xs ys : List Int} (hx : xs.length = 10) (hy : ys.length = 10) : (maxZ xs ys).length = 10 := by simp [maxZ, hx, hy]
theorem fits_refl : ∀ {xs : List Int}, fits xs xs = true
  | [] => rfl
  | x :: r => by
    have := fits_refl (xs := r)
    unfold fits at this ⊢
    simp only [List.zip_cons_cons, List.all_cons, Int.le_refl, decide_true, Bool.true_and, this]
theorem fits_trans : ∀ {xs ys zs : List Int}, ys.length = xs.length → fits xs ys = true → fits ys zs = true → fits xs zs = true
  | [], ys, zs, h, _, _ => by
    cases ys with
    | nil => rfl
    | cons y r => simp at h
  | x :: xs, [], zs, h, _, _ => by simp at h
  | x :: xs, y :: ys, [], h, _, _ => rfl
  | x :: xs, y :: ys, z :: zs, h, a, b => by
    unfold fits at a b ⊢
    simp only [List.zip_cons_cons, List.all_cons, Bool.and_eq_true, decide_eq_true_eq] at a b ⊢
    have := fits_trans (xs := xs) (ys := ys) (zs := zs) (by simpa using h) a.2 b.2
    unfold fits at this
    exact ⟨by omega, this⟩
theorem fits_max : ∀ {xs ws vs : List Int}, ws.length = xs.length → vs.length = xs.length → (fits xs (maxZ ws vs) = true ↔ fits xs ws = true ∧ fits xs vs = true) ∧ fits (maxZ ws vs) ws = true ∧ fits (maxZ ws vs) vs = true
  | [], [], [], _, _ => by simp [fits, maxZ]
  | [], _ :: _, _, h, _ => by simp at h
  | [], [], _ :: _, _, h => by simp at h
  | _ :: _, [], _, h, _ => by simp at h
  | _ :: _, _ :: _, [], _, h => by simp at h
  | x :: xs, w :: ws, v :: vs, h1, h2 => by
    obtain ⟨i1, i2, i3⟩ := fits_max (xs := xs) (ws := ws) (vs := vs) (by simpa using h1) (by simpa using h2)
    unfold fits maxZ at i1 i2 i3 ⊢
    simp only [List.zip_cons_cons, List.map_cons, List.all_cons, Bool.and_eq_true, decide_eq_true_eq] at i1 i2 i3 ⊢
    refine ⟨?_, ⟨?_, i2⟩, ⟨?_, i3⟩⟩
    · rw [i1]
      by_cases c : v > w
      · rw [if_pos c]
        constructor
        · rintro ⟨a, b1, b2⟩
          exact ⟨⟨by omega, b1⟩, ⟨a, b2⟩⟩
        · rintro ⟨⟨a, b1⟩, ⟨a2, b2⟩⟩
          exact ⟨a2, b1, b2⟩
      · rw [if_neg c]
        constructor
        · rintro ⟨a, b1, b2⟩
          exact ⟨⟨a, b1⟩, ⟨by omega, b2⟩⟩
        · rintro ⟨⟨a, b1⟩, ⟨a2, b2⟩⟩
          exact ⟨a, b1, b2⟩
    · split <;> omega
    · split <;> omega
theorem done_below {fr : List Fr} {xs ys : List Int} {p : Fr} (hy : ys.length = xs.length) (le : fits xs ys = true) (hp : fr.find? (fun p => fits xs (ex p.2)) = some p) (fy : fits ys (ex p.2) = true) : fr.find? (fun p => fits ys (ex p.2)) = some p := by
  obtain ⟨a, as, bs, e, h⟩ := List.find?_eq_some_iff_append.mp hp
  rw [List.find?_eq_some_iff_append]
  refine ⟨by simpa using fy, as, bs, e, fun q hq => ?_⟩
  have := h q hq
  cases z : fits ys (ex q.2) with
  | false => rfl
  | true =>
    have := fits_trans hy le z
    simp [this] at *
theorem done_under {fr : List Fr} {xs ys : List Int} (hy : ys.length = xs.length) (le : fits xs ys = true) (hp : fr.find? (fun p => fits xs (ex p.2)) = none) : fr.find? (fun p => fits ys (ex p.2)) = none := by
  rw [List.find?_eq_none] at hp ⊢
  intro q hq z
  exact hp q hq (by simpa using fits_trans hy le (by simpa using z))
def triedL (f g : List Fr) : List (List Int) := wantsL f ++ wantsL g ++ (wantsL f).flatMap fun w => (wantsL g).map (maxZ w)
theorem tried_len {f g : List Fr} : ∀ x ∈ triedL f g, x.length = 10 := fun x hx => by
  have wl : ∀ (f : List Fr) x, x ∈ wantsL f → x.length = 10 := fun f x hx => by
    obtain ⟨p, _, rfl⟩ := List.mem_map.mp hx
    exact ex_len
  simp only [triedL, List.mem_append] at hx
  rcases hx with (h | h) | h
  · exact wl f x h
  · exact wl g x h
  · obtain ⟨w, hw, h⟩ := List.mem_flatMap.mp h
    obtain ⟨v, hv, rfl⟩ := List.mem_map.mp h
    exact maxZ_len (wl f w hw) (wl g v hv)
theorem alike_all {f g : List Fr} {xs : List Int} (hx : xs.length = 10) (h : ∀ x ∈ triedL f g, doneP f x = doneP g x) : doneP f xs = doneP g xs := by
  have wf : ∀ {f : List Fr} {p : Fr}, f.find? (fun p => fits xs (ex p.2)) = some p → fits xs (ex p.2) = true ∧ ex p.2 ∈ wantsL f := fun e => ⟨by simpa using List.find?_some e, List.mem_map.mpr ⟨_, List.mem_of_find?_eq_some e, rfl⟩⟩
  cases ef : f.find? (fun p => fits xs (ex p.2)) with
  | none =>
    cases eg : g.find? (fun p => fits xs (ex p.2)) with
    | none => simp only [doneP, ef, eg]
    | some q =>
      obtain ⟨b1, b2⟩ := wf eg
      have := h (ex q.2) (by simp only [triedL, List.mem_append]; exact .inl (.inr b2))
      have a := done_under (ys := ex q.2) (by rw [hx, ex_len]) b1 ef
      have b := done_below (ys := ex q.2) (by rw [hx, ex_len]) b1 eg fits_refl
      simp only [doneP, a, b] at this
      cases this
  | some p =>
    obtain ⟨a1, a2⟩ := wf ef
    cases eg : g.find? (fun p => fits xs (ex p.2)) with
    | none =>
      have := h (ex p.2) (by simp only [triedL, List.mem_append]; exact .inl (.inl a2))
      have a := done_below (ys := ex p.2) (by rw [hx, ex_len]) a1 ef fits_refl
      have b := done_under (ys := ex p.2) (by rw [hx, ex_len]) a1 eg
      simp only [doneP, a, b] at this
      cases this
    | some q =>
      obtain ⟨b1, b2⟩ := wf eg
      obtain ⟨m1, m2, m3⟩ := fits_max (xs := xs) (ws := ex p.2) (vs := ex q.2) (by rw [hx, ex_len]) (by rw [hx, ex_len])
      have ml : (maxZ (ex p.2) (ex q.2)).length = xs.length := by rw [maxZ_len ex_len ex_len, hx]
      have := h (maxZ (ex p.2) (ex q.2)) (by
        simp only [triedL, List.mem_append]
        exact .inr (List.mem_flatMap.mpr ⟨_, a2, List.mem_map.mpr ⟨_, b2, rfl⟩⟩))
      have le := m1.mpr ⟨a1, b1⟩
      have a := done_below ml le ef m2
      have b := done_below ml le eg m3
      simp only [doneP, a, b, ef, eg] at this ⊢
      exact this
theorem done_filter {fr : List Fr} {xs : List Int} (q : Nat → Bool) (h : ∀ k p, fr[k]? = some p → q k = false → fits xs (ex p.2) = true → ∃ j r, j < k ∧ fr[j]? = some r ∧ fits xs (ex r.2) = true) :
    (((List.range fr.length).filter q).map fun n => fr.getD n (1, 1)).find? (fun p => fits xs (ex p.2)) = fr.find? (fun p => fits xs (ex p.2)) := by
  cases e : fr.find? (fun p => fits xs (ex p.2)) with
  | none =>
    rw [List.find?_eq_none] at e ⊢
    intro p hp
    obtain ⟨n, hn, rfl⟩ := List.mem_map.mp hp
    have hn := List.mem_range.mp (List.mem_filter.mp hn).1
    rw [List.getD_eq_getElem?_getD, List.getElem?_eq_getElem hn]
    exact e _ (List.getElem_mem hn)
  | some p =>
    rw [find_first] at e
    cases o : firstL (wantsL fr) xs with
    | none => rw [o] at e; cases e
    | some k =>
      rw [o, Option.bind_some] at e
      obtain ⟨⟨w, e1, e2⟩, e3⟩ := firstL_some.mp o
      have lt : ∀ j r, j < k → fr[j]? = some r → fits xs (ex r.2) = false := fun j r hj hr => e3 j _ hj (by simp [wantsL, hr])
      have fp : fits xs (ex p.2) = true := by
        have : (wantsL fr)[k]? = some (ex p.2) := by simp [wantsL, e]
        rw [this] at e1
        cases e1
        exact e2
      have hk : k < fr.length := (List.getElem?_eq_some_iff.mp e).1
      have qk : q k = true := by
        cases z : q k with
        | true => rfl
        | false =>
          obtain ⟨j, r, hj, hr, hf⟩ := h k p e z fp
          rw [lt j r hj hr] at hf
          cases hf
      have sp : List.range fr.length = List.range k ++ k :: (List.range fr.length).drop (k + 1) := by
        have e1 : (List.range fr.length).take k = List.range k := by rw [List.take_range, Nat.min_eq_left (by omega)]
        have e2 : (List.range fr.length).drop k = k :: (List.range fr.length).drop (k + 1) := by
          rw [List.drop_eq_getElem_cons (by simpa using hk), List.getElem_range]
        rw [← e1, ← e2, List.take_append_drop]
      rw [sp, List.filter_append, List.filter_cons_of_pos qk, List.map_append, List.map_cons, List.find?_append]
      have n1 : (((List.range k).filter q).map fun n => fr.getD n (1, 1)).find? (fun p => fits xs (ex p.2)) = none := by
        rw [List.find?_eq_none]
        intro r hr z
        obtain ⟨j, hj, rfl⟩ := List.mem_map.mp hr
        have hj := List.mem_range.mp (List.mem_filter.mp hj).1
        obtain ⟨r2, hr2⟩ : ∃ r2, fr[j]? = some r2 := ⟨_, List.getElem?_eq_getElem (by omega)⟩
        rw [getD_of hr2] at z
        rw [lt j r2 hj hr2] at z
        cases z
      rw [n1, getD_of e, List.find?_cons_of_pos (by simpa using fp)]
      rfl
end Gd
namespace Gd
open PySem PySem.Spec PyProof.Rows L2 Sm
section
variable {h : Store} {fr f g : List Fr} {xs ys : List Int} {n m k : Nat}
theorem done_with_eq (e : h[n]? = some (waysC fr)) (hx : xs.length = 10) : F_done_with [.loc n, iT xs] h = .ok (doneT (doneP fr xs)) h := by
  refine Out.wp_eq (fn_wp rfl ?_)
  show (b_done_with [some (.loc n), some (iT xs), none] h).wp _
  have c1 : mMeth 0 "first" F_Ways_first (mVar 0) (mCons (mVar 1) mNil) [some (.loc n), some (iT xs), none] h = .ok (optT (firstL (wantsL fr) xs)) h := by
    rw [ways_methL (xs := [iT xs]) (n := n) (by simp) e rfl (by simp), first_eq e hx]
  unfold b_done_with
  simp -implicitDefEqProofs only [q2_seq, q2_set, c1, bindE_ok, seq_nx, List.set, q2_if, q1_tst, q1_bin, q1_var, q1_C, List.getElem?_cons_zero, List.getElem?_cons_succ, bind_ok]
  cases o : firstL (wantsL fr) xs with
  | none =>
    rw [done_none o, show fIs (optT none) .non h = some (.bl true) from rfl]
    simp -implicitDefEqProofs only [ofO_some, bind_ok, asB_bl, bindE_ok, if_true, q2_ret, q1_C]
    exact ⟨si_self, .inl ⟨rfl, rfl, by simp⟩⟩
  | some k =>
    obtain ⟨p, hp, _⟩ := firstL_lt o
    have hk : k < fr.length := (List.getElem?_eq_some_iff.mp hp).1
    have ad : mBin fIdx (mFld 0 "adds" (mVar 0)) (mVar 2) [some (.loc n), some (iT xs), some (tN k)] h = .ok (iT (addF p)) h := by
      simp only [q1_bin, q1_fld, q1_var, List.getElem?_cons_zero, List.getElem?_cons_succ, bind_ok]
      rw [show (("adds" : Str)) = sA from rfl, ways_adds e]
      simp only [ofO_some, bind_ok, tN, q3_idxL]
      rw [atI_p (by omega) (by simpa using hk)]
      simp [hp]
    rw [done_first o hp, show fIs (optT (some k)) .non h = some (.bl false) from rfl, show optT (some k) = tN k from rfl]
    simp -implicitDefEqProofs only [ofO_some, bind_ok, asB_bl, bindE_ok, Bool.false_eq_true, if_false, q2_nil, seq_nx, q2_ret, ad]
    exact ⟨si_self, .inl ⟨pu_iT, rfl, by simp⟩⟩
theorem done_okD {o : Option (List Int)} : okD 1 (doneT o) := by
  cases o with
  | none => trivial
  | some a => exact okD_ints
theorem beq_done {o u : Option (List Int)} : beqT (doneT o) (doneT u) = decide (o = u) := by
  cases o with
  | none =>
    cases u with
    | none => rfl
    | some b =>
      unfold beqT doneT
      rw [datO_tup ints_has]
      simp [datO, dat, PyData.eqv]
  | some a =>
    cases u with
    | none =>
      unfold beqT doneT
      rw [datO_tup ints_has]
      simp [datO, dat, PyData.eqv]
    | some b =>
      show beqT (iT a) (iT b) = _
      rw [beq_ints]
      simp
theorem ne_done {o u : Option (List Int)} : fNe (doneT o) (doneT u) h = some (.bl (!decide (o = u))) := by
  rw [fNe_ok done_okD done_okD (by decide) (by decide), beq_done]
theorem max_comp {env : Env'} {a b i j : Nat} (ea : env[a]? = some (some (iT xs))) (eb : env[b]? = some (some (iT ys))) (hx : xs.length = 10) (h1 : i < env.length) (h2 : j < env.length) (ne : i ≠ j) :
    mCallF fTuple (mCons (mFrz (mComp (mZip (mCons (mVar a) (mCons (mVar b) mNil))) [i, j] (.tup [i, j]) mYes (mCallF fMax (mCons (mVar i) (mCons (mVar j) mNil))))) mNil) env h = .ok (iT (maxZ xs ys)) h := by
  have es : mZip (mCons (mVar a) (mCons (mVar b) mNil)) env h = .ok ⟨zpT xs ys, []⟩ h := src_zip (by simp [ea, eb])
  have cz := comp_zip (own := [i, j]) (tg := .tup [i, j]) (me := mCallF fMax (mCons (mVar i) (mCons (mVar j) mNil))) (fun x y => .int (if y > x then y else x)) es (by omega) fun x y => ⟨_, b_tup, by
    have l1 : i < (dropE [i, j] env).length := by simpa [dropE] using h1
    have l2 : j < (dropE [i, j] env).length := by simpa [dropE] using h2
    simp only [setT, q1_callF, q1_cons, q1_nil, q1_var]
    rw [List.getElem?_set_ne (Ne.symm ne), List.getElem?_set_self l1]
    simp only [bind_ok]
    rw [List.getElem?_set_self (by simpa using l2)]
    rfl⟩
  rw [zip_ints (f := fun x y => if y > x then y else x)] at cz
  simp -implicitDefEqProofs only [q1_callF, q1_cons, q1_frz, q1_nil, cz, bind_ok, tup_lst, ofO_some]
  rfl
theorem both_wants_eq (hx : xs.length = 10) : F_both_wants [iT xs, iT ys] h = .ok (iT (maxZ xs ys)) h := by
  refine Out.wp_eq (fn_wp rfl ?_)
  show (b_both_wants [some (iT xs), some (iT ys), none, none] h).wp _
  unfold b_both_wants
  rw [q2_ret, max_comp rfl rfl hx (by simp) (by simp) (by simp)]
  exact ⟨si_self, .inl ⟨pu_iT, rfl, by simp⟩⟩
def unF (f g : List Fr) : Option (List Int) := (triedL f g).find? fun x => !decide (doneP f x = doneP g x)
theorem wants_rows : wantT fr = .lst ((wantsL fr).map rowT) := by
  unfold wantsL
  rw [List.map_map]
  rfl
theorem unlike_eq (kf : okP f) (kg : okP g) (lf : f.length ≤ 100) (lg : g.length ≤ 100) : F_unlike_at [prT f, prT g] h = .ok (doneT (unF f g)) h := by
  refine Out.wp_eq (fn_wp rfl ?_)
  show (b_unlike_at [some (prT f), some (prT g), none, none, none, none, none, none] h).wp _
  have n1 := ways_new (h1 := h) (env := [some (prT f), some (prT g), none, none, none, none, none, none]) (r := mCons (mVar 0) mNil) (h := h) (by simp) kf (by omega)
  have n2 := ways_new (h1 := h ++ [waysC f]) (env := [some (prT f), some (prT g), some (.loc h.length), none, none, none, none, none]) (r := mCons (mVar 1) mNil) (h := h ++ [waysC f]) (by simp) kg (by omega)
  have l1 : (h ++ [waysC f]).length = h.length + 1 := by simp
  rw [l1] at n2
  have g1 : (h ++ [waysC f] ++ [waysC g])[h.length]? = some (waysC f) := by simp
  have g2 : (h ++ [waysC f] ++ [waysC g])[h.length + 1]? = some (waysC g) := at_end l1
  have l2 : (h ++ [waysC f] ++ [waysC g]).length = h.length + 2 := by simp
  have tk : ∀ l, (h ++ [waysC f] ++ [waysC g] ++ l).take h.length = h := fun l => by simp
  have si : ∀ l, sameIns h (h ++ [waysC f] ++ [waysC g] ++ l) := fun l => by rw [List.append_assoc, List.append_assoc]; exact si_more
  generalize h ++ [waysC f] ++ [waysC g] = W at n2 g1 g2 l2 tk si
  have gf : ∀ l, (W ++ l)[h.length]? = some (waysC f) := fun l => by rw [at_old (by omega), g1]
  have gg : ∀ l, (W ++ l)[h.length + 1]? = some (waysC g) := fun l => by rw [at_old (by omega), g2]
  have ff : ∀ (l : Store) (env : Env') (i : Nat), env[i]? = some (some (.loc h.length)) → mFld 0 "wants" (mVar i) env (W ++ l) = .ok (wantT f) (W ++ l) := fun l env i e => by
    rw [q1_fld, q1_var, e]
    simp only [bind_ok]
    rw [show (("wants" : Str)) = sW from rfl, ways_wants (gf l)]
    rfl
  have fg : ∀ (l : Store) (env : Env') (i : Nat), env[i]? = some (some (.loc (h.length + 1))) → mFld 0 "wants" (mVar i) env (W ++ l) = .ok (wantT g) (W ++ l) := fun l env i e => by
    rw [q1_fld, q1_var, e]
    simp only [bind_ok]
    rw [show (("wants" : Str)) = sW from rfl, ways_wants (gg l)]
    rfl
  have wl : ∀ (f : List Fr), (wantsL f).length = f.length := fun f => by simp [wantsL]
  have ct : fCat (.lst ((wantsL f).map rowT)) (.lst ((wantsL g).map rowT)) W = some ((wantsL f ++ wantsL g).map rowT) := by
    rw [cat_lst (by simp only [List.length_map, wl]; omega), List.map_append]
  have ff0 := ff [] [some (prT f), some (prT g), some (.loc h.length), some (.loc (h.length + 1)), none, none, none, none] 2 rfl
  have fg0 := fg [] [some (prT f), some (prT g), some (.loc h.length), some (.loc (h.length + 1)), none, none, none, none] 3 rfl
  rw [List.append_nil] at ff0 fg0
  have nc : mCell (mNew2 fCat (mFrz (mNewA fList (mCons (mFld 0 "wants" (mVar 2)) mNil))) (mFrz (mNewA fList (mCons (mFld 0 "wants" (mVar 3)) mNil)))) [some (prT f), some (prT g), some (.loc h.length), some (.loc (h.length + 1)), none, none, none, none] W = .ok (.loc (h.length + 2)) (W ++ [.lst ((wantsL f ++ wantsL g).map rowT)]) := by
    have pr := pus_rows (L := wantsL f ++ wantsL g)
    simp -implicitDefEqProofs only [q1_cell, q1_new2, q1_frz, q1_newA, q1_cons, q1_nil, ff0, fg0, bind_ok, wants_rows, list_lst, ofO_some, ct, pr, if_true, l2]
  unfold b_unlike_at
  simp -implicitDefEqProofs only [q2_seq, q2_set, n1, bindE_ok, seq_nx, List.set, n2, nc]
  rw [so_seq, sFor_of (h1 := W ++ [.lst ((wantsL f ++ wantsL g).map rowT)]) (s := ⟨(wantsL f).map rowT, []⟩) (by rw [q1_seqS, ff _ _ 2 rfl, wants_rows]; rfl)]
  refine forLoop_wp _ (fun i env h' => h' = W ++ [.lst ((wantsL f ++ wantsL g ++ ((wantsL f).take i).flatMap fun w => (wantsL g).map (maxZ w)).map rowT)] ∧ env = [none, none, some (.loc h.length), some (.loc (h.length + 1)), some (.loc (h.length + 2)), none, none, none]) ?_ ?_ ⟨by simp, rfl⟩
  · rintro i x env h' hx ⟨rfl, rfl⟩
    obtain ⟨w, hw, rfl, hi⟩ := getm hx
    have w10 : w.length = 10 := tried_len (f := f) (g := g) w (by simp only [triedL, List.mem_append]; exact .inl (.inl (List.mem_of_getElem? hw)))
    refine ⟨by simp, _, b_one, ?_⟩
    have bd : (((wantsL f).take i).flatMap fun w => (wantsL g).map (maxZ w)).length ≤ 100 * 100 := by
      have e : ∀ L : List (List Int), (L.flatMap fun w => (wantsL g).map (maxZ w)).length = L.length * g.length := fun L => by
        induction L with
        | nil => simp
        | cons a r ih => simp only [List.flatMap_cons, List.length_append, ih, List.length_map, wl, List.length_cons, Nat.add_mul, Nat.one_mul]; omega
      rw [e]
      have := List.length_take_le' i (wantsL f)
      rw [wl] at this
      exact Nat.mul_le_mul (by omega) lg
    have up : ((wantsL f).take (i + 1)).flatMap (fun w => (wantsL g).map (maxZ w)) = ((wantsL f).take i).flatMap (fun w => (wantsL g).map (maxZ w)) ++ (wantsL g).map (maxZ w) := by
      rw [take_snoc hw, List.flatMap_append]
      simp
    rw [up]
    generalize ((wantsL f).take i).flatMap (fun w => (wantsL g).map (maxZ w)) = L at bd
    have ex := more_end2 (h := W) (xs := (wantsL f ++ wantsL g ++ L).map rowT) (ys := ((wantsL g).map (maxZ w)).map rowT) (by simp only [List.length_map, List.length_append, wl]; omega) pus_rows
    rw [l2, ← List.map_append, List.append_assoc (wantsL f ++ wantsL g)] at ex
    have lo : lstOf (W ++ [Cell.lst ((wantsL f ++ wantsL g ++ L).map rowT)]) (.loc (h.length + 2)) = some ((wantsL f ++ wantsL g ++ L).map rowT) := by simp only [lstOf, at_end l2]
    have fgX := fun env i e => fg [.lst ((wantsL f ++ wantsL g ++ L).map rowT)] env i e
    generalize W ++ [Cell.lst ((wantsL f ++ wantsL g ++ L).map rowT)] = X at ex lo fgX ⊢
    have kc := compLoop_map (gs := []) (tg := .one 7) (me := mCall F_both_wants (mCons (mVar 5) (mCons (mVar 7) mNil))) (env := [none, none, some (.loc h.length), some (.loc (h.length + 1)), some (.loc (h.length + 2)), some (rowT w), none, none]) (h := X) ((wantsL g).map rowT) (fun t => match t with | .tup ts => rowT (maxZ w ((intsOf? ts).getD [])) | _ => .non) (by simp) (by simp only [List.length_map, wl]; omega) fun z hz => by
      obtain ⟨v, hv, rfl⟩ := List.mem_map.mp hz
      have bw := both_wants_eq (h := X) (xs := w) (ys := v) w10
      have e : (match rowT v with | .tup ts => rowT (maxZ w ((intsOf? ts).getD [])) | _ => .non) = iT (maxZ w v) := by
        show rowT (maxZ w ((intsOf? (v.map T.int)).getD [])) = _
        rw [Sm.ints_map]
        rfl
      refine ⟨_, b_one, ?_⟩
      rw [e, show rowT v = iT v from rfl, show rowT w = iT w from rfl]
      simp -implicitDefEqProofs only [List.set, q1_call, q1_cons, q1_nil, q1_var, List.getElem?_cons_zero, List.getElem?_cons_succ, bind_ok, bw]
    have em : ((wantsL g).map rowT).map (fun t => match t with | .tup ts => rowT (maxZ w ((intsOf? ts).getD [])) | _ => .non) = ((wantsL g).map (maxZ w)).map rowT := by
      simp only [List.map_map]
      refine List.map_congr_left fun v _ => ?_
      show rowT (maxZ w ((intsOf? (v.map T.int)).getD [])) = _
      rw [Sm.ints_map]
      rfl
    rw [em] at kc
    have cm : mFrz (mComp (mSeq (mFld 0 "wants" (mVar 3))) [7] (.one 7) mYes (mCall F_both_wants (mCons (mVar 5) (mCons (mVar 7) mNil)))) [none, none, some (.loc h.length), some (.loc (h.length + 1)), some (.loc (h.length + 2)), some (rowT w), none, none] X = .ok (.lst (((wantsL g).map (maxZ w)).map rowT)) X := by
      rw [q1_frz]
      unfold mComp
      rw [q1_seqS, fgX _ 3 rfl, wants_rows]
      simp only [bind_ok, asS_lst]
      rw [show dropE [7] [none, none, some (T.loc h.length), some (.loc (h.length + 1)), some (.loc (h.length + 2)), some (rowT w), none, none] = [none, none, some (T.loc h.length), some (.loc (h.length + 1)), some (.loc (h.length + 2)), some (rowT w), none, none] from rfl, kc]
      rfl
    simp -implicitDefEqProofs only [List.set, q2_exp, q1_meth, q1_cons, q1_nil, q1_var, List.getElem?_cons_zero, List.getElem?_cons_succ, bind_ok, lo, cm, ex, bindE_ok]
    exact ⟨rfl, rfl⟩
  · rintro env h' ⟨rfl, rfl⟩
    refine ⟨by simp, ?_⟩
    simp only [List.length_map, List.take_length]
    show ((sSeq _ _) _ (W ++ [.lst ((triedL f g).map rowT)])).wp _
    have e4 : (W ++ [Cell.lst ((triedL f g).map rowT)])[h.length + 2]? = some (.lst ((triedL f g).map rowT)) := at_end l2
    have gfX := gf [.lst ((triedL f g).map rowT)]
    have ggX := gg [.lst ((triedL f g).map rowT)]
    have tkX := tk [.lst ((triedL f g).map rowT)]
    have siX := si [.lst ((triedL f g).map rowT)]
    generalize W ++ [Cell.lst ((triedL f g).map rowT)] = X at e4 gfX ggX tkX siX
    rw [q2_seq, so_seq, sFor_of (h1 := X) (s := ⟨(triedL f g).map rowT, [(h.length + 2, (triedL f g).map rowT)]⟩) (by rw [q1_seqS, q1_var]; simp only [List.getElem?_cons_zero, List.getElem?_cons_succ, bind_ok, asS_loc e4])]
    have go : gsOk X [(h.length + 2, (triedL f g).map rowT)] := fun z hz => by rw [List.mem_singleton.mp hz]; exact e4
    refine forLoop_wp _ (fun i env h' => h' = X ∧ (∀ j y, j < i → (triedL f g)[j]? = some y → doneP f y = doneP g y) ∧ env = [none, none, some (.loc h.length), some (.loc (h.length + 1)), none, none, none, none]) ?_ ?_ ⟨rfl, fun j y hj => absurd hj (by omega), rfl⟩
    · rintro i x env h' hx ⟨rfl, ih, rfl⟩
      obtain ⟨y, hy, rfl, hi⟩ := getm hx
      have y10 := tried_len y (List.mem_of_getElem? hy)
      refine ⟨go, _, b_one, ?_⟩
      have d1 := done_with_eq gfX y10
      have d2 := done_with_eq ggX y10
      have nd := ne_done (h := h') (o := doneP f y) (u := doneP g y)
      rw [show rowT y = iT y from rfl]
      simp -implicitDefEqProofs only [List.set, q2_if, q1_tst, q1_bin, q1_call, q1_cons, q1_nil, q1_var, List.getElem?_cons_zero, List.getElem?_cons_succ, bind_ok, d1, d2, nd, ofO_some, asB_bl, bindE_ok]
      by_cases c : doneP f y = doneP g y
      · simp only [c, decide_true, Bool.not_true, Bool.false_eq_true, if_false, q2_nil]
        refine ⟨rfl, fun j z hj hz => ?_, rfl⟩
        by_cases q : j = i
        · subst q
          rw [hy] at hz
          cases hz
          exact c
        · exact ih j z (by omega) hz
      · simp only [c, decide_false, Bool.not_false, if_true, q2_ret, q1_var, List.getElem?_cons_zero, List.getElem?_cons_succ, bindE_ok, so_rt]
        have fu : unF f g = some y := by
          unfold unF
          refine List.find?_eq_some_iff_getElem.mpr ⟨by simp [c], i, (List.getElem?_eq_some_iff.mp hy).1, (List.getElem?_eq_some_iff.mp hy).2, fun j hj => ?_⟩
          have := ih j _ hj (List.getElem?_eq_getElem (by have := (List.getElem?_eq_some_iff.mp hy).1; omega))
          simp [this]
        exact ⟨siX, .inl ⟨pu_iT, by rw [fu]; rfl, tkX⟩⟩
    · rintro env h' ⟨rfl, ih, rfl⟩
      refine ⟨go, ?_⟩
      have fu : unF f g = none := by
        unfold unF
        rw [List.find?_eq_none]
        intro y hy
        obtain ⟨j, hj⟩ := List.getElem?_of_mem hy
        have := ih j y (by rw [List.length_map]; exact (List.getElem?_eq_some_iff.mp hj).1) hj
        simp [this]
      simp only [q2_ret, q1_C, bindE_ok, so_rt]
      exact ⟨siX, .inl ⟨rfl, by rw [fu]; rfl, tkX⟩⟩
end
end Gd
namespace Gd
open PySem PySem.Spec PyProof.Rows L2 Sm
section
variable {h Y : Store} {fr f g : List Fr} {xs ys : List Int} {n m k p : Nat} {ps : List Nat}
end
end Gd
namespace Gd
open PySem PySem.Spec PyProof.Rows L2 Sm
def bt (fr : List Fr) (n : Nat) : Nat := (fr.getD n (1, 1)).2
def idleB (fr : List Fr) (n : Nat) : Bool := (List.range n).any fun e => fits (ex (bt fr n)) (ex (bt fr e))
def idleL (fr : List Fr) (k : Nat) : List Nat := (List.range k).filter (idleB fr)
theorem idleL_succ {fr : List Fr} {k : Nat} : idleL fr (k + 1) = idleL fr k ++ if idleB fr k then [k] else [] := by
  unfold idleL
  rw [List.range_succ, List.filter_append]
  cases c : idleB fr k <;> simp [c]
theorem idleL_len {fr : List Fr} {k : Nat} : (idleL fr k).length ≤ k := by
  have := List.length_filter_le (idleB fr) (List.range k)
  rwa [List.length_range] at this
theorem bt_at {fr : List Fr} {n : Nat} (h : n < fr.length) : ∃ p, fr[n]? = some p ∧ bt fr n = p.2 := ⟨fr[n], List.getElem?_eq_getElem h, by unfold bt; rw [List.getD_eq_getElem?_getD, List.getElem?_eq_getElem h]; rfl⟩
section
variable {h : Store} {fr : List Fr}
theorem within_eq {xs ys : List Int} (hx : xs.length ≤ 1000) : F_is_within [iT xs, iT ys] h = .ok (.bl (fits ys xs)) h := by
  refine Out.wp_eq (fn_wp rfl ?_)
  show (b_is_within [some (iT xs), some (iT ys), none, none] h).wp _
  have sc : mCallF fAll (mCons (mFrz (mComp (mZip (mCons (mVar 0) (mCons (mVar 1) mNil))) [2, 3] (.tup [2, 3]) mYes (mBin fLe (mVar 2) (mVar 3)))) mNil) [some (iT xs), some (iT ys), none, none] h = .ok (.bl ((xs.zip ys).all fun p => decide (p.1 ≤ p.2))) h :=
    comp_all (fun x y => decide (x ≤ y)) (src_zip (by simp)) hx fun x y => ⟨_, b_tup, by simp [setT]⟩
  have e : ((xs.zip ys).all fun p => decide (p.1 ≤ p.2)) = fits ys xs := by
    unfold fits
    clear sc hx
    induction xs generalizing ys with
    | nil => simp
    | cons x r ih =>
      cases ys with
      | nil => simp
      | cons y s => simp [ih]
  rw [e] at sc
  rw [b_is_within, q2_ret, sc]
  simp [fnP]
theorem want_at81 {n : Nat} (hn : n < fr.length) : atI (fr.map fun p => iT (ex p.2)) (n : Int) = some (iT (ex (bt fr n))) := by
  obtain ⟨p, hp, e⟩ := bt_at hn
  rw [atI_p (by omega) (by simpa using hn)]
  simp [hp, e]
theorem idle_any {i n : Nat} (hl : fr.length < 1000) (hi : i < fr.length) : mCallF fAny (mCons (mFrz (mComp (mRange1 (mCons (mVar 3) mNil)) [4] (.one 4) mYes (mCall F_is_within (mCons (mBin fIdx (mVar 1) (mVar 4)) (mCons (mBin fIdx (mVar 1) (mVar 3)) mNil))))) mNil) [none, some (wantT fr), some (.loc n), some (.int (i : Int)), none] (h) = .ok (.bl (idleB fr i)) (h) := by
  have kc := compLoop_map (gs := []) (tg := .one 4) (me := mCall F_is_within (mCons (mBin fIdx (mVar 1) (mVar 4)) (mCons (mBin fIdx (mVar 1) (mVar 3)) mNil))) (env := [none, some (wantT fr), some (.loc n), some (.int (i : Int)), none]) (h := h)
    (Sm.rangeT 0 i) (fun t => match t with | .int u => .bl (fits (ex (bt fr i)) (ex (bt fr u.toNat))) | _ => .non) (by simp) (by rw [Sm.rangeT_length]; omega) fun x hx => by
      obtain ⟨j, hj⟩ := List.mem_iff_getElem?.mp (show x ∈ Sm.rangeT 0 i from hx)
      obtain ⟨rfl, hj2⟩ := range_at hj
      rw [Int.zero_add]
      refine ⟨_, b_one, ?_⟩
      simp [want_at81 (show j < fr.length by omega), want_at81 hi, within_eq (xs := ex (bt fr j)) (by rw [ex_len]; omega)]
  have em : (Sm.rangeT 0 i).map (fun t => match t with | .int u => T.bl (fits (ex (bt fr i)) (ex (bt fr u.toNat))) | _ => .non) = (List.range i).map fun e => T.bl (fits (ex (bt fr i)) (ex (bt fr e))) := by
    unfold Sm.rangeT
    rw [List.map_map]
    refine List.map_congr_left fun e _ => ?_
    show T.bl (fits (ex (bt fr i)) (ex (bt fr (0 + (e : Int)).toNat))) = _
    rw [Int.zero_add, Int.toNat_natCast]
  rw [em] at kc
  have ra : mRange1 (mCons (mVar 3) mNil) [none, some (wantT fr), some (.loc n), some (.int (i : Int)), none] (h) = .ok ⟨Sm.rangeT 0 i, []⟩ (h) := range_of (e := i) (by simp [tN]) (by omega)
  simp only [q1_callF, q1_cons, q1_frz, q1_nil, mComp, ra, bind_ok]
  rw [show dropE [4] [none, some (wantT fr), some (.loc n), some (.int (i : Int)), none] = [none, some (wantT fr), some (.loc n), some (.int (i : Int)), none] from rfl, kc]
  simp only [bind_ok]
  rw [any_map (fun e => fits (ex (bt fr i)) (ex (bt fr e)))]
  rfl
theorem idle_body (k : okP fr) (hl : fr.length < 1000) {P : Pst} (q : P.rt (.loc (h.length + 1)) (h ++ [waysC fr] ++ [.lst ((idleL fr fr.length).map tN)])) : (b_idle [some (prT fr), none, none, none, none] h).wp P := by
  have w1 : mFld 0 "wants" (mNew 0 F_Ways_init (mCons (mVar 0) mNil)) [some (prT fr), none, none, none, none] h = .ok (wantT fr) (h ++ [waysC fr]) := by
    rw [q1_fld, ways_new (h1 := h) (by simp) k (by omega)]
    simp only [bind_ok]
    rw [show (("wants" : Str)) = sW from rfl, ways_wants (fr := fr) (by simp)]
    rfl
  have hlen : (h ++ [waysC fr]).length = h.length + 1 := by simp
  rw [b_idle, q2_seq, q2_set, w1, bindE_ok, seq_nx]
  simp -implicitDefEqProofs only [q2_seq, q2_set, bindE_ok, seq_nx, q1_cell, q1_lst, q1_nil, bind_ok, List.length_nil, Nat.zero_le, if_true, pus_nil, so_seq, List.set]
  rw [sFor_of (range_of (h1 := h ++ [waysC fr] ++ [.lst []]) (e := fr.length) (by simp [tN]) (by omega))]
  refine forLoop_wp _ (fun i env h' => h' = h ++ [waysC fr] ++ [.lst ((idleL fr i).map tN)] ∧ env = [none, some (wantT fr), some (.loc (h.length + 1)), none, none]) ?_ ?_ ⟨rfl, by simp⟩
  · rintro i x env h' hx ⟨rfl, rfl⟩
    obtain ⟨rfl, hi⟩ := range_at hx
    refine ⟨by simp, _, b_one, ?_⟩
    rw [Int.zero_add]
    have ta := idle_any (fr := fr) hl hi (h := h ++ [waysC fr] ++ [.lst ((idleL fr i).map tN)]) (n := h.length + 1)
    simp only [List.set, q2_if, q1_tru, ta, bind_ok, truF_bl, ofO_some, bindE_ok]
    rw [idleL_succ]
    cases c : idleB fr i with
    | true =>
      have ll := idleL_len (fr := fr) (k := i)
      simp
      rw [show h ++ [waysC fr, Cell.lst ((idleL fr i).map tN)] = (h ++ [waysC fr]) ++ [Cell.lst ((idleL fr i).map tN)] by simp, e_append hlen (by simp; omega) rfl]
      simp [tN]
    | false => simp
  · rintro env h' ⟨rfl, rfl⟩
    rw [Sm.rangeT_length]
    exact ⟨by simp, q⟩
theorem idle_wp (k : okP fr) (hl : fr.length < 1000) : F_idle [prT fr] h = .ok (.loc (h.length + 1)) (h ++ [waysC fr] ++ [.lst ((idleL fr fr.length).map tN)]) := by
  refine Out.wp_eq' (fnK_wp rfl ?_)
  show (b_idle [some (prT fr), none, none, none, none] h).wp _
  exact idle_body k hl ⟨rfl, rfl⟩
theorem inT_nat {i : Nat} : ∀ ns : List Nat, inT (tN i) (ns.map tN) = decide (i ∈ ns)
  | [] => rfl
  | x :: r => by
    have ih := inT_nat (i := i) r
    unfold inT at ih ⊢
    rw [List.map_cons, List.any_cons, ih]
    rw [show eqT (tN x) (tN i) = decide ((i : Int) = (x : Int)) from eqT_int]
    by_cases c : i = x
    · simp [c]
    · have : ¬ (i : Int) = (x : Int) := by omega
      simp [c, this]
def restL (fr : List Fr) : List Fr := ((List.range fr.length).filter fun n => !decide (n ∈ idleL fr fr.length)).map fun n => fr.getD n (1, 1)
theorem enum_range (fr : List Fr) : enumT 0 (fr.map frT) = (List.range fr.length).map fun n => T.tup [tN n, frT (fr.getD n (1, 1))] := by
  refine List.ext_getElem? fun i => ?_
  rw [enumT_get, List.getElem?_map, List.getElem?_map]
  by_cases hi : i < fr.length
  · rw [List.getElem?_range hi, List.getElem?_eq_getElem hi]
    simp [List.getD_eq_getElem?_getD, List.getElem?_eq_getElem hi, pairT, tN]
  · rw [List.getElem?_eq_none (Nat.le_of_not_lt hi), List.getElem?_eq_none (l := List.range fr.length) (by simpa using Nat.le_of_not_lt hi)]
    rfl
end
end Gd
namespace Gd
open PySem PySem.Spec PyProof.Rows L2 Sm
section
variable {h : Store} {fr f g : List Fr} {xs ys : List Int} {n m k p : Nat} {ps : List Nat}
theorem keep_cut {np ns : Nat} {b : MS} {ts : List T} {t : T} {S : Store} {f : T} (e : fn np ns true b ts h = .ok t S) (tn : t ≠ .non) (si : sameIns h S) (tp : t.pu = false) (fz : frz h.length S t = some f) : fn np ns false b ts h = .ok f (S.take h.length) := by
  unfold fn at e ⊢
  by_cases c : ts.length = np
  · rw [if_pos c] at e ⊢
    revert e
    cases b (startE ns ts) h with
    | nx env h' => exact fun e => by cases e; exact absurd rfl tn
    | rt t' h' =>
      intro e
      cases e
      show retF h t S = _
      unfold retF
      rw [if_pos si, if_neg (by rw [tp]; exact Bool.false_ne_true), fz]
    | bk env h' => exact fun e => by cases e
    | ct env h' => exact fun e => by cases e
    | ex x env h' => exact fun e => by cases e
    | bad => exact fun e => by cases e
  · rw [if_neg c] at e
    cases e
theorem unF_none {f g : List Fr} (e : ∀ xs : List Int, xs.length = 10 → doneP f xs = doneP g xs) : unF f g = none := by
  unfold unF
  rw [List.find?_eq_none]
  intro y hy
  simp [e y (tried_len y hy)]
theorem un_all (e : unF f g = none) (hx : xs.length = 10) : doneP f xs = doneP g xs := alike_all hx fun y hy => by
  unfold unF at e
  have := (List.find?_eq_none.mp e) y hy
  simpa using this
theorem un_some {x : List Int} (e : unF f g = some x) : x ∈ triedL f g ∧ doneP f x ≠ doneP g x := by
  unfold unF at e
  refine ⟨List.mem_of_find?_eq_some e, ?_⟩
  have := List.find?_some e
  simpa using this
theorem idle2_eq (k : okP fr) (hl : fr.length < 1000) : F_idle_v2 [prT fr] h = .ok (.lst ((idleL fr fr.length).map tN)) h := by
  have e := idle_wp (h := h) k hl
  have si : sameIns h (h ++ [waysC fr] ++ [Cell.lst ((idleL fr fr.length).map tN)]) := by
    rw [List.append_assoc]
    exact si_appR
  have gt : (h ++ [waysC fr] ++ [Cell.lst ((idleL fr fr.length).map tN)])[h.length + 1]? = some (.lst ((idleL fr fr.length).map tN)) := at_end (by simp)
  have tk : (h ++ [waysC fr] ++ [Cell.lst ((idleL fr fr.length).map tN)]).take h.length = h := by simp
  have nl : ¬ h.length + 1 < h.length := by omega
  have := keep_cut (b := b_idle) e (by simp) si rfl (f := .lst ((idleL fr fr.length).map tN)) (by simp only [frz, if_neg nl, gt])
  rw [tk] at this
  exact this
theorem notin_lstN {ns : List Nat} {i : Nat} : fNotIn (tN i) (.lst (ns.map tN)) h = some (.bl (!decide (i ∈ ns))) := by
  have a : (ns.map tN).all flatT = true := by
    rw [List.all_map]
    exact List.all_eq_true.mpr fun x _ => rfl
  show (if flatT (tN i) = true ∧ (ns.map tN).all flatT = true then some (T.bl (!inT (tN i) (ns.map tN))) else (inG (tN i) (.lst (ns.map tN)) h).map fun c => T.bl (!c)) = _
  rw [if_pos ⟨rfl, a⟩, inT_nat]
theorem without2_eq (k : okP fr) (hl : fr.length < 1000) : F_without_idle_v2 [prT fr] h = .ok (prT (restL fr)) h := by
  refine Out.wp_eq (fn_wp rfl ?_)
  show (b_without_idle_v2 [some (prT fr), none, none, none] h).wp _
  have i1 := idle2_eq (h := h) k hl
  have kc := compLoop_pure (gs := []) (tg := .tup [2, 3]) (tt := mTst (mBin fNotIn (mVar 2) (mVar 1))) (me := mVar 3) (env := [some (prT fr), some (.lst ((idleL fr fr.length).map tN)), none, none]) (h := h)
    (enumT 0 (fr.map frT)) (fun t => match t with | .tup [.int u, _] => !decide (u.toNat ∈ idleL fr fr.length) | _ => false) (fun t => match t with | .tup [_, v] => v | _ => .non) (by simp) (by rw [enumT_length]; simp; omega) fun x hx => by
      rw [enum_range] at hx
      obtain ⟨n, hn, rfl⟩ := List.mem_map.mp hx
      refine ⟨_, b_tup, ?_, fun _ => ?_⟩
      · have := notin_lstN (h := h) (i := n) (ns := idleL fr fr.length)
        simp only [tN] at this
        simp [setT, tN, this]
      · simp [setT]
  have em : ((enumT 0 (fr.map frT)).filter fun t => match t with | .tup [.int u, _] => !decide (u.toNat ∈ idleL fr fr.length) | _ => false).map (fun t => match t with | .tup [_, v] => v | _ => .non) = (restL fr).map frT := by
    rw [enum_range, List.filter_map, List.map_map]
    unfold restL
    rw [List.map_map]
    rfl
  rw [em] at kc
  have sc : mFrz (mComp (mEnum (mCons (mVar 0) mNil)) [2, 3] (.tup [2, 3]) (mTst (mBin fNotIn (mVar 2) (mVar 1))) (mVar 3)) [some (prT fr), some (.lst ((idleL fr fr.length).map tN)), none, none] h = .ok (.lst ((restL fr).map frT)) h := by
    rw [q1_frz]
    unfold mComp
    rw [src_enumT (h1 := h) (xs := fr.map frT) (by simp)]
    simp only [bind_ok]
    rw [show dropE [2, 3] [some (prT fr), some (T.lst ((idleL fr fr.length).map tN)), none, none] = [some (prT fr), some (.lst ((idleL fr fr.length).map tN)), none, none] from rfl, kc]
    rfl
  generalize T.lst ((idleL fr fr.length).map tN) = I at i1 sc
  unfold b_without_idle_v2
  simp -implicitDefEqProofs only [q2_seq, q2_set, q2_ret, q1_call, q1_callF, q1_cons, q1_nil, q1_var, List.set, List.getElem?_cons_zero, List.getElem?_cons_succ, bind_ok, i1, bindE_ok, seq_nx, sc, tup_lst, ofO_some, so_rt]
  have pu : (prT (restL fr)).pu = true := by
    rw [pu_tup]
    exact pus_map fun p => by simp [frT, tN]
  exact ⟨si_self, .inl ⟨pu, rfl, by simp⟩⟩
theorem done_rest (hx : xs.length = 10) : doneP (restL fr) xs = doneP fr xs := by
  unfold doneP restL
  rw [done_filter (xs := xs) (fun n => !decide (n ∈ idleL fr fr.length)) fun k p hp hq fp => ?_]
  have hm : k ∈ idleL fr fr.length := by simpa using hq
  have hb := (List.mem_filter.mp hm).2
  obtain ⟨e, he, hf⟩ := List.any_eq_true.mp hb
  have ek := List.mem_range.mp he
  have hk : k < fr.length := (List.getElem?_eq_some_iff.mp hp).1
  obtain ⟨p', hp', bp⟩ := bt_at hk
  rw [hp] at hp'
  cases hp'
  obtain ⟨r, hr, br⟩ := bt_at (show e < fr.length by omega)
  rw [bp, br] at hf
  exact ⟨e, r, ek, hr, fits_trans (by rw [hx, ex_len]) fp hf⟩
theorem restL_okP (k : okP fr) : okP (restL fr) := fun p hp => by
  obtain ⟨n, hn, rfl⟩ := List.mem_map.mp hp
  have hn := List.mem_range.mp (List.mem_filter.mp hn).1
  rw [List.getD_eq_getElem?_getD, List.getElem?_eq_getElem hn]
  exact k _ (List.getElem_mem hn)
theorem restL_le : (restL fr).length ≤ fr.length := by
  unfold restL
  rw [List.length_map]
  have := List.length_filter_le (fun n => !decide (n ∈ idleL fr fr.length)) (List.range fr.length)
  rwa [List.length_range] at this
end
end Gd
namespace Gd
open PySem PySem.Spec PyProof.Rows L2 Sm
abbrev Tri := Int × Int × Int
def z3 : List Int → List Int → List Int → List Tri
  | x :: xs, w :: ws, a :: as => (x, w, a) :: z3 xs ws as
  | _, _, _ => []
def fitA (t : Int) (z : Tri) : Prop := z.2.1 ≤ z.1 + t * z.2.2
theorem fits_z3 {t : Int} : ∀ {xs ws as : List Int}, xs.length = as.length → (fits (goneL xs as t) ws = true ↔ ∀ z ∈ z3 xs ws as, fitA t z)
  | [], ws, [], _ => by simp [goneL, fits, z3]
  | x :: xs, [], a :: as, _ => by simp [goneL, fits, z3]
  | x :: xs, w :: ws, a :: as, h => by
    have ih := fits_z3 (t := t) (xs := xs) (ws := ws) (as := as) (by simpa using h)
    simp only [goneL, fits, z3, List.zip_cons_cons, List.map_cons, List.all_cons, Bool.and_eq_true, decide_eq_true_eq, List.forall_mem_cons] at ih ⊢
    rw [ih]
    rfl
theorem div_lt_fit {t x w a : Int} (ha : a < 0) : t < (x - w) / (0 - a) + 1 ↔ w ≤ x + t * a := by
  have e : t * (0 - a) = -(t * a) := by rw [Int.mul_sub, Int.mul_zero, Int.zero_sub]
  have := Int.le_ediv_iff_mul_le (a := t) (b := x - w) (c := 0 - a) (by omega)
  rw [e] at this
  omega
theorem div_ge_fit {t x w a : Int} (ha : 0 < a) : 0 - (x - w) / a ≤ t ↔ w ≤ x + t * a := by
  have e : (0 - t) * a = -(t * a) := by rw [Int.sub_mul, Int.zero_mul, Int.zero_sub]
  have := Int.le_ediv_iff_mul_le (a := 0 - t) (b := x - w) (c := a) ha
  rw [e] at this
  omega
def ltO (t : Int) (f : Option Int) : Prop := ∀ q, f = some q → t < q
def leO (t : Int) (f : Option Int) : Prop := ∀ q, f = some q → t ≤ q
@[simp] theorem ltO_none {t : Int} : ltO t none := fun _ h => by cases h
@[simp] theorem ltO_some {t q : Int} : ltO t (some q) ↔ t < q := ⟨fun h => h q rfl, fun h _ e => by cases e; exact h⟩
@[simp] theorem leO_none {t : Int} : leO t none := fun _ h => by cases h
@[simp] theorem leO_some {t q : Int} : leO t (some q) ↔ t ≤ q := ⟨fun h => h q rfl, fun h _ e => by cases e; exact h⟩
def minO (o : Int) : Option Int → Int
  | none => o
  | some q => if o < q then o else q
structure LastK (B : Int) (l : List Tri) (f : Option Int) : Prop where
  fit : ∀ t, ltO t f ↔ ∀ z ∈ l, z.2.2 < 0 → fitA t z
  low : ∀ q, f = some q → q ≤ B + 1
theorem LastK.nil {B : Int} : LastK B [] none := ⟨fun t => by simp, fun q h => by cases h⟩
theorem LastK.step {B : Int} {l : List Tri} {f : Option Int} {z : Tri} (k : LastK B l f) (hz : z.2.2 < 0) (B0 : 0 ≤ B) (b : z.1 - z.2.1 ≤ B) : LastK B (l ++ [z]) (some (minO ((z.1 - z.2.1) / (0 - z.2.2) + 1) f)) := by
  have d := fun t => div_lt_fit (t := t) (x := z.1) (w := z.2.1) hz
  have lo : (z.1 - z.2.1) / (0 - z.2.2) ≤ B := by
    have z1 : B * 1 ≤ B * (0 - z.2.2) := Int.mul_le_mul_of_nonneg_left (by omega) (by omega)
    exact Int.ediv_le_of_le_mul (c := 0 - z.2.2) (by omega) (by omega)
  generalize (z.1 - z.2.1) / (0 - z.2.2) = o at d lo
  have key : ∀ t, (∀ y ∈ l ++ [z], y.2.2 < 0 → fitA t y) ↔ (ltO t f ∧ t < o + 1) := fun t => by
    rw [k.fit, d t]
    simp only [List.mem_append, List.mem_singleton]
    constructor
    · exact fun h => ⟨fun y m c => h y (.inl m) c, h z (.inr rfl) hz⟩
    · rintro ⟨h1, h2⟩ y (m | rfl) c
      · exact h1 y m c
      · exact h2
  cases f with
  | none =>
    refine ⟨fun t => ?_, fun q e => ?_⟩
    · rw [key]
      simp [minO]
    · simp only [minO, Option.some.injEq] at e
      omega
  | some q =>
    have := k.low q rfl
    refine ⟨fun t => ?_, fun r e => ?_⟩
    · rw [key]
      simp only [ltO_some, minO]
      split <;> omega
    · simp only [minO, Option.some.injEq] at e
      split at e <;> omega
structure ComeK (B : Int) (l : List Tri) (least : Int) (most : Option Int) : Prop where
  fit : ∀ t, 0 ≤ t → ((least ≤ t ∧ leO t most) ↔ ∀ z ∈ l, fitA t z)
  lo : 0 ≤ least
  hi : least ≤ B
theorem ComeK.nil {B : Int} (B0 : 0 ≤ B) : ComeK B [] 0 none := ⟨fun t ht => by simp [ht], by omega, B0⟩
theorem fit_snoc {l : List Tri} {z : Tri} {t : Int} : (∀ y ∈ l ++ [z], fitA t y) ↔ ((∀ y ∈ l, fitA t y) ∧ fitA t z) := by
  simp only [List.mem_append, List.mem_singleton]
  exact ⟨fun h => ⟨fun y m => h y (.inl m), h z (.inr rfl)⟩, fun h y m => m.elim (h.1 y) fun e => by rw [e]; exact h.2⟩
theorem ComeK.pos {B : Int} {l : List Tri} {least : Int} {most : Option Int} {z : Tri} (k : ComeK B l least most) (hz : 0 < z.2.2) (B0 : 0 ≤ B) (b : z.2.1 - z.1 ≤ B) :
    ComeK B (l ++ [z]) (if 0 - (z.1 - z.2.1) / z.2.2 > least then 0 - (z.1 - z.2.1) / z.2.2 else least) most := by
  have d := fun t => div_ge_fit (t := t) (x := z.1) (w := z.2.1) hz
  have lo : 0 - (z.1 - z.2.1) / z.2.2 ≤ B := by
    have := (Int.le_ediv_iff_mul_le (a := -B) (b := z.1 - z.2.1) (c := z.2.2) hz).mpr (by
      have : B * 1 ≤ B * z.2.2 := Int.mul_le_mul_of_nonneg_left (by omega) (by omega)
      rw [Int.neg_mul]
      omega)
    omega
  generalize 0 - (z.1 - z.2.1) / z.2.2 = o at d lo
  have := k.lo
  have := k.hi
  refine ⟨fun t ht => ?_, by split <;> omega, by split <;> omega⟩
  rw [fit_snoc, ← k.fit t ht, fitA, ← d t]
  generalize leO t most = A
  split
  · constructor
    · rintro ⟨p, q⟩
      exact ⟨⟨by omega, q⟩, p⟩
    · rintro ⟨⟨p, q⟩, r⟩
      exact ⟨r, q⟩
  · constructor
    · rintro ⟨p, q⟩
      exact ⟨⟨p, q⟩, by omega⟩
    · rintro ⟨⟨p, q⟩, r⟩
      exact ⟨p, q⟩
theorem ComeK.zero {B : Int} {l : List Tri} {least : Int} {most : Option Int} {z : Tri} (k : ComeK B l least most) (hz : z.2.2 = 0) (b : z.2.1 ≤ z.1) : ComeK B (l ++ [z]) least most := by
  refine ⟨fun t ht => ?_, k.lo, k.hi⟩
  rw [fit_snoc, ← k.fit t ht]
  have : fitA t z := by
    unfold fitA
    rw [hz, Int.mul_zero]
    omega
  exact ⟨fun q => ⟨q, this⟩, fun q => q.1⟩
def ComeR (B : Int) (l : List Tri) : Option Int → Prop
  | none => ∀ t, 0 ≤ t → ¬ ∀ z ∈ l, fitA t z
  | some q => 0 ≤ q ∧ q ≤ B ∧ (∀ z ∈ l, fitA q z) ∧ ∀ t, 0 ≤ t → t < q → ¬ ∀ z ∈ l, fitA t z
theorem ComeK.no {B : Int} {l : List Tri} {least q : Int} (k : ComeK B l least (some q)) (c : q < least) : ComeR B l none := fun t ht h => by
  have := (k.fit t ht).mpr h
  simp only [leO_some] at this
  omega
theorem ComeR.never {B : Int} {l : List Tri} {z : Tri} (m : z ∈ l) (hz : z.2.2 = 0) (b : z.1 < z.2.1) : ComeR B l none := fun t _ h => by
  have := h z m
  unfold fitA at this
  rw [hz, Int.mul_zero] at this
  omega
section
variable {h : Store} {fr : List Fr} {n k : Nat} {p p2 : Fr} {xs : List Int}
end
end Gd
namespace Gd
open PySem PySem.Spec PyProof.Rows L2 Sm
structure okB (B : Int) (z : Tri) : Prop where
  b0 : 0 ≤ B
  lo : z.1 - z.2.1 ≤ B
  hi : z.2.1 - z.1 ≤ B
  a0 : -1000 < z.2.2
  a1 : z.2.2 < 1000
section
variable {h : Store} {fr : List Fr} {n k j : Nat} {p p2 : Fr} {xs : List Int} {B : Int}
end
end Gd
namespace Gd
open PySem PySem.Spec PyProof.Rows L2 Sm
def goodA (fr : List Fr) (xs : List Int) (p : Fr) (j : Nat) (t : Int) : Prop := fits (goneL xs (addF p) t) (ex p.2) = true ∧ ∀ i q, i < j → fr[i]? = some q → fits (goneL xs (addF p) t) (ex q.2) = false
structure StrK (B : Int) (fr : List Fr) (xs : List Int) (p : Fr) (j : Nat) (f : Option Int) : Prop where
  fit : ∀ t, 0 ≤ t → ltO t f → goodA fr xs p j t
  no : ∀ q, f = some q → 0 ≤ q ∧ q ≤ B + 1 ∧ ¬ goodA fr xs p j q
section
variable {h : Store} {fr : List Fr} {n k j : Nat} {p p2 : Fr} {xs : List Int} {f g : Option Int} {B : Int}
theorem goodA_up (hp2 : fr[j]? = some p2) {t : Int} : goodA fr xs p (j + 1) t ↔ goodA fr xs p j t ∧ fits (goneL xs (addF p) t) (ex p2.2) = false := by
  constructor
  · rintro ⟨a, b⟩
    exact ⟨⟨a, fun i q hi hq => b i q (by omega) hq⟩, b j p2 (by omega) hp2⟩
  · rintro ⟨⟨a, b⟩, c⟩
    refine ⟨a, fun i q hi hq => ?_⟩
    by_cases z : i = j
    · subst z
      rw [hp2] at hq
      cases hq
      exact c
    · exact b i q (by omega) hq
theorem StrK.start (hx : xs.length = 10) (f0 : fits xs (ex p.2) = true) (kf : LastK B (z3 xs (ex p.2) (addF p)) f) : StrK B fr xs p 0 f := by
  have ff := fun t => fits_z3 (t := t) (xs := xs) (ws := ex p.2) (as := addF p) (by rw [hx, addF_len])
  have g0 : goneL xs (addF p) 0 = xs := by
    unfold goneL
    simp only [Int.zero_mul, Int.add_zero]
    exact List.map_fst_zip (by rw [hx, addF_len]; omega)
  have a0 : ∀ z ∈ z3 xs (ex p.2) (addF p), fitA 0 z := (ff 0).mp (by rw [g0]; exact f0)
  have key : ∀ t, 0 ≤ t → (goodA fr xs p 0 t ↔ ltO t f) := fun t ht => by
    rw [kf.fit]
    unfold goodA
    rw [ff]
    constructor
    · exact fun a z m _ => a.1 z m
    · refine fun a => ⟨fun z m => ?_, fun i q hi => absurd hi (by omega)⟩
      by_cases c : z.2.2 < 0
      · exact a z m c
      · have := a0 z m
        unfold fitA at this ⊢
        have : 0 ≤ t * z.2.2 := Int.mul_nonneg ht (by omega)
        omega
  refine ⟨fun t ht l => (key t ht).mpr l, fun q e => ?_⟩
  have q0 : 0 ≤ q := by
    have : ltO 0 f := (kf.fit 0).mpr fun z m _ => a0 z m
    have := this q e
    omega
  refine ⟨q0, kf.low q e, fun a => ?_⟩
  have := (key q q0).mp a q e
  omega
theorem StrK.same (hx : xs.length = 10) (s : StrK B fr xs p j f) (hp2 : fr[j]? = some p2) (r : ComeR B (z3 xs (ex p2.2) (addF p)) g) (c : ∀ q, g = some q → ∃ r, f = some r ∧ r ≤ q) : StrK B fr xs p (j + 1) f := by
  have ff := fun t => fits_z3 (t := t) (xs := xs) (ws := ex p2.2) (as := addF p) (by rw [hx, addF_len])
  refine ⟨fun t ht l => (goodA_up hp2).mpr ⟨s.fit t ht l, ?_⟩, fun q e => ⟨(s.no q e).1, (s.no q e).2.1, fun a => (s.no q e).2.2 ((goodA_up hp2).mp a).1⟩⟩
  cases e : fits (goneL xs (addF p) t) (ex p2.2) with
  | false => rfl
  | true =>
    exfalso
    have m := (ff t).mp e
    cases g with
    | none => exact r t ht m
    | some q =>
      obtain ⟨u, rfl, u1⟩ := c q rfl
      have := l u rfl
      exact r.2.2.2 t ht (by omega) m
structure StrR (B : Int) (fr : List Fr) (xs : List Int) (p : Fr) (k : Nat) (f : Option Int) : Prop where
  fit : ∀ t, 0 ≤ t → ltO t f → firstL (wantsL fr) (goneL xs (addF p) t) = some k
  no : ∀ q, f = some q → 0 ≤ q ∧ q ≤ B + 1 ∧ firstL (wantsL fr) (goneL xs (addF p) q) ≠ some k
end
end Gd
namespace Gd
open PySem PySem.Spec PyProof.Rows L2 Sm
section
variable {h : Store} {fr : List Fr} {n k j : Nat} {p p2 : Fr} {xs : List Int} {f g : Option Int} {B : Int}
end
end Gd
namespace Gd
open PySem PySem.Spec PyProof.Rows L2 Sm
section
variable {h : Store} {fr : List Fr} {n k j d m M : Nat} {p : Fr} {xs : List Int} {es : List Nat} {f : Option Int} {B : Int}
end
end Gd
namespace Gd
open PySem PySem.Spec PyProof.Rows L2 Sm
section
variable {h : Store} {fr : List Fr} {n k j d m M : Nat} {p : Fr} {xs : List Int} {es : List Nat} {t : T} {pr li ma : T}
end
end Gd
namespace Gd
open PySem PySem.Spec PyProof.Rows L2 Sm
def lnF (f : Nat → Int) : List Int := (List.range 10).map f
def lnN (e : Nat → Nat) : List Nat := (List.range 10).map e
def upd {α : Type} (f : Nat → α) (p : Nat) (v : α) : Nat → α := fun i => if i = p then v else f i
@[simp] theorem lnF_len {f : Nat → Int} : (lnF f).length = 10 := rfl
@[simp] theorem lnN_len {f : Nat → Nat} : (lnN f).length = 10 := rfl
theorem lnF_at {f : Nat → Int} {i : Nat} (hi : i < 10) : (lnF f)[i]? = some (f i) := by
  unfold lnF
  rw [List.getElem?_map, List.getElem?_range hi]
  rfl
theorem zip_lnF {f g : Nat → Int} : (lnF f).zip (lnF g) = (List.range 10).map fun i => (f i, g i) := by
  unfold lnF
  rw [List.zip_map', ]
theorem goneL_ln {f g : Nat → Int} {k : Int} : goneL (lnF f) (lnF g) k = lnF fun i => f i + k * g i := by
  unfold goneL
  rw [zip_lnF, List.map_map]
  rfl
end Gd
namespace Gd
open PySem PySem.Spec PyProof.Rows L2 Sm
section
variable {h : Store} {l : List (Nat × Int)}
end
end Gd
namespace Gd
open PySem PySem.Spec PyProof.Rows L2 Sm
section
variable {a b c m n : Nat} (ha : a < 10) (hb : b < 10) (hc : c < 10) (ab : a ≠ b) (ac : a ≠ c) (bc : b ≠ c)
include ha hb hc ab ac bc
end
section
variable {b n : Nat} (hb : b < 10)
include hb
end
end Gd
namespace Gd
open PySem PySem.Spec PyProof.Rows L2 Sm
section
variable {a b c x y k u q : Nat} {h : Store} {w : Int} {Q : T → Store → Prop} {X : Ex → Store → Prop}
end
end Gd
namespace Gd
open PySem PySem.Spec PyProof.Rows L2 Sm
section
variable {h : Store} {n m k a b : Nat} {v : Int} {t u e : Nat → Nat} {Q : T → Store → Prop} {X : Ex → Store → Prop}
end
end Gd
namespace Gd
open PySem PySem.Spec PyProof.Rows L2 Sm
section
variable {h : Store} {n m k a b : Nat} {v : Int} {t u e : Nat → Nat} {Q : T → Store → Prop} {X : Ex → Store → Prop}
end
end Gd
namespace Gd
open PySem PySem.Spec PyProof.Rows L2 Sm
def St (h : Store) (n : Nat) (w : Int) (fr : List Fr) (l : Store) : Store := pst h n w ++ [Cell.lst (fr.map frT)] ++ l
section
variable {h l l1 l2 : Store} {n m k a b p v : Nat} {w w' : Int} {t u e : Nat → Nat} {fr fr' : List Fr} {c c' : Cell} {env : Env'} {Q : T → Store → Prop} {X : Ex → Store → Prop}
end
end Gd
namespace Gd
open PySem PySem.Spec PyProof.Rows L2 Sm
section
variable {h H l : Store} {n m k a b p v wide : Nat} {w w' : Int} {t u e W : Nat → Nat} {fr fr' : List Fr} {env : Env'} {Q : T → Store → Prop} {X : Ex → Store → Prop}
end
end Gd
namespace Gd
open PySem PySem.Spec PyProof.Rows L2 Sm
section
variable {h H l : Store} {n m k wide most : Nat} {w w' v : Int} {W : Nat → Nat} {fr fr' : List Fr} {env : Env'} {Q : T → Store → Prop} {X : Ex → Store → Prop}
end
end Gd
namespace Gd
open PySem PySem.Spec PyProof.Rows L2 Sm
section
variable {h : Store} {fr : List Fr}
theorem comp_flt {α : Type} {g : α → T} {l : List α} {src : M Src} {tg : Tgt} {own : List Nat} {tt : M Bool} {me : M T} {env : Env'} {h1 : Store} (p : α → Bool) (f : α → T) (es : src env h = .ok ⟨l.map g, []⟩ h1) (hl : l.length ≤ 1000)
    (el : ∀ x ∈ l, ∃ env1, bindT tg (g x) (dropE own env) = some env1 ∧ tt env1 h1 = .ok (p x) h1 ∧ (p x = true → me env1 h1 = .ok (f x) h1)) : mComp src own tg tt me env h = .ok ((l.filter p).map f) h1 := by
  unfold mComp
  rw [es, bind_ok]
  have w : (compLoop [] tg tt me (dropE own env) (l.map g) [] h1).wp (fun b h' => b = (l.filter p).map f ∧ h' = h1) (fun _ _ => False) := by
    refine compLoop_wp _ (fun i acc h' => h' = h1 ∧ acc = ((l.take i).filter p).map f) ?_ ?_ (by rw [List.length_map]; omega) ⟨rfl, rfl⟩
    · rintro i x acc h' hx ha ⟨rfl, rfl⟩
      obtain ⟨y, hy, rfl, _⟩ := getm hx
      obtain ⟨env1, a, b, c⟩ := el y (List.mem_of_getElem? hy)
      refine ⟨by simp, env1, a, ?_⟩
      rw [b, wp_ok, take_snoc hy, List.filter_append, List.map_append]
      cases q : p y with
      | true =>
        rw [if_pos rfl, c q, wp_ok]
        exact ⟨rfl, by simp [q]⟩
      | false =>
        rw [if_neg (by simp)]
        exact ⟨rfl, by simp [q]⟩
    · rintro acc h' ⟨rfl, rfl⟩
      refine ⟨by simp, ?_, rfl⟩
      rw [List.length_map, l.take_length]
  exact Out.wp_eq' w
section
variable {a b : List Fr}
end
end
end Gd
namespace Gd
open PySem PySem.Spec PyProof.Rows L2 Sm
section
variable {h h1 : Store} {fr : List Fr} {xs ys : List Int} {n m : Nat} {env : Env'} {Q : T → Store → Prop} {X : Ex → Store → Prop}
end
end Gd
namespace Gd
open PySem PySem.Spec PyProof.Rows L2 Sm
section
variable {h h1 : Store} {fr : List Fr} {xs ys : List Int} {n m : Nat} {env : Env'} {Q : T → Store → Prop} {X : Ex → Store → Prop}
end
end Gd
namespace Gd
open PySem PySem.Spec PyProof.Rows L2 Sm
section
variable {h : Store} {fr : List Fr} {A B : List Nat}
theorem rep_one {i e : Nat} (he : e < 1000) : fMul (.lst [tN i]) (tN e) h = some (.lst ((List.replicate e i).map tN)) := by
  show (if (e : Int) < 100000 ∧ -100000 < (e : Int) ∧ [tN i].length ≤ 100 then some (T.lst (List.replicate (e : Int).toNat [tN i]).flatten) else none) = _
  rw [if_pos ⟨by omega, by omega, by simp⟩, Int.toNat_natCast]
  congr 2
  rw [List.map_replicate]
  clear he
  induction e with
  | zero => rfl
  | succ e ih => rw [List.replicate_succ, List.replicate_succ, List.flatten_cons, ih]; rfl
section
variable {n : Nat} {st la be ba : Int} {P : Pst} {h0 : Store}
end
end
end Gd
namespace Gd
open PySem PySem.Spec PyProof.Rows L2 Sm
section
variable {h h1 : Store} {fr : List Fr} {xs ys : List Int} {n m : Nat} {env : Env'} {Q : T → Store → Prop} {X : Ex → Store → Prop} {x : Nat → List Int} {u : Nat → Nat} {len : Nat} {a : List Int}
end
end Gd
namespace Gd
open PySem PySem.Spec PyProof.Rows L2 Sm
section
variable {h h1 : Store} {fr : List Fr} {xs ys : List Int} {n m : Nat} {env : Env'} {Q : T → Store → Prop} {X : Ex → Store → Prop} {x : Nat → List Int} {u : Nat → Nat} {len : Nat} {a : List Int}
end
end Gd
namespace Gd
open PySem PySem.Spec PyProof.Rows L2 Sm
section
variable {h h1 : Store} {fr : List Fr} {xs ys : List Int} {n m : Nat} {env : Env'} {Q : T → Store → Prop} {X : Ex → Store → Prop} {x : Nat → List Int} {u : Nat → Nat} {len : Nat} {a : List Int}
section
variable {R U W : T}
end
section
variable {R U W : T}
end
end
end Gd
namespace Gd
open PySem PySem.Spec PyProof.Rows L2 Sm
section
variable {h h1 : Store} {fr : List Fr} {xs ys : List Int} {n m : Nat} {env : Env'} {Q : T → Store → Prop} {X : Ex → Store → Prop} {x : Nat → List Int} {u : Nat → Nat} {len : Nat} {a : List Int}
end
end Gd
namespace Gd
open PySem PySem.Spec PyProof.Rows L2 Sm
section
variable {h h1 : Store} {fr : List Fr} {xs ys : List Int} {n m : Nat} {env : Env'} {Q : T → Store → Prop} {X : Ex → Store → Prop} {x : Nat → List Int} {u : Nat → Nat} {len : Nat} {a : List Int}
end
end Gd
namespace Gd
open PySem PySem.Spec PyProof.Rows L2 Sm
def dotL (a b : List Int) : Int := ((a.zip b).map fun p => p.1 * p.2).sum
def gcdR (r : List Int) : Nat := r.foldl (fun g x => Nat.gcd g x.natAbs) 0
def byR (r : List Int) : Int := if (r.filter fun x => !decide (x = 0)).headD 0 < 0 then 0 - (gcdR r : Int) else (gcdR r : Int)
def plainR (r : List Int) : List Int := if gcdR r = 0 then r else r.map fun x => x.fdiv (byR r)
def mixR (r l : List Int) (a b : Int) : List Int := (r.zip l).map fun q => q.1 * a - q.2 * b
def clearR (r l : List Int) (p : Nat) : List Int := plainR (mixR r l (l.getD p 0) (r.getD p 0))
section
variable {r l e d : List Int} {R : List (List Int)} {p N b t : Nat} {x y : Int}
theorem gcd_fold : ∀ {r : List Int} {g : Nat}, (r.foldl (fun g x => Nat.gcd g x.natAbs) g) ∣ g ∧ ∀ x ∈ r, (r.foldl (fun g x => Nat.gcd g x.natAbs) g) ∣ x.natAbs
  | [], g => ⟨Nat.dvd_refl _, fun x hx => absurd hx (by simp)⟩
  | y :: r, g => by
    obtain ⟨a, c⟩ := gcd_fold (r := r) (g := Nat.gcd g y.natAbs)
    refine ⟨Nat.dvd_trans a (Nat.gcd_dvd_left _ _), fun x hx => ?_⟩
    rcases List.mem_cons.mp hx with z | z
    · rw [z]
      exact Nat.dvd_trans a (Nat.gcd_dvd_right _ _)
    · exact c x z
theorem by_dvd {x : Int} (hx : x ∈ r) : byR r ∣ x := by
  have h : (gcdR r : Int) ∣ x := Int.ofNat_dvd_left.mpr ((gcd_fold (r := r) (g := 0)).2 x hx)
  unfold byR
  split
  · rw [Int.zero_sub]
    exact Int.neg_dvd.mpr h
  · exact h
theorem by_abs : (byR r).natAbs = gcdR r := by
  unfold byR
  split <;> omega
theorem by_0 (z : ¬ gcdR r = 0) : byR r ≠ 0 := fun c => z (by rw [← by_abs, c]; rfl)
theorem fdiv_mul (h : y ∣ x) : x.fdiv y * y = x := by
  obtain ⟨k, rfl⟩ := h
  by_cases z : y = 0
  · subst z
    simp
  · rw [Int.mul_fdiv_cancel_left _ z, Int.mul_comm]
theorem dot_mix {x y : Int} : ∀ {e r l : List Int}, r.length = e.length → l.length = e.length → dotL (mixR r l x y) e = dotL r e * x - dotL l e * y
  | [], [], [], _, _ => by simp [dotL, mixR]
  | [], _ :: _, _, h, _ => by simp at h
  | [], _, _ :: _, _, h => by simp at h
  | _ :: _, [], _, h, _ => by simp at h
  | _ :: _, _, [], _, h => by simp at h
  | f :: e, a :: r, c :: l, h1, h2 => by
    have ih := dot_mix (e := e) (r := r) (l := l) (x := x) (y := y) (by simpa using h1) (by simpa using h2)
    simp only [dotL, mixR, List.zip_cons_cons, List.map_cons, List.sum_cons] at ih ⊢
    rw [ih, Int.sub_mul, Int.add_mul, Int.add_mul, Int.mul_right_comm a x f, Int.mul_right_comm c y f]
    omega
theorem dot_div : ∀ {r e : List Int} {g : Int}, (∀ x ∈ r, g ∣ x) → dotL (r.map fun x => x.fdiv g) e * g = dotL r e
  | [], e, g, _ => by simp [dotL]
  | a :: r, [], g, _ => by simp [dotL]
  | a :: r, f :: e, g, h => by
    have ih := dot_div (r := r) (e := e) (g := g) fun x hx => h x (List.mem_cons_of_mem _ hx)
    have ha := fdiv_mul (h a (List.mem_cons_self ..))
    simp only [dotL, List.map_cons, List.zip_cons_cons, List.sum_cons] at ih ⊢
    rw [Int.add_mul, ih, Int.mul_right_comm, ha]
theorem dot_plain (h : dotL r e = 0) : dotL (plainR r) e = 0 := by
  unfold plainR
  split
  · exact h
  · rename_i z
    have := dot_div (r := r) (e := e) (g := byR r) fun x hx => by_dvd hx
    rw [h] at this
    exact (Int.mul_eq_zero.mp this).resolve_right (by_0 z)
theorem plain_len : (plainR r).length = r.length := by
  unfold plainR
  split <;> simp
theorem mix_len : (mixR r l x y).length = min r.length l.length := by simp [mixR]
theorem clear_len (hr : r.length = N) (hl : l.length = N) : (clearR r l p).length = N := by
  unfold clearR
  rw [plain_len, mix_len, hr, hl, Nat.min_self]
theorem dot_clear (hr : r.length = N) (hl : l.length = N) (he : e.length = N) (h1 : dotL r e = 0) (h2 : dotL l e = 0) : dotL (clearR r l p) e = 0 := by
  unfold clearR
  refine dot_plain ?_
  rw [dot_mix (by omega) (by omega), h1, h2]
  simp
theorem plain_at (h : r.getD p 0 = 0) : (plainR r).getD p 0 = 0 := by
  unfold plainR
  split
  · exact h
  · rw [List.getD_eq_getElem?_getD] at h ⊢
    rw [List.getElem?_map]
    cases z : r[p]? with
    | none => rfl
    | some x =>
      rw [z] at h
      rw [show x = 0 from h]
      show Int.fdiv 0 (byR r) = 0
      simp
theorem mix_at (hr : r.length = N) (hl : l.length = N) : (mixR r l x y).getD p 0 = r.getD p 0 * x - l.getD p 0 * y := by
  unfold mixR
  simp only [List.getD_eq_getElem?_getD, List.getElem?_map]
  by_cases z : p < N
  · rw [List.getElem?_eq_getElem (show p < (r.zip l).length by simp; omega), List.getElem?_eq_getElem (show p < r.length by omega), List.getElem?_eq_getElem (show p < l.length by omega)]
    simp
  · rw [List.getElem?_eq_none (show (r.zip l).length ≤ p by simp; omega), List.getElem?_eq_none (show r.length ≤ p by omega), List.getElem?_eq_none (show l.length ≤ p by omega)]
    simp
theorem clear_at (hr : r.length = N) (hl : l.length = N) : (clearR r l p).getD p 0 = 0 := by
  refine plain_at ?_
  rw [mix_at hr hl, Int.mul_comm, Int.sub_self]
theorem clear_keeps {q : Nat} (hr : r.length = N) (hl : l.length = N) (h1 : r.getD q 0 = 0) (h2 : l.getD q 0 = 0) : (clearR r l p).getD q 0 = 0 := by
  refine plain_at ?_
  rw [mix_at hr hl, h1, h2]
  simp
def small (b : Nat) (r : List Int) : Prop := ∀ x ∈ r, x.natAbs < 2 ^ b
theorem small_mono {b c : Nat} (h : small b r) (k : b ≤ c) : small c r := fun x hx => Nat.lt_of_lt_of_le (h x hx) (Nat.pow_le_pow_right (by decide) k)
theorem fdiv_le (h : y ∣ x) (y0 : y ≠ 0) : (x.fdiv y).natAbs ≤ x.natAbs := by
  have e := fdiv_mul h
  have e2 : (x.fdiv y).natAbs * y.natAbs = x.natAbs := by rw [← Int.natAbs_mul, e]
  have : 1 ≤ y.natAbs := by omega
  calc (x.fdiv y).natAbs = (x.fdiv y).natAbs * 1 := (Nat.mul_one _).symm
    _ ≤ (x.fdiv y).natAbs * y.natAbs := Nat.mul_le_mul_left _ this
    _ = x.natAbs := e2
theorem small_plain (h : small b r) : small b (plainR r) := by
  unfold plainR
  split
  · exact h
  · rename_i z
    intro x hx
    obtain ⟨w, hw, rfl⟩ := List.mem_map.mp hx
    exact Nat.lt_of_le_of_lt (fdiv_le (by_dvd hw) (by_0 z)) (h w hw)
theorem small_at (h : small b r) : (r.getD p 0).natAbs < 2 ^ b := by
  rw [List.getD_eq_getElem?_getD]
  cases z : r[p]? with
  | none => exact Nat.pow_pos (by decide)
  | some x => exact h x (List.mem_of_getElem? z)
theorem small_mix (h1 : small b r) (h2 : small b l) (hx : x.natAbs < 2 ^ b) (hy : y.natAbs < 2 ^ b) : small (2 * b + 1) (mixR r l x y) := by
  intro z hz
  obtain ⟨⟨u, v⟩, hq, rfl⟩ := List.mem_map.mp hz
  have hu := h1 u (List.of_mem_zip hq).1
  have hv := h2 v (List.of_mem_zip hq).2
  have a1 : (u * x).natAbs < 2 ^ b * 2 ^ b := by
    rw [Int.natAbs_mul]
    exact Nat.mul_lt_mul_of_lt_of_lt hu hx
  have a2 : (v * y).natAbs < 2 ^ b * 2 ^ b := by
    rw [Int.natAbs_mul]
    exact Nat.mul_lt_mul_of_lt_of_lt hv hy
  have e : 2 ^ (2 * b + 1) = 2 ^ b * 2 ^ b + 2 ^ b * 2 ^ b := by
    rw [Nat.pow_succ, Nat.two_mul, Nat.pow_add, Nat.mul_two]
  show (u * x - v * y).natAbs < _
  omega
theorem small_clear (h1 : small b r) (h2 : small b l) : small (2 * b + 1) (clearR r l p) := small_plain (small_mix h1 h2 (small_at h2) (small_at h1))
def bitsR : Nat → Nat
  | 0 => 6
  | t + 1 => 2 * bitsR t + 1
theorem bits_up {t s : Nat} (h : t ≤ s) : bitsR t ≤ bitsR s := by
  induction s with
  | zero =>
    have : t = 0 := by omega
    rw [this]
    exact Nat.le_refl _
  | succ s ih =>
    by_cases z : t = s + 1
    · rw [z]
      exact Nat.le_refl _
    · have := ih (by omega)
      show _ ≤ 2 * bitsR s + 1
      omega
end
end Gd
namespace Gd
open PySem PySem.Spec PyProof.Rows L2 Sm
structure GoodR (E : List (List Int)) (N t : Nat) (Z : List Nat) (r : List Int) : Prop where
  len : r.length = N
  dots : ∀ e ∈ E, dotL r e = 0
  zer : ∀ z ∈ Z, r.getD z 0 = 0
  sm : small (bitsR t) r
section
variable {E : List (List Int)} {N t p : Nat} {Z : List Nat} {r l : List Int} {R : List (List Int)} {ch : List (List Int)}
theorem GoodR.up (g : GoodR E N t Z r) {s : Nat} (h : t ≤ s) : GoodR E N s Z r := ⟨g.len, g.dots, g.zer, small_mono g.sm (bits_up h)⟩
theorem GoodR.clear (hE : ∀ e ∈ E, e.length = N) (g1 : GoodR E N t Z r) (g2 : GoodR E N t Z l) : GoodR E N (t + 1) (p :: Z) (clearR r l p) where
  len := clear_len g1.len g2.len
  dots := fun e he => dot_clear g1.len g2.len (hE e he) (g1.dots e he) (g2.dots e he)
  zer := fun z hz => by
    rcases List.mem_cons.mp hz with c | c
    · rw [c]
      exact clear_at g1.len g2.len
    · exact clear_keeps g1.len g2.len (g1.zer z c) (g2.zer z c)
  sm := small_clear g1.sm g2.sm
theorem GoodR.plain (g : GoodR E N t Z r) : GoodR E N t Z (plainR r) :=
  ⟨by rw [plain_len]; exact g.len, fun e he => dot_plain (g.dots e he), fun z hz => plain_at (g.zer z hz), small_plain g.sm⟩
end
end Gd
namespace Gd
open PySem PySem.Spec PyProof.Rows L2 Sm
section
variable {h h1 : Store} {env : Env'} {A B S : T} {a b r l : List Int} {R : List (List Int)} {n p N t : Nat} {rr : M (List T)}
end
end Gd
namespace Gd
open PySem PySem.Spec PyProof.Rows L2 Sm
section
variable {h h1 : Store} {env : Env'} {A B S : T} {a b r l : List Int} {R : List (List Int)} {n p N t c : Nat} {rr : M (List T)}
end
end Gd
namespace Gd
open PySem PySem.Spec PyProof.Rows L2 Sm
section
variable {h h1 : Store} {env : Env'} {A B S : T} {a b r l : List Int} {R : List (List Int)} {n p N t c : Nat} {rr : M (List T)} {fr : List Fr} {ch : List (List Int)} {E : List (List Int)} {Z : List Nat}
end
end Gd
namespace Gd
open PySem PySem.Spec PyProof.Rows L2 Sm
section
variable {h h1 : Store} {env : Env'} {A B S : T} {a b r l x y : List Int} {R : List (List Int)} {n p N t c : Nat} {rr : M (List T)} {fr : List Fr} {ch : List (List Int)} {E : List (List Int)} {Z : List Nat}
end
end Gd
namespace Gd
open PySem PySem.Spec PyProof.Rows L2 Sm
section
variable {fr : List Fr} {y a : List Int} {n m c r : Nat} {x : Nat → List Int} {u : Nat → Nat} {len : Nat}
theorem as_lnF {l : List Int} (hl : l.length = 10) : l = lnF fun i => l.getD i 0 := by
  unfold lnF
  refine (List.ext_getElem? fun i => ?_)
  rw [List.getElem?_map]
  by_cases z : i < 10
  · rw [List.getElem?_range z, List.getElem?_eq_getElem (by omega), Option.map_some, List.getD_eq_getElem?_getD, List.getElem?_eq_getElem (by omega)]
    rfl
  · rw [List.getElem?_eq_none (by omega), List.getElem?_eq_none (by simp; omega)]
    rfl
theorem goneL_at {xs as : List Int} {r : Int} {i : Nat} (hx : xs.length = 10) (ha : as.length = 10) (hi : i < 10) : (goneL xs as r).getD i 0 = xs.getD i 0 + r * as.getD i 0 := by
  rw [as_lnF hx, as_lnF ha, goneL_ln, List.getD_eq_getElem?_getD, lnF_at hi, ← as_lnF hx, ← as_lnF ha]
  rfl
end
end Gd
namespace Gd
open PySem PySem.Spec PyProof.Rows L2 Sm
section
variable {h h1 : Store} {r x y a : List Int} {R : List (List Int)} {n p b c : Nat} {fr : List Fr} {k : Int}
theorem dot_gone : ∀ {r x a : List Int}, x.length = r.length → a.length = r.length → dotL r (goneL x a k) = dotL r x + k * dotL r a
  | [], [], [], _, _ => by simp [dotL, goneL]
  | [], _ :: _, _, h, _ => by simp at h
  | [], _, _ :: _, _, h => by simp at h
  | _ :: _, [], _, h, _ => by simp at h
  | _ :: _, _, [], _, h => by simp at h
  | f :: r, u :: x, v :: a, h1, h2 => by
    have ih := dot_gone (r := r) (x := x) (a := a) (by simpa using h1) (by simpa using h2)
    simp only [dotL, goneL, List.zip_cons_cons, List.map_cons, List.sum_cons] at ih ⊢
    rw [ih, Int.mul_add, Int.mul_add, Int.mul_left_comm f k v]
    omega
theorem step_eq (ok : okP fr) (hl : fr.length ≤ 1000) (hx : x.length = 10) {i : Nat} (q : firstL (wantsL fr) x = some i) : F_step [prT fr, iT x] h = .ok (iT (stepP fr x)) h :=
  Out.wp_eq (Out.wp_mono (step_wp ok hl hx) (fun t h' z => z.2) fun e h' z => by rw [q] at z; exact absurd z.1 (by simp))
structure keepR (fr : List Fr) (r : List Int) : Prop where
  len : r.length = 10
  dots : ∀ q ∈ fr, dotL r (addF q) = 0
  sm : small 7167 r
theorem keepR.step (g : keepR fr r) (hx : x.length = 10) : dotL r (stepP fr x) = dotL r x := by
  unfold stepP
  cases q : firstL (wantsL fr) x with
  | none => rfl
  | some k =>
    obtain ⟨p, hp, _⟩ := firstL_lt q
    simp only [getD_of hp]
    rw [dot_gone (by rw [hx, g.len]) (by rw [addF_len, g.len]), g.dots p (List.mem_of_getElem? hp)]
    simp
theorem keepR.run (g : keepR fr r) (hx : x.length = 10) : ∀ n, dotL r (runP fr x n) = dotL r x
  | 0 => rfl
  | n + 1 => by
    have : runP fr x (n + 1) = stepP fr (runP fr x n) := rfl
    rw [this, g.step (runP_len hx n), g.run hx n]
end
end Gd
namespace Gd
open PySem PySem.Spec PyProof.Rows L2 Sm
def firstS (x : Nat → List Int) (r : List Int) (n : Nat) : Option Nat := (List.range n).find? fun j => decide (x j = r)
def seenB (x : Nat → List Int) (k : Nat) : Bool := (firstS x (x k) k).isSome
def plN (x : Nat → List Int) (k : Nat) : Nat := (firstS x (x k) (k + 1)).getD 0
def dupN (x : Nat → List Int) (m : Nat) : Option Nat := (List.range (m + 1)).find? (seenB x)
def dictS (x : Nat → List Int) : Nat → List (List Int × T)
  | 0 => []
  | n + 1 => if seenB x n = true then dictS x n else dictS x n ++ [(x n, tN n)]
def fateS (x : Nat → List Int) (rest : Nat → Bool) (m : Nat) : T := match dupN x m with
  | some i => .tup [.str "round", tN (plN x i), tN (i - plN x i)]
  | none => if rest m = true then .tup [.str "rests", tN m, iT (x m)] else .tup [.str "open"]
section
variable {h h1 : Store} {x : Nat → List Int} {fr : List Fr} {xs : List Int} {n m k i j : Nat} {r : List Int} {rest : Nat → Bool}
theorem firstS_up : firstS x r (n + 1) = (firstS x r n).or (if x n = r then some n else none) := by
  unfold firstS
  rw [List.range_succ, List.find?_append]
  congr 1
  by_cases c : x n = r
  · rw [if_pos c, List.find?_cons, decide_eq_true c]
  · rw [if_neg c, List.find?_cons, decide_eq_false c]
    rfl
theorem firstS_mono (e : firstS x r n = some j) (hm : n ≤ m) : firstS x r m = some j := by
  induction m with
  | zero =>
    have : n = 0 := by omega
    subst this
    exact e
  | succ m ih =>
    by_cases c : n = m + 1
    · subst c
      exact e
    · rw [firstS_up, ih (by omega)]
      rfl
theorem firstS_lt (e : firstS x r n = some j) : j < n ∧ x j = r := by
  unfold firstS at e
  have a := List.mem_of_find?_eq_some e
  have b := List.find?_some e
  exact ⟨List.mem_range.mp a, by simpa using b⟩
theorem firstS_self (hk : k < n) : firstS x (x k) n = some (plN x k) := by
  have : ∃ j, firstS x (x k) (k + 1) = some j := by
    rw [firstS_up]
    cases firstS x (x k) k with
    | none => exact ⟨k, by simp⟩
    | some j => exact ⟨j, rfl⟩
  obtain ⟨j, e⟩ := this
  unfold plN
  rw [e]
  exact firstS_mono e hk
theorem plN_le : plN x k ≤ k := by
  have := (firstS_lt (firstS_self (x := x) (Nat.lt_succ_self k))).1
  omega
theorem seen_pl : seenB x k = decide (plN x k < k) := by
  have e := firstS_self (x := x) (Nat.lt_succ_self k)
  unfold seenB
  rw [firstS_up] at e
  cases q : firstS x (x k) k with
  | none =>
    rw [q] at e
    simp at e
    symm
    simp
    omega
  | some j =>
    have := (firstS_lt q).1
    rw [q] at e
    simp at e
    simp
    omega
theorem getK_app {kvs : List (List Int × T)} {s : List Int} {t : T} : getK (kvs ++ [(s, t)]) r = (getK kvs r).or (if s = r then some t else none) := by
  unfold getK
  rw [List.find?_append]
  cases kvs.find? fun x => decide (x.1 = r) with
  | some y => rfl
  | none =>
    by_cases c : s = r
    · simp [c]
    · simp [c]
theorem getK_dict : ∀ n, getK (dictS x n) r = (firstS x r n).map tN
  | 0 => rfl
  | n + 1 => by
    have ih := getK_dict n
    rw [firstS_up]
    unfold dictS
    by_cases c : seenB x n = true
    · rw [if_pos c, ih]
      cases q : firstS x r n with
      | some j => rfl
      | none =>
        by_cases d : x n = r
        · subst d
          unfold seenB at c
          rw [q] at c
          cases c
        · rw [if_neg d]
          rfl
    · rw [if_neg c, getK_app, ih]
      cases firstS x r n with
      | some j => rfl
      | none =>
        by_cases d : x n = r
        · simp [d]
        · simp [d]
theorem dict_le : ∀ n, (dictS x n).length ≤ n
  | 0 => Nat.le_refl 0
  | n + 1 => by
    have ih := dict_le n
    unfold dictS
    split
    · omega
    · rw [List.length_append, List.length_singleton]
      omega
theorem dict_eq : ∀ {n}, (∀ k, k < n → seenB x k = false) → (dictS x n).length = n
  | 0, _ => rfl
  | n + 1, h => by
    have ih := dict_eq (n := n) fun k hk => h k (by omega)
    unfold dictS
    rw [h n (by omega), if_neg Bool.false_ne_true, List.length_append, ih]
    rfl
theorem dict_lt : ∀ {n}, k < n → seenB x k = true → (dictS x n).length < n
  | 0, h, _ => absurd h (by omega)
  | n + 1, h, s => by
    unfold dictS
    by_cases c : k = n
    · subst c
      rw [if_pos s]
      have := dict_le k (x := x)
      omega
    · have ih := dict_lt (n := n) (by omega) s
      split
      · omega
      · rw [List.length_append, List.length_singleton]
        omega
theorem dup_some (e : dupN x m = some i) : i ≤ m ∧ seenB x i = true ∧ ∀ k, k < i → seenB x k = false := by
  unfold dupN at e
  obtain ⟨a, j, hj, b, c⟩ := List.find?_eq_some_iff_getElem.mp e
  rw [List.length_range] at hj
  rw [List.getElem_range] at b
  subst b
  refine ⟨by omega, a, fun k hk => ?_⟩
  have := c k hk
  rw [List.getElem_range] at this
  simpa using this
theorem dup_none (e : dupN x m = none) : ∀ k, k ≤ m → seenB x k = false := fun k hk => by
  unfold dupN at e
  rw [List.find?_eq_none] at e
  have := e k (List.mem_range.mpr (by omega))
  simpa using this
def lineX (x : Nat → List Int) (n : Nat) : List T := (List.range n).map fun j => iT (x j)
theorem lineX_at (hk : k < n) : (lineX x n)[k]? = some (iT (x k)) := by
  unfold lineX
  rw [List.getElem?_map, List.getElem?_range hk]
  rfl
theorem lineX_len : (lineX x n).length = n := by simp [lineX]
theorem key_iT : keyOf (iT r) = some r := ints_map r
theorem dict_end {H : Store} {kvs : List (List Int × T)} (e : H.length = m) : dictOf (H ++ [.dT kvs]) (.loc m) = some kvs := by
  unfold dictOf
  simp only [at_end e]
theorem setd_ok {H : Store} (e : H.length = m) (hn : n < 1000) {env : Env'} {a1 a2 a3 : Nat} (e1 : env[a1]? = some (some (.loc m))) (e2 : env[a2]? = some (some (iT (x n)))) (e3 : env[a3]? = some (some (tN n))) : mSetd (mVar a1) (mVar a2) (mVar a3) env (H ++ [.dT (dictS x n)]) = .ok (if seenB x n = true then tN (plN x n) else tN n) (H ++ [.dT (dictS x (n + 1))]) := by
  have gk := getK_dict (x := x) (r := x n) n
  have dl := dict_le n (x := x)
  unfold mSetd
  simp only [q1_var, e1, e2, e3, bind_ok, dict_end e]
  unfold fSetd
  simp only [dict_end e, key_iT, Option.bind_some, gk]
  by_cases c : seenB x n = true
  · have d : dictS x (n + 1) = dictS x n := if_pos c
    have c2 := c
    unfold seenB at c2
    cases q : firstS x (x n) n with
    | none => rw [q] at c2; cases c2
    | some j =>
      have : plN x n = j := by
        have := firstS_mono q (Nat.le_succ n)
        unfold plN
        rw [this]
        rfl
      simp only [Option.map_some, outM]
      rw [if_pos c, d, this]
  · have d : dictS x (n + 1) = dictS x n ++ [(x n, tN n)] := if_neg c
    have c2 := c
    unfold seenB at c2
    cases q : firstS x (x n) n with
    | some j => rw [q] at c2; exact absurd rfl c2
    | none =>
      have p : putKT (dictS x n) (x n) (tN n) = dictS x n ++ [(x n, tN n)] := by
        unfold putKT
        rw [gk, q]
        rfl
      simp only [Option.map_none]
      rw [if_pos ⟨rfl, by omega⟩, if_neg c, d, p]
      simp only [outM]
      rw [set_end e]
theorem places_eq (hn : n < 1000) : F_first_places [.lst (lineX x n)] h = .ok (.loc h.length) (h ++ [.dT (dictS x n)]) := by
  refine Out.wp_eq' (fnK_wp rfl ?_)
  show (b_first_places [some (.lst (lineX x n)), none, none, none] h).wp _
  unfold b_first_places
  simp -implicitDefEqProofs only [q2_seq, q2_set, mDict, bindE_ok, seq_nx, List.set, so_seq]
  rw [sFor_of (src_enum (h1 := h ++ [.dT []]) (xs := lineX x n) (by simp))]
  refine forLoop_wp _ (fun i env h' => h' = h ++ [.dT (dictS x i)] ∧ i ≤ n ∧ env = [none, some (.loc h.length), none, none]) ?_ ?_ ⟨rfl, Nat.zero_le _, by simp⟩
  · rintro i z env h' hz ⟨rfl, hi, rfl⟩
    obtain ⟨t, ht, rfl⟩ := enum_at hz
    have lt : i < n := by
      have := (List.getElem?_eq_some_iff.mp ht).1
      rwa [lineX_len] at this
    rw [lineX_at lt] at ht
    cases ht
    refine ⟨by simp, _, b_tup, ?_⟩
    simp -implicitDefEqProofs only [setT, List.set, q2_exp]
    rw [setd_ok rfl (by omega) rfl rfl rfl, bindE_ok, so_nx]
    exact ⟨rfl, lt, rfl⟩
  · rintro env h' ⟨rfl, hi, rfl⟩
    rw [enumT_length, lineX_len]
    refine ⟨by simp, ?_⟩
    simp -implicitDefEqProofs only [q2_ret, q1_var, List.getElem?_cons_zero, List.getElem?_cons_succ, bindE_ok, so_rt]
    exact ⟨rfl, rfl⟩
theorem path_eq (k : okP fr) (hl : fr.length ≤ 1000) (hx : xs.length = 10) (hn : n < 900) (m1 : m ≤ n) (m2 : ∀ j, j < m → restP fr xs j = false) (m3 : m = n ∨ restP fr xs m = true) :
    F_path [prT fr, iT xs, tN n] h = .ok (.lst (lineX (runP fr xs) (m + 1))) h := by
  refine Out.wp_eq (fn_wp rfl ?_)
  show (b_path [some (prT fr), some (iT xs), some (tN n), none, none, none] h).wp _
  have nw := ways_new (h1 := h) (env := [some (prT fr), some (iT xs), some (tN n), none, none, none]) (r := mCons (mVar 0) mNil) (h := h) (by simp) k hl
  have at_ : ∀ L : List T, (h ++ [waysC fr] ++ [.lst L])[h.length]? = some (waysC fr) := fun L => by simp
  have lw : (h ++ [waysC fr]).length = h.length + 1 := by simp
  have tw : ∀ L : List T, (h ++ [waysC fr] ++ [Cell.lst L]).take h.length = h := fun L => by simp
  have sw : ∀ L : List T, sameIns h (h ++ [waysC fr] ++ [.lst L]) := fun L => by rw [List.append_assoc]; exact si_more
  generalize hW : h ++ [waysC fr] = W at nw at_ lw tw sw
  have f0 : ∀ (L : List T) (a b c d : Option T), mMeth 0 "first" F_Ways_first (mVar 3) (mCons (mVar 1) mNil) [a, some (iT xs), b, some (.loc h.length), c, d] (W ++ [.lst L]) = .ok (optT (numP fr xs 0)) (W ++ [.lst L]) := fun L a b c d => by
    rw [ways_methL (xs := [iT xs]) (n := h.length) (by simp) (at_ L) rfl (by simp), first_eq (at_ L) hx]
    rfl
  have la : ∀ j, fIdx (.loc (h.length + 1)) (.int (-1)) (W ++ [.lst (lineX (runP fr xs) (j + 1))]) = some (iT (runP fr xs j)) := fun j => by
    rw [e_idx lw]
    exact last_of j
  have ng : ∀ S : Store, fNeg (.int 1) S = some (.int (-1)) := fun S => rfl
  have c1 : ∀ (j : Nat) (a b c d : Option T), mMeth 0 "first" F_Ways_first (mVar 3) (mCons (mBin fIdx (mVar 4) (mUn fNeg (mC (.int 1)))) mNil) [a, b, c, some (.loc h.length), some (.loc (h.length + 1)), d] (W ++ [.lst (lineX (runP fr xs) (j + 1))]) = .ok (optT (numP fr xs j)) (W ++ [.lst (lineX (runP fr xs) (j + 1))]) := fun j a b c d => by
    rw [ways_methL (xs := [iT (runP fr xs j)]) (n := h.length) (by simp) (at_ _) rfl (by simp -implicitDefEqProofs only [q1_cons, q1_bin, q1_var, q1_un, q1_C, q1_nil, List.getElem?_cons_zero, List.getElem?_cons_succ, bind_ok, ng, ofO_some, la]), first_eq (at_ _) (runP_len hx j)]
    rfl
  have pu1 : pus [iT xs] = true := by simp
  unfold b_path
  simp -implicitDefEqProofs only [q2_seq, q2_set, nw, bindE_ok, seq_nx, q1_cell, q1_lst, q1_cons, q1_var, q1_nil, List.getElem?_cons_zero, List.getElem?_cons_succ, bind_ok, List.length_cons, List.length_nil, Nat.zero_add, Nat.reduceLeDiff, if_true, pu1, List.set, f0, so_seq]
  show (whileL _ _ _ _ _).wp _
  rw [lw]
  refine whileL_wp (fun z env h' => ∃ j, z = m - j ∧ j ≤ m ∧ h' = W ++ [.lst (lineX (runP fr xs) (j + 1))] ∧ env = [none, none, some (tN n), some (.loc h.length), some (.loc (h.length + 1)), some (optT (numP fr xs j))]) ?_ (m - 0) ⟨0, rfl, Nat.zero_le _, rfl, rfl⟩
  rintro z env h' ⟨j, rfl, hj, rfl, rfl⟩
  have n1 : fLen [.loc (h.length + 1)] (W ++ [.lst (lineX (runP fr xs) (j + 1))]) = some (.int ((j + 1 : Nat) : Int)) := by rw [e_len lw, lineX_len]
  have lt1 : fLe (.int ((j + 1 : Nat) : Int)) (tN n) (W ++ [.lst (lineX (runP fr xs) (j + 1))]) = some (.bl (decide (j < n))) := by
    show some (T.bl (decide (((j + 1 : Nat) : Int) ≤ (n : Int)))) = _
    congr 2
    rw [decide_eq_decide]
    omega
  have cnd : mAndT (mTst (mBin fLe (mCallF fLen (mCons (mVar 4) mNil)) (mVar 2))) (mTst (mBin fIsNot (mVar 5) (mC .non))) [none, none, some (tN n), some (.loc h.length), some (.loc (h.length + 1)), some (optT (numP fr xs j))] (W ++ [.lst (lineX (runP fr xs) (j + 1))]) = .ok (decide (j < m)) (W ++ [.lst (lineX (runP fr xs) (j + 1))]) := by
    simp -implicitDefEqProofs only [q1_andT, q1_tst, q1_bin, q1_callF, q1_cons, q1_var, q1_nil, q1_C, List.getElem?_cons_zero, List.getElem?_cons_succ, bind_ok, n1, ofO_some, lt1, asB_bl, isNot_opt]
    by_cases c : j < m
    · have := m2 j c
      rw [numP_rest] at this
      have c4 : j < n := by omega
      simp [c, c4, this]
    · have e : j = m := by omega
      subst e
      rcases m3 with z | z
      · subst z
        simp
      · rw [numP_rest] at z
        simp [z]
  rw [cnd, wp_ok]
  by_cases c : j < m
  · have q0 := m2 j c
    rw [numP_rest] at q0
    obtain ⟨i, q⟩ : ∃ i, numP fr xs j = some i := by
      cases z : numP fr xs j with
      | none => rw [z] at q0; cases q0
      | some i => exact ⟨i, rfl⟩
    obtain ⟨p, hp, _⟩ := firstL_lt q
    have ap := e_append (h := W) (m := h.length + 1) (xs := lineX (runP fr xs) (j + 1)) (y := iT (runP fr xs (j + 1))) lw (by rw [lineX_len]; omega) pu_iT
    have up : lineX (runP fr xs) (j + 1) ++ [iT (runP fr xs (j + 1))] = lineX (runP fr xs) (j + 1 + 1) := by
      unfold lineX
      rw [List.range_succ (n := j + 1), List.map_append]
      rfl
    rw [up] at ap
    have c2 : mMeth 0 "gone" F_Ways_gone (mVar 3) (mCons (mBin fIdx (mVar 4) (mUn fNeg (mC (.int 1)))) (mCons (mVar 5) (mCons (mC (.int 1)) mNil))) [none, none, some (tN n), some (.loc h.length), some (.loc (h.length + 1)), some (tN i)] (W ++ [.lst (lineX (runP fr xs) (j + 1))]) = .ok (iT (runP fr xs (j + 1))) (W ++ [.lst (lineX (runP fr xs) (j + 1))]) := by
      rw [ways_methL (xs := [iT (runP fr xs j), tN i, .int 1]) (n := h.length) (by simp) (at_ _) rfl (by simp -implicitDefEqProofs only [q1_cons, q1_bin, q1_var, q1_un, q1_C, q1_nil, List.getElem?_cons_zero, List.getElem?_cons_succ, bind_ok, ng, ofO_some, la]), gone_eq (q := 1) (at_ _) (runP_len hx j) hp (by decide), run_up q hp]
    have lo : lstOf (W ++ [.lst (lineX (runP fr xs) (j + 1))]) (.loc (h.length + 1)) = some (lineX (runP fr xs) (j + 1)) := by simp only [lstOf, at_end lw]
    rw [if_pos (by simpa using c)]
    simp -implicitDefEqProofs only [q, show optT (some i) = tN i from rfl, q2_seq, q2_exp, q2_set, q1_meth, q1_cons, q1_var, q1_nil, List.getElem?_cons_zero, List.getElem?_cons_succ, bind_ok, lo, c2, ap, bindE_ok, seq_nx, List.set, c1]
    exact ⟨m - (j + 1), by omega, j + 1, rfl, by omega, rfl, rfl⟩
  · have e : j = m := by omega
    subst e
    rw [if_neg (by simp)]
    simp -implicitDefEqProofs only [q2_ret, q1_var, List.getElem?_cons_zero, List.getElem?_cons_succ, bindE_ok, so_rt]
    refine ⟨sw _, .inr ⟨rfl, T.lst (lineX (runP fr xs) (j + 1)), ?_, rfl, tw _⟩⟩
    unfold frz
    rw [if_neg (by omega), at_end lw]
end
end Gd
namespace Gd
open PySem PySem.Spec PyProof.Rows L2 Sm
def fateP (fr : List Fr) (xs : List Int) (m : Nat) : T := fateS (runP fr xs) (restP fr xs) m
section
variable {h h1 : Store} {x : Nat → List Int} {fr : List Fr} {xs : List Int} {n m k i j : Nat} {r : List Int} {rest : Nat → Bool} {env : Env'}
theorem fate_some (e : dupN x m = some i) : fateS x rest m = .tup [.str "round", tN (plN x i), tN (i - plN x i)] := by
  unfold fateS
  rw [e]
theorem fate_none (e : dupN x m = none) : fateS x rest m = if rest m = true then .tup [.str "rests", tN m, iT (x m)] else .tup [.str "open"] := by
  unfold fateS
  rw [e]
theorem get_place {S : Store} {a : Nat} (d : dictOf S (.loc a) = some (dictS x n)) (hk : k < n) : fGetD (.loc a) (iT (x k)) S = some (tN (plN x k)) := by
  unfold fGetD
  rw [d]
  show (keyOf (iT (x k))).bind _ = _
  rw [key_iT]
  show getK (dictS x n) (x k) = _
  rw [getK_dict, firstS_self hk]
  rfl
theorem enumX : enumT 0 (lineX x n) = (List.range n).map fun k => .tup [tN k, iT (x k)] := by
  refine List.ext_getElem? fun i => ?_
  rw [enumT_get]
  unfold lineX
  rw [List.getElem?_map, List.getElem?_map]
  by_cases c : i < n
  · rw [List.getElem?_range c]
    show some (pairT (T.int ((0 + i : Nat) : Int)) (iT (x i))) = _
    rw [Nat.zero_add]
    rfl
  · rw [List.getElem?_eq_none (by rw [List.length_range]; omega)]
    rfl
theorem srcX {rr : M (List T)} (er : rr env h = .ok [.lst (lineX x n)] h1) : mEnum rr env h = .ok ⟨(List.range n).map (fun k => T.tup [tN k, iT (x k)]), []⟩ h1 := by
  rw [src_enum er, enumX]
theorem lineX_last : atI (lineX x (n + 1)) (-1) = some (iT (x n)) := last_of n
theorem idxX {S : Store} (hk : k < n) : fIdx (.lst (lineX x n)) (tN k) S = some (iT (x k)) := by
  show fIdx (.lst (lineX x n)) (.int (k : Int)) S = _
  rw [q3_idxL, atI_p (by omega) (by rw [lineX_len]; omega), Int.toNat_natCast, lineX_at hk]
theorem fate_eq (ok : okP fr) (hl : fr.length ≤ 1000) (hx : xs.length = 10) (hn : n < 900) (m1 : m ≤ n) (m2 : ∀ j, j < m → restP fr xs j = false) (m3 : m = n ∨ restP fr xs m = true) :
    F_fate [prT fr, iT xs, tN n] h = .ok (fateP fr xs m) h := by
  refine Out.wp_eq (fn_wp rfl ?_)
  show (b_fate [some (prT fr), some (iT xs), some (tN n), none, none, none, none, none] h).wp _
  have pe := path_eq (h := h) ok hl hx hn m1 m2 m3
  have dl : dictOf (h ++ [.dT (dictS (runP fr xs) (m + 1))]) (.loc h.length) = some (dictS (runP fr xs) (m + 1)) := dict_end rfl
  have pl := places_eq (h := h) (x := runP fr xs) (n := m + 1) (by omega)
  obtain ⟨x, ex⟩ : ∃ x, x = runP fr xs := ⟨_, rfl⟩
  have fx : (optT (firstL (wantsL fr) (x m))).pu = true := optT_pu
  have xl : (x m).length = 10 := by rw [ex]; exact runP_len hx m
  have rs : restP fr xs m = (firstL (wantsL fr) (x m)).isNone := by rw [ex]
  unfold fateP
  rw [← ex] at pe dl pl ⊢
  have l1 : fLenD [.loc h.length] (h ++ [.dT (dictS x (m + 1))]) = some (tN (dictS x (m + 1)).length) := by
    show (dictOf (h ++ [.dT (dictS x (m + 1))]) (.loc h.length)).map (fun kvs => T.int kvs.length) = _
    rw [dl]
    rfl
  have l2 : fLen [.lst (lineX x (m + 1))] (h ++ [.dT (dictS x (m + 1))]) = some (tN (m + 1)) := by rw [q3_lenL, lineX_len]; rfl
  have lt : fLt (tN (dictS x (m + 1)).length) (tN (m + 1)) (h ++ [.dT (dictS x (m + 1))]) = some (.bl (decide ((dictS x (m + 1)).length < m + 1))) := by
    show some (T.bl (decide (((dictS x (m + 1)).length : Int) < ((m + 1 : Nat) : Int)))) = _
    congr 2
    rw [decide_eq_decide]
    omega
  have fin : ∀ {S : Store} {t : T}, t.pu = true → t = fateS x (restP fr xs) m → sameIns h S → S.take h.length = h → (fnP h (fun b h' => b = fateS x (restP fr xs) m ∧ h' = h) (fun _ _ => False)).rt t S := fun {S t} tp e si tk => ⟨si, .inl ⟨tp, e, tk⟩⟩
  unfold b_fate
  simp -implicitDefEqProofs only [q2_seq, q2_set, q1_call, q1_cons, q1_nil, q1_var, List.getElem?_cons_zero, List.getElem?_cons_succ, bind_ok, pe, bindE_ok, seq_nx, List.set, pl, q2_if, q1_tst, q1_bin, q1_callF, l1, l2, lt, ofO_some, asB_bl]
  generalize hS : h ++ [Cell.dT (dictS x (m + 1))] = S at dl
  have siS : sameIns h S := by rw [← hS]; exact si_more
  have tkS : S.take h.length = h := by rw [← hS]; simp
  cases e : dupN x m with
  | some i =>
    obtain ⟨im, si, sb⟩ := dup_some e
    rw [decide_eq_true (dict_lt (by omega) si)]
    have gp : ∀ k, k < m + 1 → fGetD (.loc h.length) (iT (x k)) S = some (tN (plN x k)) := fun k hk => get_place dl hk
    have lt2 : ∀ k : Nat, fLt (tN (plN x k)) (tN k) S = some (.bl (seenB x k)) := fun k => by
      rw [seen_pl]
      show some (T.bl (decide ((plN x k : Int) < (k : Int)))) = _
      congr 2
      rw [decide_eq_decide]
      omega
    have cm := comp_flt (g := fun k : Nat => T.tup [tN k, iT (x k)]) (l := List.range (m + 1)) (own := [6, 7]) (tg := .tup [6, 7]) (tt := mTst (mBin fLt (mBin fGetD (mVar 4) (mVar 7)) (mVar 6))) (me := mVar 6) (env := [some (prT fr), some (iT xs), some (tN n), some (.lst (lineX x (m + 1))), some (.loc h.length), none, none, none]) (src := mEnum (mCons (mVar 3) mNil)) (h := S) (h1 := S) (seenB x) tN
      (srcX (by simp)) (by rw [List.length_range]; omega) fun k hk => by
        have hk := List.mem_range.mp hk
        refine ⟨_, b_tup, ?_, fun _ => by simp [setT]⟩
        simp -implicitDefEqProofs only [setT, drop_cons, drop_nil, List.set, q1_tst, q1_bin, q1_var, List.getElem?_cons_zero, List.getElem?_cons_succ, bind_ok, gp k hk, ofO_some, lt2, asB_bl]
    obtain ⟨tl, ht⟩ : ∃ tl, (List.range (m + 1)).filter (seenB x) = i :: tl := by
      have hd : ((List.range (m + 1)).filter (seenB x)).head? = some i := by
        rw [List.head?_filter]
        exact e
      cases q : (List.range (m + 1)).filter (seenB x) with
      | nil => rw [q] at hd; cases hd
      | cons a b =>
        rw [q] at hd
        cases hd
        exact ⟨b, rfl⟩
    have i0 : fIdx (.lst (((List.range (m + 1)).filter (seenB x)).map tN)) (.int 0) S = some (tN i) := by
      rw [ht, List.map_cons, q3_idxL, atI_0]
    have ii : fIdx (.lst (lineX x (m + 1))) (tN i) S = some (iT (x i)) := idxX (by omega)
    have sb2 : fSub (tN i) (tN (plN x i)) S = some (tN (i - plN x i)) := by
      have := plN_le (x := x) (k := i)
      show some (T.int ((i : Int) - (plN x i : Int))) = some (T.int _)
      congr 2
      omega
    have i3 : ∀ {α : Type} (u v : α), (if 0 + 1 + 1 + 1 ≤ 10000 then u else v) = u := fun u v => if_pos (by decide)
    simp -implicitDefEqProofs only [if_true, q2_seq, q2_set, q1_bin, q1_frz, cm, bind_ok, q1_C, i0, ofO_some, bindE_ok, seq_nx, List.set, q2_ret, q1_tup, q1_cons, q1_nil, q1_var, List.getElem?_cons_zero, List.getElem?_cons_succ, ii, gp i (by omega), sb2, List.length_cons, List.length_nil, i3, so_seq, so_rt]
    exact fin rfl (fate_some e).symm siS tkS
  | none =>
    have de : (dictS x (m + 1)).length = m + 1 := dict_eq fun k hk => dup_none e k (by omega)
    rw [de, decide_eq_false (by omega)]
    have nw := ways_new (h1 := S) (env := [some (prT fr), some (iT xs), some (tN n), some (.lst (lineX x (m + 1))), some (.loc h.length), none, none, none]) (r := mCons (mVar 0) mNil) (h := S) (by simp) ok hl
    have at_ : (S ++ [waysC fr])[S.length]? = some (waysC fr) := by simp
    have f1 := first_eq at_ xl
    have ng : ∀ S : Store, fNeg (.int 1) S = some (.int (-1)) := fun S => rfl
    have la : ∀ S' : Store, fIdx (.lst (lineX x (m + 1))) (.int (-1)) S' = some (iT (x m)) := fun S' => by rw [q3_idxL, lineX_last]
    have c1 : mMeth 0 "first" F_Ways_first (mNew 0 F_Ways_init (mCons (mVar 0) mNil)) (mCons (mBin fIdx (mVar 3) (mUn fNeg (mC (.int 1)))) mNil) [some (prT fr), some (iT xs), some (tN n), some (.lst (lineX x (m + 1))), some (.loc h.length), none, none, none] S = .ok (optT (firstL (wantsL fr) (x m))) (S ++ [waysC fr]) := by
      unfold mMeth
      rw [nw]
      simp only [bind_ok, insOf_at at_]
      rw [if_pos (by rfl)]
      simp -implicitDefEqProofs only [q1_cons, q1_bin, q1_var, q1_un, q1_C, q1_nil, List.getElem?_cons_zero, List.getElem?_cons_succ, bind_ok, ng, ofO_some, la]
      exact f1
    have is : ∀ S' : Store, fIs (optT (firstL (wantsL fr) (x m))) .non S' = some (.bl (firstL (wantsL fr) (x m)).isNone) := fun S' => by cases firstL (wantsL fr) (x m) <;> rfl
    have l3 : fLen [.lst (lineX x (m + 1))] (S ++ [waysC fr]) = some (tN (m + 1)) := by rw [q3_lenL, lineX_len]; rfl
    have s3 : ∀ S' : Store, fSub (tN (m + 1)) (.int 1) S' = some (tN m) := fun S' => by
      show some (T.int (((m + 1 : Nat) : Int) - 1)) = some (T.int _)
      congr 2
      omega
    have si2 : sameIns h (S ++ [waysC fr]) := by rw [← hS, List.append_assoc]; exact si_more
    have tk2 : (S ++ [waysC fr]).take h.length = h := by rw [← hS, List.append_assoc]; simp
    simp -implicitDefEqProofs only [Bool.false_eq_true, if_false, q2_nil, seq_nx, q2_seq, q2_if, q1_tst, q1_bin, c1, q1_C, bind_ok, is, ofO_some, asB_bl, bindE_ok]
    have fe := fate_none (rest := restP fr xs) e
    rw [rs] at fe
    cases o : (firstL (wantsL fr) (x m)).isNone with
    | true =>
      rw [o, if_pos rfl] at fe
      have i3 : ∀ {α : Type} (u v : α), (if 0 + 1 + 1 + 1 ≤ 10000 then u else v) = u := fun u v => if_pos (by decide)
      simp -implicitDefEqProofs only [if_true, q2_ret, q1_tup, q1_cons, q1_nil, q1_C, q1_bin, q1_callF, q1_un, q1_var, List.getElem?_cons_zero, List.getElem?_cons_succ, bind_ok, l3, s3, ng, la, ofO_some, List.length_cons, List.length_nil, i3, bindE_ok, so_seq, so_rt]
      refine fin ?_ fe.symm si2 tk2
      rw [pu_tup]
      show (true && (true && ((iT (x m)).pu && true))) = true
      rw [pu_iT]
      rfl
    | false =>
      rw [o, if_neg Bool.false_ne_true] at fe
      have i1 : ∀ {α : Type} (u v : α), (if 0 + 1 ≤ 10000 then u else v) = u := fun u v => if_pos (by decide)
      simp -implicitDefEqProofs only [Bool.false_eq_true, if_false, q2_nil, seq_nx, q2_ret, q1_tup, q1_cons, q1_nil, q1_C, bind_ok, List.length_cons, List.length_nil, i1, bindE_ok, so_rt]
      exact fin rfl fe.symm si2 tk2
end
end Gd
namespace Gd
open PySem PySem.Spec PyProof.Rows L2 Sm
section
variable {h : Store} {f g e : List Fr} {xs x : List Int} {n m : Nat} {o u : Option (List Int)}
def alikeP (f g : List Fr) : Prop := ∀ xs : List Int, xs.length = 10 → doneP f xs = doneP g xs
theorem alike_iff : unF f g = none ↔ alikeP f g := ⟨fun e _ hx => un_all e hx, fun k => unF_none k⟩
theorem alikeP.symm (k : alikeP f g) : alikeP g f := fun xs hx => (k xs hx).symm
theorem alikeP.trans (k : alikeP f g) (l : alikeP g e) : alikeP f e := fun xs hx => (k xs hx).trans (l xs hx)
theorem done_none83 : doneP f xs = none ↔ firstL (wantsL f) xs = none := by
  unfold doneP
  rw [Option.map_eq_none_iff, find_first]
  cases q : firstL (wantsL f) xs with
  | none => simp
  | some k =>
    obtain ⟨p, hp, _⟩ := firstL_lt q
    simp [hp]
theorem done_some {k : Nat} {p : Fr} (q : firstL (wantsL f) xs = some k) (hp : f[k]? = some p) : doneP f xs = some (addF p) := by
  unfold doneP
  rw [find_first, q]
  simp [hp]
theorem done_len {a : List Int} (e : doneP f xs = some a) : a.length = 10 := by
  unfold doneP at e
  cases z : f.find? fun p => fits xs (ex p.2) with
  | none => rw [z] at e; cases e
  | some p =>
    rw [z] at e
    rw [← Option.some.inj e]
    exact addF_len
theorem step_done : stepP f xs = match doneP f xs with | none => xs | some a => goneL xs a 1 := by
  cases q : firstL (wantsL f) xs with
  | none =>
    rw [done_none83.mpr q]
    unfold stepP
    rw [q]
  | some k =>
    obtain ⟨p, hp, _⟩ := firstL_lt q
    rw [done_some q hp]
    unfold stepP
    rw [q]
    simp only [getD_of hp]
theorem alikeP.step (k : alikeP f g) (hx : xs.length = 10) : stepP f xs = stepP g xs := by rw [step_done, step_done, k xs hx]
theorem alikeP.run (k : alikeP f g) (hx : xs.length = 10) : ∀ n, runP f xs n = runP g xs n
  | 0 => rfl
  | n + 1 => by
    show stepP f (runP f xs n) = stepP g (runP g xs n)
    rw [k.run hx n, k.step (runP_len hx n)]
theorem alikeP.rest (k : alikeP f g) (hx : xs.length = 10) (n : Nat) : restP f xs n = restP g xs n := by
  have e := k _ (runP_len (fr := g) hx n)
  show (firstL (wantsL f) (runP f xs n)).isNone = (firstL (wantsL g) (runP g xs n)).isNone
  rw [k.run hx n]
  cases q : firstL (wantsL f) (runP g xs n) with
  | none =>
    rw [done_none83.mpr q] at e
    rw [done_none83.mp e.symm]
  | some i =>
    cases q2 : firstL (wantsL g) (runP g xs n) with
    | none =>
      rw [done_none83.mpr q2] at e
      rw [done_none83.mp e] at q
      cases q
    | some j => rfl
theorem alikeP.fate (k : alikeP f g) (hx : xs.length = 10) : fateP f xs m = fateP g xs m := by
  unfold fateP
  rw [show runP f xs = runP g xs from funext (k.run hx), show restP f xs = restP g xs from funext (k.rest hx)]
def toldS (f : List Fr) (xs : List Int) : Option (List Int) := (doneP f xs).map fun a => goneL xs a 1
theorem step_told_eq (ok : okP f) (hl : f.length ≤ 1000) (hx : xs.length = 10) : F_law_step_told [prT f, iT xs] h = .ok (doneT (toldS f xs)) h := by
  have ff := first_fit_eq (h := h) ok hl hx
  refine Out.wp_eq (fn_wp rfl ?_)
  show (b_law_step_told [some (prT f), some (iT xs)] h).wp _
  unfold b_law_step_told
  cases q : firstL (wantsL f) xs with
  | none =>
    rw [q] at ff
    have is_ : fIs (optT (none : Option Nat)) .non h = some (.bl true) := rfl
    have e : toldS f xs = none := by unfold toldS; rw [done_none83.mpr q]; rfl
    simp -implicitDefEqProofs only [q2_seq, q2_if, q1_tst, q1_bin, q1_call, q1_cons, q1_nil, q1_var, q1_C, List.getElem?_cons_zero, List.getElem?_cons_succ, bind_ok, ff, is_, ofO_some, asB_bl, bindE_ok, if_true, q2_ret, so_seq, so_rt, e]
    exact ⟨si_refl, .inl ⟨rfl, rfl, by simp⟩⟩
  | some k =>
    have st := step_eq (h := h) ok hl hx q
    rw [q] at ff
    have is_ : fIs (optT (some k)) .non h = some (.bl false) := rfl
    obtain ⟨p, hp, _⟩ := firstL_lt q
    have e : toldS f xs = some (stepP f xs) := by unfold toldS; rw [step_done, done_some q hp]; rfl
    simp -implicitDefEqProofs only [q2_seq, q2_if, q1_tst, q1_bin, q1_call, q1_cons, q1_nil, q1_var, q1_C, List.getElem?_cons_zero, List.getElem?_cons_succ, bind_ok, ff, is_, ofO_some, asB_bl, bindE_ok, Bool.false_eq_true, if_false, q2_nil, seq_nx, q2_ret, st, so_rt, e]
    exact ⟨si_refl, .inl ⟨pu_iT, rfl, by simp⟩⟩
theorem doneT_okD : okD 1 (doneT o) := by
  cases o with
  | none => trivial
  | some a => exact okD_ints
theorem ne_doneT : fNe (doneT o) (doneT u) h = some (.bl (!decide (o = u))) := by rw [fNe_ok doneT_okD doneT_okD (by decide) (by decide), beq_done]
theorem eq_doneT : fEq (doneT o) (doneT u) h = some (.bl (decide (o = u))) := by rw [fEq_ok doneT_okD doneT_okD (by decide) (by decide), beq_done]
theorem fate_okD : okD 2 (fateP f xs m) := by
  unfold fateP fateS
  cases dupN (runP f xs) m with
  | some i =>
    intro x hx
    simp only [List.mem_cons, List.not_mem_nil, or_false] at hx
    rcases hx with rfl | rfl | rfl
    · show PyData.strOk _ = true
      decide +kernel
    · trivial
    · trivial
  | none =>
    by_cases c : restP f xs m = true
    · simp only [c, if_true]
      intro x hx
      simp only [List.mem_cons, List.not_mem_nil, or_false] at hx
      rcases hx with rfl | rfl | rfl
      · show PyData.strOk _ = true
        decide +kernel
      · trivial
      · exact okD_ints
    · simp only [c, if_false, Bool.false_eq_true]
      intro x hx
      rw [List.mem_singleton.mp hx]
      show PyData.strOk _ = true
      decide +kernel
theorem beqT_same {t : T} (k : okD n t) : beqT t t = true := by
  obtain ⟨d, e, c, _⟩ := okD_dat k
  unfold beqT
  have : datO t = d := by simp only [datO, e, Option.getD_some]
  rw [this]
  exact PySem.SeqAt.eqv_refl d c
theorem go_alike_eq (k : alikeP f g) (of : okP f) (og : okP g) (lf : f.length ≤ 900) (lg : g.length ≤ 900) (hx : xs.length = 10) : F_law_go_alike [prT f, prT g, iT xs] h = .ok (.bl true) h := by
  obtain ⟨m, m1, m2, m3⟩ := stop_by (restP f xs) 100
  have fa := fate_eq (h := h) (n := 100) of (by omega) hx (by decide) m1 m2 m3
  have fb := fate_eq (h := h) (n := 100) (fr := g) og (by omega) hx (by decide) m1 (fun j hj => by rw [← k.rest hx]; exact m2 j hj) (by rw [← k.rest hx]; exact m3)
  rw [← k.fate hx] at fb
  have fa : F_fate [prT f, iT xs, .int 100] h = .ok (fateP f xs m) h := fa
  have fb : F_fate [prT g, iT xs, .int 100] h = .ok (fateP f xs m) h := fb
  have ne : fNe (fateP f xs m) (fateP f xs m) h = some (.bl false) := by
    rw [fNe_ok fate_okD fate_okD (by decide) (by decide), beqT_same fate_okD]
    rfl
  generalize fateP f xs m = d at fa fb ne
  obtain ⟨b, hb⟩ : ∃ b, b = b_law_go_alike := ⟨_, rfl⟩
  have eb : F_law_go_alike = fn 3 5 false b := by rw [hb]; rfl
  rw [eb]
  refine Out.wp_eq (fn_wp rfl ?_)
  show (b [some (prT f), some (prT g), some (iT xs), none, none] h).wp _
  rw [hb]
  unfold b_law_go_alike
  simp -implicitDefEqProofs only [q2_seq, q2_if, q1_tst, q1_bin, q1_call, q1_cons, q1_nil, q1_var, q1_C, List.getElem?_cons_zero, List.getElem?_cons_succ, bind_ok, fa, fb, ne, ofO_some, asB_bl, bindE_ok, Bool.false_eq_true, if_false, q2_nil, seq_nx, so_seq]
  rw [sFor_of (range_ofB (h1 := h) (e := 60) (by simp; rfl) (by decide))]
  refine forLoop_wp _ (fun i env h' => h' = h ∧ env = [some (prT f), some (prT g), some (iT (runP f xs i)), none, none]) ?_ ?_ ⟨rfl, rfl⟩
  · rintro i x env h' hx2 ⟨rfl, rfl⟩
    obtain ⟨rfl, hi⟩ := range_at hx2
    refine ⟨by simp, _, b_one, ?_⟩
    have xl := runP_len (fr := f) hx i
    have s1 := step_told_eq (h := h') of (by omega) xl
    have s2 := step_told_eq (h := h') og (by omega) xl
    have e : toldS g (runP f xs i) = toldS f (runP f xs i) := by unfold toldS; rw [k _ xl]
    rw [e] at s2
    have ne : ∀ o, fNe (doneT o) (doneT o) h' = some (.bl false) := fun o => by rw [ne_doneT, decide_eq_true rfl]; rfl
    have up : ∀ a, toldS f (runP f xs i) = some a → a = runP f xs (i + 1) := fun a ha => by
      show a = stepP f (runP f xs i)
      unfold toldS at ha
      rw [step_done]
      cases z : doneP f (runP f xs i) with
      | none => rw [z] at ha; cases ha
      | some b => rw [z] at ha; exact (Option.some.inj ha).symm
    cases z : toldS f (runP f xs i) with
    | none =>
      rw [z] at s1 s2
      have s1 : F_law_step_told [prT f, iT (runP f xs i)] h' = .ok .non h' := s1
      have s2 : F_law_step_told [prT g, iT (runP f xs i)] h' = .ok .non h' := s2
      have n0 : fNe .non .non h' = some (.bl false) := rfl
      have is_ : fIs .non .non h' = some (.bl true) := rfl
      simp -implicitDefEqProofs only [List.set, q2_seq, q2_set, q2_if, q1_tst, q1_bin, q1_call, q1_cons, q1_nil, q1_var, q1_C, List.getElem?_cons_zero, List.getElem?_cons_succ, bind_ok, s1, s2, n0, is_, bindE_ok, seq_nx, ofO_some, asB_bl, Bool.false_eq_true, if_false, if_true, q2_nil, q2_ret, so_seq, so_rt]
      exact ⟨si_refl, .inl ⟨rfl, rfl, by simp⟩⟩
    | some a =>
      rw [z] at s1 s2
      have ea := up a z
      have s1 : F_law_step_told [prT f, iT (runP f xs i)] h' = .ok (iT a) h' := s1
      have s2 : F_law_step_told [prT g, iT (runP f xs i)] h' = .ok (iT a) h' := s2
      have n0 : fNe (iT a) (iT a) h' = some (.bl false) := ne (some a)
      have is_ : fIs (iT a) .non h' = some (.bl false) := rfl
      simp -implicitDefEqProofs only [List.set, q2_seq, q2_set, q2_if, q1_tst, q1_bin, q1_call, q1_cons, q1_nil, q1_var, q1_C, List.getElem?_cons_zero, List.getElem?_cons_succ, bind_ok, s1, s2, n0, is_, bindE_ok, seq_nx, ofO_some, asB_bl, Bool.false_eq_true, if_false, q2_nil, so_nx]
      rw [ea]
      exact ⟨trivial, rfl⟩
  · rintro env h' ⟨rfl, rfl⟩
    refine ⟨by simp, ?_⟩
    exact ⟨si_refl, .inl ⟨rfl, rfl, by simp⟩⟩
theorem filter_both {α : Type} (p : α → Bool) : ∀ l : List α, (l.filter fun x => !p x).length + (l.filter p).length = l.length
  | [] => rfl
  | x :: l => by
    have ih := filter_both p l
    cases q : p x <;> simp [List.filter_cons, q] <;> omega
def keptJ (f : List Fr) : List Nat := (List.range f.length).filter fun n => !decide (n ∈ idleL f f.length)
theorem idle_mem {n : Nat} (hn : n < f.length) : n ∈ idleL f f.length ↔ idleB f n = true := by
  unfold idleL
  rw [List.mem_filter, List.mem_range]
  exact ⟨fun z => z.2, fun z => ⟨hn, z⟩⟩
theorem rest_idle : (restL f).length + (idleL f f.length).length = f.length := by
  have e : (restL f).length = ((List.range f.length).filter fun n => !idleB f n).length := by
    unfold restL
    rw [List.length_map]
    congr 1
    refine List.filter_congr fun n hn => ?_
    have := idle_mem (f := f) (List.mem_range.mp hn)
    cases q : idleB f n with
    | true => rw [decide_eq_true (this.mpr q)]
    | false => rw [decide_eq_false fun z => by rw [this.mp z] at q; cases q]
  rw [e]
  have := filter_both (idleB f) (List.range f.length)
  rw [List.length_range] at this
  exact this
theorem rest_no_idle : idleL (restL f) (restL f).length = [] := by
  unfold idleL
  rw [List.filter_eq_nil_iff]
  intro n hn hb
  have hn := List.mem_range.mp hn
  have eL : restL f = (keptJ f).map fun n => f.getD n (1, 1) := rfl
  have ll : (restL f).length = (keptJ f).length := by rw [eL, List.length_map]
  obtain ⟨e, he, hf⟩ := List.any_eq_true.mp hb
  have he := List.mem_range.mp he
  have bt_ : ∀ k, (hk : k < (keptJ f).length) → bt (restL f) k = bt f ((keptJ f)[k]) := fun k hk => by
    unfold bt
    rw [eL, List.getD_eq_getElem?_getD, List.getElem?_map, List.getElem?_eq_getElem hk]
    rfl
  have h1 : n < (keptJ f).length := by omega
  have h2 : e < (keptJ f).length := by omega
  rw [bt_ n h1, bt_ e h2] at hf
  have pw : (keptJ f).Pairwise (· < ·) := List.Pairwise.filter _ List.pairwise_lt_range
  have lt := List.pairwise_iff_getElem.mp pw e n h2 h1 he
  have mn := List.mem_filter.mp (List.getElem_mem h1 : (keptJ f)[n] ∈ keptJ f)
  have hn2 := List.mem_range.mp mn.1
  have no : ¬ (keptJ f)[n] ∈ idleL f f.length := by simpa using mn.2
  refine no ((idle_mem hn2).mpr ?_)
  unfold idleB
  rw [List.any_eq_true]
  exact ⟨(keptJ f)[e], List.mem_range.mpr lt, hf⟩
end
section
variable {h : Store} {fr f g : List Fr} {n m k p : Nat} {ps : List Nat} {v : Int} {Q : T → Store → Prop} {X : Ex → Store → Prop}
theorem sl_front83 {k : Nat} : fSl (prT fr) none (some (k : Int)) h = some (prT (fr.take k)) := by
  rw [Sm.sl_tup, cut_to (by omega), Int.toNat_natCast, ← List.map_take]
theorem sl_back83 {k : Nat} : fSl (prT fr) (some (k : Int)) none h = some (prT (fr.drop k)) := by
  rw [Sm.sl_tup, cut_from (by omega), Int.toNat_natCast, ← List.map_drop]
theorem add_pr83 (c : f.length + g.length ≤ 100000) : fAdd (prT f) (prT g) h = some (prT (f ++ g)) := by
  rw [add_tup (by simpa using c), ← List.map_append]
theorem idx_pr83 {k : Nat} (hk : k < fr.length) : fIdx (prT fr) (tN k) h = some (frT (fr[k])) := by
  show fIdx (prT fr) (.int (k : Int)) h = _
  rw [q3_idx, atI_p (by omega) (by simpa using hk), Int.toNat_natCast, List.getElem?_map, List.getElem?_eq_getElem hk]
  rfl
theorem pr_pu83 : (prT fr).pu = true := by
  rw [pu_tup]
  exact pus_map fun p => by simp [frT, tN]
theorem like83_wp (p : potAt h n v) (h0 : ps ≠ []) (h9 : ps.length < 1000) (hp : ∀ p ∈ ps, p < 10) (ok : okP fr) (l1 : 1 ≤ fr.length) (l2 : fr.length ≤ 15)
    (q : ∀ (fr' : List Fr) w, 0 ≤ w → okP fr' → 1 ≤ fr'.length ∧ fr'.length ≤ fr.length + 1 → Q (prT fr') (pst h n w)) : (F_law_like [.loc n, .tup (ps.map tN), prT fr] h).wp Q X := by
  refine fn_wp rfl ?_
  show (b_law_like [some (.loc n), some (.tup (ps.map tN)), some (prT fr), none, none, none] h).wp _
  have hn := p.lt
  have t1 := take_1 (h := h) (n := n) (v := v) (far := (fr.length : Int)) hn p.2 (by omega) (by omega)
  rw [pst_self p] at t1
  have a1 := Int.emod_nonneg v (show (fr.length : Int) ≠ 0 by omega)
  have a2 := Int.emod_lt_of_pos v (show (0 : Int) < (fr.length : Int) by omega)
  obtain ⟨at_, ea, la⟩ : ∃ k : Nat, T.int (v % (fr.length : Int)) = tN k ∧ k < fr.length := ⟨(v % (fr.length : Int)).toNat, by show _ = T.int _; congr 1; omega, by omega⟩
  rw [ea] at t1
  have w1 : 0 ≤ v / (fr.length : Int) := Int.ediv_nonneg p.2 (by omega)
  generalize v / (fr.length : Int) = w at t1 w1
  have t2 := take_1 (h := h) (n := n) (v := w) (far := (fr.length : Int) + 1) hn w1 (by omega) (by omega)
  have b1 := Int.emod_nonneg w (show (fr.length : Int) + 1 ≠ 0 by omega)
  have b2 := Int.emod_lt_of_pos w (show (0 : Int) < (fr.length : Int) + 1 by omega)
  obtain ⟨to, eb, lb⟩ : ∃ k : Nat, T.int (w % ((fr.length : Int) + 1)) = tN k ∧ k ≤ fr.length := ⟨(w % ((fr.length : Int) + 1)).toNat, by show _ = T.int _; congr 1; omega, by omega⟩
  rw [eb] at t2
  have w2 : 0 ≤ w / ((fr.length : Int) + 1) := Int.ediv_nonneg w1 (by omega)
  generalize w / ((fr.length : Int) + 1) = w at t2 w2
  have t3 := take_1 (h := h) (n := n) (v := w) (far := 6) hn w2 (by omega) (by omega)
  obtain ⟨way, ec, lc⟩ : ∃ k : Nat, T.int (w % 6) = tN k ∧ k < 6 := ⟨(w % 6).toNat, by show _ = T.int _; congr 1; omega, by omega⟩
  rw [ec] at t3
  have w3 : 0 ≤ w / 6 := by omega
  generalize w / 6 = w at t3 w3
  have ln : ∀ S : Store, fLen [prT fr] S = some (.int (fr.length : Int)) := fun S => by rw [q3_len, List.length_map]
  have ad : ∀ S : Store, fAdd (.int (fr.length : Int)) (.int 1) S = some (.int ((fr.length : Int) + 1)) := fun S => rfl
  have ep : potAt (pst h n w) n w := potAt.old hn w3
  have qq : ∀ (fr' : List Fr) w, 0 ≤ w → okP fr' → 1 ≤ fr'.length ∧ fr'.length ≤ fr.length + 1 → (SO.rt (prT fr') (pst h n w)).wp (fnP h Q X) := fun fr' w w0 ok' l' => by
    have := q fr' w w0 ok' l'
    exact ⟨si_pst, .inl ⟨pr_pu83, by rw [take_pst]; exact this⟩⟩
  have sub : ∀ fr' : List Fr, (∀ x ∈ fr', x ∈ fr) → okP fr' := fun fr' a x hx => ok x (a x hx)
  have cw : ∀ (S : Store) (j : Nat), fEq (tN way) (.int (j : Int)) S = some (.bl (decide (way = j))) := fun S j => by
    show fEq (.int (way : Int)) (.int (j : Int)) S = _
    rw [q3_eq]
    congr 2
    rw [decide_eq_decide]
    omega
  have cw0 := fun S => cw S 0
  have cw1 := fun S => cw S 1
  have cw2 := fun S => cw S 2
  have cw3 := fun S => cw S 3
  have cw4 := fun S => cw S 4
  simp only [Int.ofNat_zero, Int.natCast_one, show ((0 : Nat) : Int) = 0 from rfl, show ((1 : Nat) : Int) = 1 from rfl, show ((2 : Nat) : Int) = 2 from rfl, show ((3 : Nat) : Int) = 3 from rfl, show ((4 : Nat) : Int) = 4 from rfl] at cw0 cw1 cw2 cw3 cw4
  have gt1 : ∀ S : Store, fGt (.int (fr.length : Int)) (.int 1) S = some (.bl (decide (1 < fr.length))) := fun S => by
    rw [q3_gt]
    congr 2
    rw [decide_eq_decide]
    omega
  have lt16 : ∀ S : Store, fLt (.int (fr.length : Int)) (.int 16) S = some (.bl true) := fun S => by
    rw [q3_lt, decide_eq_true (by omega)]
  have gt0 : ∀ S : Store, fGt (tN at_) (.int 0) S = some (.bl (decide (0 < at_))) := fun S => by
    show fGt (.int (at_ : Int)) (.int 0) S = _
    rw [q3_gt]
    congr 2
    rw [decide_eq_decide]
    omega
  have i1 : ∀ {α : Type} (u v : α), (if 0 + 1 ≤ 10000 then u else v) = u := fun u v => if_pos (by decide)
  have i2 : ∀ {α : Type} (u v : α), (if 0 + 1 + 1 ≤ 10000 then u else v) = u := fun u v => if_pos (by decide)
  have ada : ∀ S : Store, fAdd (tN at_) (.int 1) S = some (tN (at_ + 1)) := fun _ => rfl
  have sba : 0 < at_ → ∀ S : Store, fSub (tN at_) (.int 1) S = some (tN (at_ - 1)) := fun z S => by
    show some (T.int _) = some (T.int _)
    congr 2
    omega
  have aN : ∀ k : Nat, ∀ S : Store, asI (tN k) S = .ok (some (k : Int)) S := fun _ _ => rfl
  have ix := fun S : Store => idx_pr83 (h := S) la
  have one_pr : ∀ x : Fr, T.tup [frT x] = prT [x] := fun _ => rfl
  have two_pr : ∀ x y : Fr, T.tup [frT x, frT y] = prT [x, y] := fun _ _ => rfl
  have tl : ∀ k, (fr.take k).length ≤ fr.length := fun k => List.length_take_le' k fr
  have dl : ∀ k, (fr.drop k).length ≤ fr.length := fun k => by rw [List.length_drop]; omega
  have apN : ∀ (S : Store) (a b : List Fr), a.length ≤ 100 → b.length ≤ 100 → fAdd (prT a) (prT b) S = some (prT (a ++ b)) := fun S a b la lb => add_pr83 (by omega)
  have mt : ∀ k, ∀ x ∈ fr.take k, x ∈ fr := fun k x hx => List.mem_of_mem_take hx
  have md : ∀ k, ∀ x ∈ fr.drop k, x ∈ fr := fun k x hx => List.mem_of_mem_drop hx
  have me := List.getElem_mem la
  unfold b_law_like
  simp -implicitDefEqProofs only [q2_seq, q2_set, q1_call, q1_callF, q1_cons, q1_nil, q1_var, q1_C, q1_bin, List.set, List.getElem?_cons_zero, List.getElem?_cons_succ, bind_ok, ln, ofO_some, t1, bindE_ok, seq_nx, ad, t2, t3, q2_if, q1_andT, q1_tst, cw0, asB_bl, gt1]
  by_cases z0 : way = 0 ∧ 1 < fr.length
  · have p1 := apN (pst h n w) (fr.take at_) (fr.drop (at_ + 1)) (by have := tl at_; omega) (by have := dl (at_ + 1); omega)
    simp -implicitDefEqProofs only [z0.1, z0.2, decide_true, if_true, q1_tst, q1_bin, q1_callF, q1_cons, q1_nil, q1_var, q1_C, List.getElem?_cons_zero, List.getElem?_cons_succ, bind_ok, ln, gt1, ofO_some, asB_bl, bindE_ok, q2_ret, q1_sl, q1_part0, q1_part1, aN, sl_front83, ada, sl_back83, p1]
    refine qq _ w w3 (sub _ fun x hx => ?_) ?_
    · rcases List.mem_append.mp hx with c | c
      · exact mt _ x c
      · exact md _ x c
    · rw [List.length_append, List.length_take, List.length_drop]
      omega
  · have g0 : (if decide (way = 0) = true then Out.ok (decide (1 < fr.length)) (pst h n w) else Out.ok false (pst h n w)) = .ok false (pst h n w) := by
      by_cases c : way = 0
      · have c2 : ¬ 1 < fr.length := fun y => z0 ⟨c, y⟩
        simp [c, c2]
      · simp [c]
    rw [g0]
    simp -implicitDefEqProofs only [bindE_ok, Bool.false_eq_true, if_false, q2_nil, seq_nx, q2_seq, q2_if, q1_andT, q1_tst, q1_bin, q1_callF, q1_cons, q1_nil, q1_var, q1_C, List.getElem?_cons_zero, List.getElem?_cons_succ, bind_ok, ofO_some, asB_bl, cw1, ln, lt16]
    by_cases z1 : way = 1
    · have p1 := apN (pst h n w) (fr.take to) [fr[at_]] (by have := tl to; omega) (by simp)
      have p2 := apN (pst h n w) (fr.take to ++ [fr[at_]]) (fr.drop to) (by have := tl to; simp; omega) (by have := dl to; omega)
      simp -implicitDefEqProofs only [z1, decide_true, if_true, bindE_ok, q2_ret, q1_bin, q1_sl, q1_part0, q1_part1, q1_tup, q1_cons, q1_nil, q1_var, List.getElem?_cons_zero, List.getElem?_cons_succ, bind_ok, aN, sl_front83, ix, ofO_some, List.length_cons, List.length_nil, i1, one_pr, p1, sl_back83, p2]
      refine qq _ w w3 (sub _ fun x hx => ?_) ?_
      · rcases List.mem_append.mp hx with c | c
        · rcases List.mem_append.mp c with c | c
          · exact mt _ x c
          · rw [List.mem_singleton.mp c]; exact me
        · exact md _ x c
      · simp only [List.length_append, List.length_take, List.length_drop, List.length_cons, List.length_nil]
        omega
    · simp -implicitDefEqProofs only [z1, decide_false, bindE_ok, Bool.false_eq_true, if_false, q2_nil, seq_nx, q2_seq, q2_if, q1_andT, q1_tst, q1_bin, q1_callF, q1_cons, q1_nil, q1_var, q1_C, List.getElem?_cons_zero, List.getElem?_cons_succ, bind_ok, ofO_some, asB_bl, cw2, ln, lt16]
      by_cases z2 : way = 2
      · simp -implicitDefEqProofs only [z2, decide_true, if_true, bindE_ok, q2_ret, q1_bin, q1_sl, q1_part0, q1_part1, q1_tup, q1_call, q1_cons, q1_nil, q1_var, List.getElem?_cons_zero, List.getElem?_cons_succ, bind_ok, aN, sl_front83, ofO_some, List.length_cons, List.length_nil, i1, so_seq, so_bindE, wp_bind]
        refine fraction_wp ep h0 h9 hp fun a b w2 w20 fb => ?_
        obtain ⟨x, ex, okx⟩ := okFr_of ⟨a, b, rfl, fb⟩
        rw [ex, pst_pst]
        have p1 := apN (pst h n w2) (fr.take to) [x] (by have := tl to; omega) (by simp)
        have p2 := apN (pst h n w2) (fr.take to ++ [x]) (fr.drop to) (by have := tl to; simp; omega) (by have := dl to; omega)
        simp -implicitDefEqProofs only [wp_ok, bind_ok, one_pr, p1, ofO_some, sl_back83, p2, aN, List.length_cons, List.length_nil, i1, wp_bind]
        refine qq _ w2 w20 (fun y hy => ?_) ?_
        · rcases List.mem_append.mp hy with c | c
          · rcases List.mem_append.mp c with c | c
            · exact ok y (mt _ y c)
            · rw [List.mem_singleton.mp c]; exact okx
          · exact ok y (md _ y c)
        · simp only [List.length_append, List.length_take, List.length_drop, List.length_cons, List.length_nil]
          omega
      · simp -implicitDefEqProofs only [z2, decide_false, bindE_ok, Bool.false_eq_true, if_false, q2_nil, seq_nx, q2_seq, q2_if, q1_andT, q1_tst, q1_bin, q1_callF, q1_cons, q1_nil, q1_var, q1_C, List.getElem?_cons_zero, List.getElem?_cons_succ, bind_ok, ofO_some, asB_bl, cw3, gt0]
        by_cases z3 : way = 3 ∧ 0 < at_
        · have am : at_ - 1 < fr.length := by omega
          have ix2 := fun S : Store => idx_pr83 (h := S) am
          have p1 := apN (pst h n w) (fr.take (at_ - 1)) [fr[at_], fr[at_ - 1]] (by have := tl (at_ - 1); omega) (by simp)
          have p2 := apN (pst h n w) (fr.take (at_ - 1) ++ [fr[at_], fr[at_ - 1]]) (fr.drop (at_ + 1)) (by have := tl (at_ - 1); simp; omega) (by have := dl (at_ + 1); omega)
          simp -implicitDefEqProofs only [z3.1, z3.2, decide_true, if_true, bindE_ok, q2_ret, q1_bin, q1_sl, q1_part0, q1_part1, q1_tup, q1_cons, q1_nil, q1_var, q1_C, List.getElem?_cons_zero, List.getElem?_cons_succ, bind_ok, sba z3.2, aN, sl_front83, ix, ix2, ofO_some, List.length_cons, List.length_nil, i2, two_pr, p1, ada, sl_back83, p2]
          refine qq _ w w3 (sub _ fun x hx => ?_) ?_
          · rcases List.mem_append.mp hx with c | c
            · rcases List.mem_append.mp c with c | c
              · exact mt _ x c
              · simp only [List.mem_cons, List.not_mem_nil, or_false] at c
                rcases c with rfl | rfl
                · exact me
                · exact List.getElem_mem am
            · exact md _ x c
          · simp only [List.length_append, List.length_take, List.length_drop, List.length_cons, List.length_nil]
            omega
        · have g3 : (if decide (way = 3) = true then Out.ok (decide (0 < at_)) (pst h n w) else Out.ok false (pst h n w)) = .ok false (pst h n w) := by
            by_cases c : way = 3
            · have c2 : ¬ 0 < at_ := fun y => z3 ⟨c, y⟩
              simp [c, c2]
            · simp [c]
          rw [g3]
          simp -implicitDefEqProofs only [bindE_ok, Bool.false_eq_true, if_false, q2_nil, seq_nx, q2_seq, q2_if, q1_tst, q1_bin, q1_var, q1_C, List.getElem?_cons_zero, List.getElem?_cons_succ, bind_ok, ofO_some, asB_bl, cw4]
          by_cases z4 : way = 4
          · simp -implicitDefEqProofs only [z4, decide_true, if_true, bindE_ok, q2_ret, q1_bin, q1_sl, q1_part0, q1_part1, q1_tup, q1_call, q1_cons, q1_nil, q1_var, q1_C, List.getElem?_cons_zero, List.getElem?_cons_succ, bind_ok, aN, sl_front83, ofO_some, List.length_cons, List.length_nil, i1, so_seq, so_bindE, wp_bind]
            refine fraction_wp ep h0 h9 hp fun a b w2 w20 fb => ?_
            obtain ⟨x, ex, okx⟩ := okFr_of ⟨a, b, rfl, fb⟩
            rw [ex, pst_pst]
            have p1 := apN (pst h n w2) (fr.take at_) [x] (by have := tl at_; omega) (by simp)
            have p2 := apN (pst h n w2) (fr.take at_ ++ [x]) (fr.drop (at_ + 1)) (by have := tl at_; simp; omega) (by have := dl (at_ + 1); omega)
            simp -implicitDefEqProofs only [wp_ok, bind_ok, one_pr, p1, ofO_some, ada, sl_back83, p2, aN, List.length_cons, List.length_nil, i1, wp_bind]
            refine qq _ w2 w20 (fun y hy => ?_) ?_
            · rcases List.mem_append.mp hy with c | c
              · rcases List.mem_append.mp c with c | c
                · exact ok y (mt _ y c)
                · rw [List.mem_singleton.mp c]; exact okx
              · exact ok y (md _ y c)
            · simp only [List.length_append, List.length_take, List.length_drop, List.length_cons, List.length_nil]
              omega
          · simp -implicitDefEqProofs only [z4, decide_false, bindE_ok, Bool.false_eq_true, if_false, q2_nil, seq_nx, q2_ret, q1_var, List.getElem?_cons_zero, List.getElem?_cons_succ]
            exact qq _ w w3 ok (by omega)
end
end Gd
namespace Gd
open PySem PySem.Spec PyProof.Rows L2 Sm
@[irreducible] noncomputable def tail83 : MS := (sSeq (sSet 2 (mCall F_unlike_at (mCons (mVar 5) (mCons (mVar 6) mNil))))
  (sSeq (sIf (mTst (mBin fNe (mBin fIs (mVar 2) (mC .non)) (mBin fIs (mCall F_unlike_at (mCons (mVar 6) (mCons (mVar 5) mNil))) (mC .non))))
  (sRet (mC (.bl false)))
  sNil)
  (sSeq (sIf (mAndT (mTst (mBin fIs (mVar 2) (mC .non))) (mNotT (mTru (mCall F_law_go_alike (mCons (mVar 5) (mCons (mVar 6) (mCons (mVar 4) mNil)))))))
  (sRet (mC (.bl false)))
  sNil)
  (sSeq (sIf (mAndT (mTst (mBin fIsNot (mVar 2) (mC .non))) (mTst (mBin fEq (mCall F_law_step_told (mCons (mVar 5) (mCons (mVar 2) mNil))) (mCall F_law_step_told (mCons (mVar 6) (mCons (mVar 2) mNil))))))
  (sRet (mC (.bl false)))
  sNil)
  (sSeq (sIf (mAndT (mTst (mBin fIs (mVar 2) (mC .non))) (mAndT (mTst (mBin fIs (mCall F_unlike_at (mCons (mVar 6) (mCons (mVar 9) mNil))) (mC .non))) (mTst (mBin fIsNot (mCall F_unlike_at (mCons (mVar 5) (mCons (mVar 9) mNil))) (mC .non)))))
  (sRet (mC (.bl false)))
  sNil)
  (sSeq (sSet 1 (mCall F_without_idle_v2 (mCons (mVar 5) mNil)))
  (sIf (mOrT (mTst (mBin fNe (mCall F_idle_v2 (mCons (mVar 1) mNil)) (mFrz (mLst mNil)))) (mOrT (mNotT (mTru (mCall F_law_go_alike (mCons (mVar 5) (mCons (mVar 1) (mCons (mVar 4) mNil)))))) (mTst (mBin fNe (mBin fAdd (mCallF fLen (mCons (mVar 1) mNil)) (mCallF fLen (mCons (mCall F_idle_v2 (mCons (mVar 5) mNil)) mNil))) (mCallF fLen (mCons (mVar 5) mNil))))))
  (sRet (mC (.bl false)))
  sNil)))))))
@[irreducible] noncomputable def body83 : MS := (sSeq (sSet 8 (mCall F_law_pot (mCons (mCall F_law_cell_at (mCons (mVar 0) (mCons (mVar 3) mNil))) mNil)))
  (sSeq (sSet 7 (mCall F_law_places (mCons (mVar 8) mNil)))
  (sSeq (sSet 5 (mCall F_law_program (mCons (mVar 8) (mCons (mVar 7) (mCons (mC (.int 8)) mNil)))))
  (sSeq (sSet 6 (mCall F_law_like (mCons (mVar 8) (mCons (mVar 7) (mCons (mVar 5) mNil)))))
  (sSeq (sSet 9 (mCall F_law_like (mCons (mVar 8) (mCons (mVar 7) (mCons (mVar 6) mNil)))))
  (sSeq (sSet 4 (mCall F_law_line (mCons (mVar 8) (mCons (mVar 7) (mCons (mC (.int 6)) mNil)))))
  tail83))))))
theorem law83_is : b_law_k83 = (sSeq (sFor (mRange1 (mCons (mCallF fMax (mCons (mC (.int 1)) (mCons (mCallF fMin (mCons (mCallF fLen (mCons (mVar 0) mNil)) (mCons (mC (.int 6)) mNil))) mNil))) mNil)) (.one 3) [1, 2, 3, 4, 5, 6, 7, 8, 9]
  body83)
  (sRet (mC (.bl true)))) := by
  unfold body83 tail83
  rfl
section
variable {h S : Store} {f g e : List Fr} {xs : List Int} {a0 a3 a7 a8 : Option T}
theorem is_doneT {o : Option (List Int)} : fIs (doneT o) .non S = some (.bl o.isNone) := by cases o <;> rfl
theorem ne_bb {a b : Bool} : fNe (.bl a) (.bl b) S = some (.bl (!decide (a = b))) := by cases a <;> cases b <;> rfl
theorem tail83_wp {P : Pst} (kf : okP f) (kg : okP g) (ke : okP e) (lf : f.length ≤ 100) (lg : g.length ≤ 100) (le : e.length ≤ 100) (hx : xs.length = 10)
    (q : ∀ a1 a2, P.nx [a0, a1, a2, a3, some (iT xs), some (prT f), some (prT g), a7, a8, some (prT e)] S) :
    (tail83 [a0, none, none, a3, some (iT xs), some (prT f), some (prT g), a7, a8, some (prT e)] S).wp P := by
  have u1 := unlike_eq (h := S) kf kg lf lg
  have u2 := unlike_eq (h := S) kg kf lg lf
  have u3 := unlike_eq (h := S) kg ke lg le
  have u4 := unlike_eq (h := S) kf ke lf le
  have wi := without2_eq (h := S) kf (by omega)
  have rl := restL_le (fr := f)
  have rok := restL_okP kf
  have id1 := idle2_eq (h := S) rok (by omega)
  rw [rest_no_idle] at id1
  have id1 : F_idle_v2 [prT (restL f)] S = .ok (.lst []) S := id1
  have id2 := idle2_eq (h := S) kf (by omega)
  have ga := go_alike_eq (h := S) (xs := xs) (f := f) (g := restL f) (fun ys hy => (done_rest hy).symm) kf rok (by omega) (by omega) hx
  have l1 : fLen [prT (restL f)] S = some (tN (restL f).length) := by simp [prT, tN]
  have l2 : fLen [.lst ((idleL f f.length).map tN)] S = some (tN (idleL f f.length).length) := by rw [q3_lenL, List.length_map]; rfl
  have l3 : fLen [prT f] S = some (tN f.length) := by simp [prT, tN]
  have ad : fAdd (tN (restL f).length) (tN (idleL f f.length).length) S = some (tN f.length) := by
    show some (T.int _) = some (T.int _)
    congr 2
    have := rest_idle (f := f)
    omega
  have nn : fNe (tN f.length) (tN f.length) S = some (.bl false) := by
    show some (T.bl (!decide ((f.length : Int) = (f.length : Int)))) = _
    rw [decide_eq_true rfl]
    rfl
  have nl : fNe (.lst []) (.lst []) S = some (.bl false) := by
    have o : okD 1 (.lst []) := fun x hx => absurd hx (by simp)
    rw [fNe_ok o o (by decide) (by decide), beqT_same o]
    rfl
  have i0 : ∀ {α : Type} (u v : α), (if 0 ≤ 10000 then u else v) = u := fun u v => if_pos (by decide)
  -- unlike or not is so the other way about
  have sy : (unF f g).isNone = (unF g f).isNone := by
    cases c : unF f g with
    | none => rw [unF_none (alike_iff.mp c).symm]
    | some y =>
      cases c2 : unF g f with
      | none => rw [unF_none (alike_iff.mp c2).symm] at c; cases c
      | some z => rfl
  have s1 : fNe (.bl (unF f g).isNone) (.bl (unF g f).isNone) S = some (.bl false) := by rw [ne_bb, sy, decide_eq_true rfl]; rfl
  unfold tail83
  cases c : unF f g with
  | none =>
    rw [c] at u1 s1
    have k := alike_iff.mp c
    have gg := go_alike_eq (h := S) (xs := xs) k kf kg (by omega) (by omega) hx
    have d0 : fIs (doneT none) .non S = some (.bl true) := rfl
    have d1 : fIsNot (doneT none) .non S = some (.bl false) := rfl
    have s1 : fNe (.bl true) (.bl (unF g f).isNone) S = some (.bl false) := s1
    cases c3 : unF g e with
    | none =>
      rw [c3] at u3
      rw [unF_none (k.trans (alike_iff.mp c3))] at u4
      simp -implicitDefEqProofs only [q2_seq, q2_set, q2_if, q1_andT, q1_orT, q1_notT, q1_tru, q1_tst, q1_bin, q1_call, q1_callF, q1_cons, q1_nil, q1_var, q1_C, q1_frz, q1_lst, List.length_nil, i0, List.set, List.getElem?_cons_zero, List.getElem?_cons_succ, bind_ok, u1, u2, u3, u4, is_doneT, d0, d1, s1, gg, wi, id1, id2, nl, ga, l1, l2, l3, ad, nn, ofO_some, truF_bl, asB_bl, Bool.not_true, if_true, Bool.false_eq_true, if_false, bindE_ok, q2_nil, seq_nx, so_nx]
      exact q _ _
    | some y =>
      rw [c3] at u3
      have d3 : fIs (doneT (some y)) .non S = some (.bl false) := rfl
      simp -implicitDefEqProofs only [q2_seq, q2_set, q2_if, q1_andT, q1_orT, q1_notT, q1_tru, q1_tst, q1_bin, q1_call, q1_callF, q1_cons, q1_nil, q1_var, q1_C, q1_frz, q1_lst, List.length_nil, i0, List.set, List.getElem?_cons_zero, List.getElem?_cons_succ, bind_ok, u1, u2, u3, d0, d1, d3, is_doneT, s1, gg, wi, id1, id2, nl, ga, l1, l2, l3, ad, nn, ofO_some, truF_bl, asB_bl, Bool.not_true, if_true, Bool.false_eq_true, if_false, bindE_ok, q2_nil, seq_nx, so_nx]
      exact q _ _
  | some y =>
    rw [c] at u1 s1
    obtain ⟨ym, yn⟩ := un_some c
    have yl := tried_len y ym
    have t1 := step_told_eq (h := S) kf (by omega) yl
    have t2 := step_told_eq (h := S) kg (by omega) yl
    have un : toldS f y ≠ toldS g y := fun z => by
      unfold toldS at z
      cases p : doneP f y with
      | none =>
        cases p2 : doneP g y with
        | none => exact yn (by rw [p, p2])
        | some b => rw [p, p2] at z; cases z
      | some a =>
        cases p2 : doneP g y with
        | none => rw [p, p2] at z; cases z
        | some b =>
          rw [p, p2] at z
          have z : goneL y a 1 = goneL y b 1 := Option.some.inj z
          have al : a.length = 10 := done_len p
          have bl : b.length = 10 := done_len p2
          refine yn ?_
          rw [p, p2]
          congr 1
          refine List.ext_getElem (by rw [al, bl]) fun i h1 h2 => ?_
          have i10 : i < 10 := by rw [al] at h1; exact h1
          have ga := goneL_at (r := 1) yl al i10
          have gb := goneL_at (r := 1) yl bl i10
          rw [z, gb, List.getD_eq_getElem?_getD (l := a), List.getD_eq_getElem?_getD (l := b), List.getElem?_eq_getElem h1, List.getElem?_eq_getElem h2] at ga
          simp only [Option.getD_some] at ga
          omega
    have eq : fEq (doneT (toldS f y)) (doneT (toldS g y)) S = some (.bl false) := by rw [eq_doneT, decide_eq_false un]
    have u1 : F_unlike_at [prT f, prT g] S = .ok (iT y) S := u1
    have d0 : fIs (iT y) .non S = some (.bl false) := rfl
    have d1 : fIsNot (iT y) .non S = some (.bl true) := rfl
    have s1 : fNe (.bl false) (.bl (unF g f).isNone) S = some (.bl false) := s1
    simp -implicitDefEqProofs only [q2_seq, q2_set, q2_if, q1_andT, q1_orT, q1_notT, q1_tru, q1_tst, q1_bin, q1_call, q1_callF, q1_cons, q1_nil, q1_var, q1_C, q1_frz, q1_lst, List.length_nil, i0, List.set, List.getElem?_cons_zero, List.getElem?_cons_succ, bind_ok, u1, u2, d0, d1, is_doneT, s1, t1, t2, eq, wi, id1, id2, nl, ga, l1, l2, l3, ad, nn, ofO_some, truF_bl, asB_bl, Bool.not_true, if_true, Bool.false_eq_true, if_false, bindE_ok, q2_nil, seq_nx, so_nx]
    exact q _ _
end
theorem law83 (ns : List Int) : ∃ h', F_law_k83 [.scr ns] [] = .ok (.bl true) h' := by
  have w : (F_law_k83 [.scr ns] []).wp (fun t _ => t = .bl true) (fun _ _ => False) := by
    obtain ⟨b, hb⟩ : ∃ b, b = b_law_k83 := ⟨_, rfl⟩
    have eb : F_law_k83 = fn 1 10 false b := by rw [hb]; rfl
    rw [eb]
    refine fn_wp rfl ?_
    show (b [some (.scr ns), none, none, none, none, none, none, none, none, none] []).wp _
    have lim : ∃ m : Int, 1 ≤ m ∧ m ≤ 6 ∧ (if 1 < (if (6 : Int) < ns.length then 6 else (ns.length : Int)) then (if (6 : Int) < ns.length then 6 else (ns.length : Int)) else 1) = m := ⟨_, by split <;> split <;> omega, by split <;> split <;> omega, rfl⟩
    obtain ⟨m, m1, m2, em⟩ := lim
    have src : mRange1 (mCons (mCallF fMax (mCons (mC (.int 1)) (mCons (mCallF fMin (mCons (mCallF fLen (mCons (mVar 0) mNil)) (mCons (mC (.int 6)) mNil))) mNil))) mNil) [some (.scr ns), none, none, none, none, none, none, none, none, none] [] = .ok ⟨Sm.rangeT 0 m.toNat, []⟩ [] := by
      simp -implicitDefEqProofs (disch := first | omega | simp)
      rw [em, asR1_ok (by omega) (by omega)]
    rw [hb, law83_is, q2_seq, so_seq, sFor_of src]
    refine forLoop_wp _ (fun i env h' => env = [some (.scr ns), none, none, none, none, none, none, none, none, none]) ?_ ?_ rfl
    · rintro i x env h' hx rfl
      obtain ⟨rfl, hi⟩ := range_at hx
      refine ⟨by simp, _, b_one, ?_⟩
      unfold body83
      obtain ⟨v, hv⟩ := cell_eq (h := h') (ns := ns) (k := (i : Int)) (by omega)
      simp -implicitDefEqProofs only [List.set, q2_seq, q2_set, so_seq, so_bindE, q1_call, q1_cons, q1_var, q1_nil, List.getElem?_cons_zero, List.getElem?_cons_succ, bind_ok, Int.zero_add, hv, wp_bind]
      refine pot_ok fun v v0 => ?_
      have p : potAt (h' ++ [.lst [.int v]]) h'.length v := ⟨by simp, v0⟩
      have hn := p.lt
      generalize h' ++ [.lst [.int v]] = h1 at p hn ⊢
      generalize h'.length = n at p hn ⊢
      try simp -implicitDefEqProofs only [wp_ok, so_nx, List.set, so_bindE, q1_call, q1_cons, q1_var, q1_nil, q1_C, List.getElem?_cons_zero, List.getElem?_cons_succ, bind_ok, wp_bind]
      refine places_wp p fun ps w w0 e0 e1 e2 => ?_
      try simp -implicitDefEqProofs only [wp_ok, so_nx, List.set, so_bindE, q1_call, q1_cons, q1_var, q1_nil, q1_C, List.getElem?_cons_zero, List.getElem?_cons_succ, bind_ok, wp_bind]
      refine program_wpN (far := 8) (potAt.old hn w0) e0 (by omega) e2 (by omega) (by omega) fun fs w w0 g1 g2 hf => ?_
      obtain ⟨f, rfl, kf⟩ := okP_of hf
      rw [List.length_map] at g1 g2
      try simp -implicitDefEqProofs only [pst_pst, wp_ok, so_nx, List.set, so_bindE, q1_call, q1_cons, q1_var, q1_nil, q1_C, List.getElem?_cons_zero, List.getElem?_cons_succ, bind_ok, wp_bind]
      refine like83_wp (potAt.old hn w0) e0 (by omega) e2 kf g1 (by omega) fun g w w0 kg lg => ?_
      try simp -implicitDefEqProofs only [pst_pst, wp_ok, so_nx, List.set, so_bindE, q1_call, q1_cons, q1_var, q1_nil, q1_C, List.getElem?_cons_zero, List.getElem?_cons_succ, bind_ok, wp_bind]
      refine like83_wp (potAt.old hn w0) e0 (by omega) e2 kg lg.1 (by omega) fun e w w0 ke le => ?_
      try simp -implicitDefEqProofs only [pst_pst, wp_ok, so_nx, List.set, so_bindE, q1_call, q1_cons, q1_var, q1_nil, q1_C, List.getElem?_cons_zero, List.getElem?_cons_succ, bind_ok, wp_bind]
      refine line_wp (most := 6) (potAt.old hn w0) (by omega) e2 (by omega) fun es w w0 l1 l2 => ?_
      have hx : (nI es).length = 10 := by simp [nI, l1]
      rw [show T.tup (es.map tN) = iT (nI es) by rw [tN_nI], pst_pst]
      refine tail83_wp kf kg ke (by omega) (by omega) (by omega) hx fun a1 a2 => rfl
    · rintro env h' rfl
      refine ⟨by simp, ?_⟩
      exact ⟨si_nil, .inl ⟨rfl, rfl⟩⟩
  revert w
  cases F_law_k83 [.scr ns] [] with
  | ok t h' => exact fun e => ⟨h', by rw [show t = _ from e]⟩
  | ex e h' => exact fun z => z.elim
  | bad => exact fun z => z.elim
end Gd
theorem PySem.Challenge.cw_wholefract_k83_whole_alike_ones_go_alike_holds : PySem.Challenge.rw_wholefract_k83_whole_alike_ones_go_alike.Holds := by
  exact K83.walk fun ns _ => Gd.law83 ns
