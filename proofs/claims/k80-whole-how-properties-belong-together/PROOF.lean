import PyProof.Rows.All
import Wide.All
import OpenK.AllK
import Wide.FinOn
import HandS.ForMost
import HandS.Walk
import HandS.TupAny
import HandS.TupMul
import HandS.Wide
import HandS.Deep
import HandS.Style
import HandS.Flow
import PyProof.Rows.InDataRows
import HandS.Zip
import HandS.IsInst
import HandS.WordsDict
import PyProof.ReprRoads
import HandS.SetFor
import HandS.Strs
import HandS.TupSets
import HandS.SortInts
import HandS.SortRule
import HandS.More
import HandS.SetBool
import HandS.WordsExc
import HandS.Conv
import KE.GoesEnum
import KE.DataFind
import HandS.DictComp
import HandS.Head0
import HandS.Head1
import HandS.Head2
import HandS.HeadEnd
import HandS.HeadHook1
import HandS.HeadHook2
import HandS.Defaults
import PyProof.ReprBulk
import PySem.Challenge.RW_shadebarriers_k80_whole_how_properties_b
set_option Elab.async false
set_option linter.all false
set_option maxRecDepth 100000
/-! Trees, their relation to HandS' values, and the state of a frame. -/
namespace L2.TV
open PySem PySem.Spec PyProof.Rows

/-- a value as a tree; `ref n` is a shared thing, the n-th cell of the store -/
inductive T where
  | non | bl (b : Bool) | int (i : Int) | str (x : Str)
  | tup (l : List T) | lst (l : List T)
  | dk (l : List (Key × T)) | dt (l : List (List Key × T))
  | scr (l : List Int)
  | ref (n : Nat)

/-- a slot of a frame: nothing yet, a value, a list or a dict that only this slot knows -/
inductive Slot where
  | none | val (t : T) | own (l : List T) | ownK (l : List (Key × T)) | ownT (l : List (List Key × T))
/-- a shared cell: a list; an instance of the class named, with its fields; an exception -/
inductive Cell where
  | lst (l : List T)
  | ins (c : Str) (fs : List (Str × T))
structure S where
  env : List Slot
  sto : List Cell

def Slot.isOwn : Slot → Bool
  | .own _ => true | .ownK _ => true | .ownT _ => true | _ => false

/-- the list handed in: frozen, or one of the text's own objects -/
def SqF (K : PySem.W.Frag) (H : Hp) (a : Addr) (xs : List V) : Prop :=
  (∃ o, H a = some (.frz o (.lst xs))) ∨ ∃ (o : Obj) (its : Array Value) (n : Nat), K.lookup a = some o ∧ o.cls = .type "list" ∧ o.dict = none ∧ o.data = .seq its n ∧ its.size ≤ sizeLine ∧ Vals xs its.toList
theorem SqF.l {K : PySem.W.Frag} {H : Hp} {a : Addr} {xs : List V} (h : SqF K H a xs) : SqL K H a xs := h.elim (fun ⟨o, e⟩ => .inl (.inr ⟨o, e⟩)) .inr
/-- a tuple that looks like a mark: it is never a constant of the text -/
def markT : List T → Bool
  | .str x :: _ => decide (x = Str.ofString "store") || (decide (x = Str.ofString "load") || decide (x = Str.ofString "new"))
  | _ => false
structure TupA (K : PySem.W.Frag) (H : Hp) (a : Addr) (xs : List V) (ts : List T) : Prop where
  sq : SqT K H a xs
  trk : markT ts = true → H a = some (.tup xs)
theorem TupA.new {K : PySem.W.Frag} {H : Hp} {a : Addr} {xs : List V} {ts : List T} (h : H a = some (.tup xs)) : TupA K H a xs ts := ⟨SqT.of h, fun _ => h⟩
section
variable (K : PySem.W.Frag) (ρ : List Addr) (L : Addr → Prop) (H : Hp)
mutual
inductive Rp : V → T → Prop
  | non : Rp .non .non
  | bl (b : Bool) : Rp (.bl b) (.bl b)
  | int (i : Int) : Rp (.int i) (.int i)
  | str (x : Str) : Rp (.str x) (.str x)
  | tup {a : Addr} {xs : List V} {ts : List T} : TupA K H a xs ts → RpL xs ts → Rp (.ref a) (.tup ts)
  | lst {a : Addr} {xs : List V} {ts : List T} : H a = some (.lst xs) → ¬ L a → RpL xs ts → Rp (.ref a) (.lst ts)
  | dk {a : Addr} {kvs : List (Key × V)} {ts : List (Key × T)} : Rd H a (.dK kvs) → ¬ L a → kvs.map (·.1) = ts.map (·.1) → RpL (kvs.map (·.2)) (ts.map (·.2)) → Rp (.ref a) (.dk ts)
  | dt {a : Addr} {kvs : List (List Key × V)} {ts : List (List Key × T)} : H a = some (.dT kvs) → ¬ L a → kvs.map (·.1) = ts.map (·.1) → RpL (kvs.map (·.2)) (ts.map (·.2)) → Rp (.ref a) (.dt ts)
  | scr {a : Addr} {ns : List Int} : SqF K H a (ns.map V.int) → Rp (.ref a) (.scr ns)
  | ref {a : Addr} {n : Nat} : ρ[n]? = some a → Rp (.ref a) (.ref n)
inductive RpL : List V → List T → Prop
  | nil : RpL [] []
  | cons {v : V} {vs : List V} {t : T} {ts : List T} : Rp v t → RpL vs ts → RpL (v :: vs) (t :: ts)
end
end

section
variable {K : PySem.W.Frag} {ρ ρ' : List Addr} {L L' : Addr → Prop} {H H' : Hp}

theorem RpL.len : ∀ {xs : List V} {ts : List T}, RpL K ρ L H xs ts → xs.length = ts.length
  | _, _, .nil => rfl
  | _, _, .cons _ r => by simp [RpL.len r]
theorem RpL.get : ∀ {xs : List V} {ts : List T} {i : Nat} {t : T}, RpL K ρ L H xs ts → ts[i]? = some t → ∃ v, xs[i]? = some v ∧ Rp K ρ L H v t
  | _, _, _, _, .nil, e => by simp at e
  | _, _, 0, _, .cons r _, e => by simp at e; subst e; exact ⟨_, rfl, r⟩
  | _, _, i + 1, _, .cons _ q, e => by
    obtain ⟨v, h1, h2⟩ := RpL.get (i := i) q (by simpa using e)
    exact ⟨v, by simpa using h1, h2⟩
theorem RpL.getV : ∀ {xs : List V} {ts : List T} {i : Nat} {v : V}, RpL K ρ L H xs ts → xs[i]? = some v → ∃ t, ts[i]? = some t ∧ Rp K ρ L H v t
  | _, _, _, _, .nil, e => by simp at e
  | _, _, 0, _, .cons r _, e => by simp at e; subst e; exact ⟨_, rfl, r⟩
  | _, _, i + 1, _, .cons _ q, e => by
    obtain ⟨v, h1, h2⟩ := RpL.getV (i := i) q (by simpa using e)
    exact ⟨v, by simpa using h1, h2⟩
theorem RpL.append : ∀ {xs ys : List V} {ts us : List T}, RpL K ρ L H xs ts → RpL K ρ L H ys us → RpL K ρ L H (xs ++ ys) (ts ++ us)
  | _, _, _, _, .nil, s => s
  | _, _, _, _, .cons r t, s => .cons r (RpL.append t s)
theorem RpL.take : ∀ {xs : List V} {ts : List T} (n : Nat), RpL K ρ L H xs ts → RpL K ρ L H (xs.take n) (ts.take n)
  | _, _, 0, _ => by simpa using RpL.nil
  | _, _, _ + 1, .nil => by simpa using RpL.nil
  | _, _, n + 1, .cons r t => by simpa using RpL.cons r (RpL.take n t)
theorem RpL.drop : ∀ {xs : List V} {ts : List T} (n : Nat), RpL K ρ L H xs ts → RpL K ρ L H (xs.drop n) (ts.drop n)
  | _, _, 0, r => by simpa using r
  | _, _, _ + 1, .nil => by simpa using RpL.nil
  | _, _, n + 1, .cons _ t => by simpa using RpL.drop n t
theorem RpL.set {v : V} {t : T} (r : Rp K ρ L H v t) : ∀ {xs : List V} {ts : List T} (i : Nat), RpL K ρ L H xs ts → RpL K ρ L H (xs.set i v) (ts.set i t)
  | _, _, _, .nil => by simpa using RpL.nil
  | _, _, 0, .cons _ q => by simpa using RpL.cons r q
  | _, _, i + 1, .cons h q => by simpa using RpL.cons h (RpL.set r i q)
theorem RpL.rev : ∀ {xs : List V} {ts : List T}, RpL K ρ L H xs ts → RpL K ρ L H xs.reverse ts.reverse
  | _, _, .nil => by simpa using RpL.nil
  | _, _, .cons r q => by simpa using (RpL.rev q).append (.cons r .nil)
theorem RpL.rep {v : V} {t : T} (r : Rp K ρ L H v t) : ∀ n, RpL K ρ L H (List.replicate n v) (List.replicate n t)
  | 0 => by simpa using RpL.nil
  | n + 1 => by simpa [List.replicate_succ] using RpL.cons r (RpL.rep r n)
theorem RpL.of_all {xs : List V} {ts : List T} (hl : xs.length = ts.length) (h : ∀ (i : Nat) (v : V) (t : T), xs[i]? = some v → ts[i]? = some t → Rp K ρ L H v t) : RpL K ρ L H xs ts := by
  induction xs generalizing ts with
  | nil => cases ts with
    | nil => exact .nil
    | cons _ _ => simp at hl
  | cons x xs ih => cases ts with
    | nil => simp at hl
    | cons t ts => exact .cons (h 0 x t rfl rfl) (ih (by simpa using hl) fun i v u a b => h (i + 1) v u (by simpa using a) (by simpa using b))

/-- what is written may be written -/
def MutL (L : Addr → Prop) (H : Hp) : Prop := ∀ a, L a → ∃ o, H a = some o ∧ Mut (some o)

/-- what a step keeps of trees -/
structure Kp (ρ : List Addr) (L : Addr → Prop) (H : Hp) (ρ' : List Addr) (L' : Addr → Prop) (H' : Hp) : Prop where
  pre : ∀ (n : Nat) (a : Addr), ρ[n]? = some a → ρ'[n]? = some a
  kp : ∀ a o, H a = some o → ¬ L a → H' a = some o
  lv : ∀ a, L' a → L a ∨ H a = none
theorem SqT.kp {a : Addr} {xs : List V} (k : Kp ρ L H ρ' L' H') (m : MutL L H) (h : SqT K H a xs) : SqT K H' a xs := by
  rcases h with h | h
  · refine .inl ?_
    have nl : ∀ o, H a = some o → ¬ Mut (some o) → H' a = some o := fun o e nm => k.kp a o e fun l => by
      obtain ⟨o', e', mu⟩ := m a l
      rw [e] at e'; cases e'; exact nm mu
    rcases h with h | ⟨o, h⟩
    · exact .inl (nl _ h fun z => z)
    · exact .inr ⟨o, nl _ h fun z => z⟩
  · exact .inr h
theorem TupA.kp {a : Addr} {xs : List V} {ts : List T} (k : Kp ρ L H ρ' L' H') (m : MutL L H) (h : TupA K H a xs ts) : TupA K H' a xs ts := ⟨SqT.kp k m h.sq, fun z => k.kp _ _ (h.trk z) fun l => by
  obtain ⟨o', e', mu⟩ := m a l
  rw [h.trk z] at e'; cases e'; exact mu⟩
mutual
theorem Rp.kp (k : Kp ρ L H ρ' L' H') (m : MutL L H) : ∀ {v : V} {t : T}, Rp K ρ L H v t → Rp K ρ' L' H' v t
  | _, _, .non => .non
  | _, _, .bl b => .bl b
  | _, _, .int i => .int i
  | _, _, .str x => .str x
  | _, _, .tup h r => .tup (TupA.kp k m h) (RpL.kp k m r)
  | _, _, .lst h n r => .lst (k.kp _ _ h n) (fun l => (k.lv _ l).elim n fun e => by rw [h] at e; cases e) (RpL.kp k m r)
  | _, _, .dk h n e r => .dk (h.imp (fun h => k.kp _ _ h n) fun ⟨o, h⟩ => ⟨o, k.kp _ _ h n⟩) (fun l => (k.lv _ l).elim n fun e => by rcases h with h | ⟨o, h⟩ <;> (rw [h] at e; cases e)) e (RpL.kp k m r)
  | _, _, .dt h n e r => .dt (k.kp _ _ h n) (fun l => (k.lv _ l).elim n fun e => by rw [h] at e; cases e) e (RpL.kp k m r)
  | _, _, .scr (a := a) h => .scr (h.imp (fun ⟨o, h⟩ => ⟨o, k.kp _ _ h fun l => by
      obtain ⟨o', e', mu⟩ := m a l
      rw [h] at e'; cases e'; exact mu⟩) id)
  | _, _, .ref h => .ref (k.pre _ _ h)
theorem RpL.kp (k : Kp ρ L H ρ' L' H') (m : MutL L H) : ∀ {vs : List V} {ts : List T}, RpL K ρ L H vs ts → RpL K ρ' L' H' vs ts
  | _, _, .nil => .nil
  | _, _, .cons r q => .cons (Rp.kp k m r) (RpL.kp k m q)
end
end

/-! ### the frame's state -/
/-- the address of an own list or dict of the frame -/
def OwnA (env : List Slot) (σ : St) (a : Addr) : Prop := ∃ (i : Nat) (x : Slot), env[i]? = some x ∧ x.isOwn = true ∧ σ[i]? = some (some (V.ref a))
/-- what may be written here or by those around -/
def Lv (O : Addr → Prop) (ρ : List Addr) (env : List Slot) (σ : St) : Addr → Prop := fun a => a ∈ ρ ∨ O a ∨ OwnA env σ a

/-- what stands at an own slot -/
def OwnOk (K : PySem.W.Frag) (ρ : List Addr) (L : Addr → Prop) (H : Hp) (a : Addr) : Slot → Prop
  | .own l => ∃ xs, H a = some (.lst xs) ∧ RpL K ρ L H xs l
  | .ownK l => ∃ kvs, H a = some (.dK kvs) ∧ kvs.map (·.1) = l.map (·.1) ∧ RpL K ρ L H (kvs.map (·.2)) (l.map (·.2))
  | .ownT l => ∃ kvs, H a = some (.dT kvs) ∧ kvs.map (·.1) = l.map (·.1) ∧ RpL K ρ L H (kvs.map (·.2)) (l.map (·.2))
  | _ => True
/-- what stands in a cell; cls tells where a class of the program stands -/
def CellOk (K : PySem.W.Frag) (cls : Str → Option Addr) (ρ : List Addr) (L : Addr → Prop) (H : Hp) (a : Addr) : Cell → Prop
  | .lst l => ∃ xs, H a = some (.lst xs) ∧ RpL K ρ L H xs l
  | .ins c fs => ∃ C dx gs, cls c = some C ∧ H a = some (.ins C dx gs) ∧ H dx = some (.own a) ∧ gs.map (·.1) = fs.map (·.1) ∧ RpL K ρ L H (gs.map (·.2)) (fs.map (·.2))

structure RS (K : PySem.W.Frag) (cls : Str → Option Addr) (O : Addr → Prop) (ρ : List Addr) (s : S) (σ : St) (H : Hp) : Prop where
  nd : ρ.Nodup
  len : ρ.length = s.sto.length
  slot : ∀ (i : Nat) (t : T), s.env[i]? = some (.val t) → ∃ v, σ[i]? = some (some v) ∧ Rp K ρ (Lv O ρ s.env σ) H v t
  own : ∀ (i : Nat) (x : Slot), s.env[i]? = some x → x.isOwn = true → ∃ a, σ[i]? = some (some (.ref a)) ∧ ¬ O a ∧ a ∉ ρ ∧ OwnOk K ρ (Lv O ρ s.env σ) H a x
  inj : ∀ (i j : Nat) (x y : Slot) (a : Addr), s.env[i]? = some x → s.env[j]? = some y → x.isOwn = true → y.isOwn = true → σ[i]? = some (some (.ref a)) → σ[j]? = some (some (.ref a)) → i = j
  cell : ∀ (n : Nat) (c : Cell) (a : Addr), s.sto[n]? = some c → ρ[n]? = some a → CellOk K cls ρ (Lv O ρ s.env σ) H a c
  out : ∀ a, O a → a ∉ ρ ∧ ∃ o, H a = some o ∧ Mut (some o)
  elen : s.env.length = σ.length

/-- a step of the frame -/
structure Le (ρ : List Addr) (env : List Slot) (σ : St) (H : Hp) (ρ' : List Addr) (env' : List Slot) (σ' : St) (H' : Hp) : Prop where
  pre : ∀ (n : Nat) (a : Addr), ρ[n]? = some a → ρ'[n]? = some a
  fr : ∀ a, a ∈ ρ' → a ∈ ρ ∨ H a = none
  ow : ∀ a, OwnA env' σ' a → OwnA env σ a ∨ H a = none
  kp : ∀ a o, H a = some o → a ∉ ρ → ¬ OwnA env σ a → H' a = some o
  tr : ∀ a o, H a = some o → ∃ o', H' a = some o'

section
variable {K : PySem.W.Frag} {cls : Str → Option Addr} {O : Addr → Prop} {ρ ρ' ρ'' : List Addr} {env env' env'' : List Slot} {σ σ' σ'' : St} {H H' H'' : Hp} {s s' : S}
theorem Le.refl : Le ρ env σ H ρ env σ H := ⟨fun _ _ h => h, fun _ h => .inl h, fun _ h => .inl h, fun _ _ h _ _ => h, fun _ o h => ⟨o, h⟩⟩
theorem Le.none {a : Addr} (l : Le ρ env σ H ρ' env' σ' H') (h : H' a = none) : H a = none := by
  cases e : H a with
  | none => rfl
  | some o => obtain ⟨o', e'⟩ := l.tr a o e; rw [h] at e'; cases e'
theorem Le.trans (a : Le ρ env σ H ρ' env' σ' H') (b : Le ρ' env' σ' H' ρ'' env'' σ'' H'') : Le ρ env σ H ρ'' env'' σ'' H'' where
  pre := fun n x h => b.pre n x (a.pre n x h)
  fr := fun x h => (b.fr x h).elim (fun h => a.fr x h) fun h => .inr (a.none h)
  ow := fun x h => (b.ow x h).elim (fun h => a.ow x h) fun h => .inr (a.none h)
  kp := fun x o h n1 n2 => b.kp x o (a.kp x o h n1 n2) (fun m => (a.fr x m).elim n1 fun e => by rw [h] at e; cases e) fun m => (a.ow x m).elim n2 fun e => by rw [h] at e; cases e
  tr := fun x o h => by
    obtain ⟨o1, h1⟩ := a.tr x o h
    exact b.tr x o1 h1
theorem Le.same (h : Same H H') : Le ρ env σ H ρ env σ H' := ⟨fun _ _ h => h, fun _ h => .inl h, fun _ h => .inl h, fun _ _ e _ _ => h _ _ e, fun _ o e => ⟨o, h _ _ e⟩⟩
theorem Le.kpO (l : Le ρ env σ H ρ' env' σ' H') : Kp ρ (Lv O ρ env σ) H ρ' (Lv O ρ' env' σ') H' where
  pre := l.pre
  kp := fun a o h n => l.kp a o h (fun m => n (.inl m)) fun m => n (.inr (.inr m))
  lv := fun a h => by
    rcases h with h | h | h
    · exact (l.fr a h).imp .inl id
    · exact .inl (.inr (.inl h))
    · exact (l.ow a h).imp (fun z => .inr (.inr z)) id

theorem RS.mut (r : RS K cls O ρ s σ H) : MutL (Lv O ρ s.env σ) H := by
  intro a h
  rcases h with h | h | ⟨i, x, e1, e2, e3⟩
  · obtain ⟨n, e⟩ := List.mem_iff_getElem?.mp h
    have hn : n < s.sto.length := by rw [← r.len]; exact (List.getElem?_eq_some_iff.mp e).1
    have q := r.cell n s.sto[n] a (List.getElem?_eq_getElem hn) e
    cases hc : s.sto[n] with
    | lst l => rw [hc] at q; obtain ⟨xs, q, _⟩ := q; exact ⟨_, q, trivial⟩
    | ins c fs => rw [hc] at q; obtain ⟨C, dx, gs, _, q, _⟩ := q; exact ⟨_, q, trivial⟩
  · exact (r.out a h).2
  · obtain ⟨a', q1, _, _, q⟩ := r.own i x e1 e2
    rw [e3] at q1; cases q1
    cases x with
    | own l => obtain ⟨xs, q, _⟩ := q; exact ⟨_, q, trivial⟩
    | ownK l => obtain ⟨xs, q, _⟩ := q; exact ⟨_, q, trivial⟩
    | ownT l => obtain ⟨xs, q, _⟩ := q; exact ⟨_, q, trivial⟩
    | none => cases e2
    | val t => cases e2
/-- a value stays what it is over a step -/
theorem Rp.le {v : V} {t : T} (r : RS K cls O ρ s σ H) (l : Le ρ s.env σ H ρ' env' σ' H') (h : Rp K ρ (Lv O ρ s.env σ) H v t) : Rp K ρ' (Lv O ρ' env' σ') H' v t := h.kp l.kpO r.mut
theorem RpL.le {v : List V} {t : List T} (r : RS K cls O ρ s σ H) (l : Le ρ s.env σ H ρ' env' σ' H') (h : RpL K ρ (Lv O ρ s.env σ) H v t) : RpL K ρ' (Lv O ρ' env' σ') H' v t := h.kp l.kpO r.mut

theorem OwnOk.kp {L L' : Addr → Prop} {a : Addr} {x : Slot} (k : Kp ρ L H ρ' L' H') (m : MutL L H) (e : ∀ o, H a = some o → H' a = some o) (h : OwnOk K ρ L H a x) : OwnOk K ρ' L' H' a x := by
  cases x with
  | own l => obtain ⟨xs, q, r⟩ := h; exact ⟨xs, e _ q, r.kp k m⟩
  | ownK l => obtain ⟨xs, q, i, r⟩ := h; exact ⟨xs, e _ q, i, r.kp k m⟩
  | ownT l => obtain ⟨xs, q, i, r⟩ := h; exact ⟨xs, e _ q, i, r.kp k m⟩
  | none => trivial
  | val t => trivial
theorem CellOk.kp {L L' : Addr → Prop} {a : Addr} {c : Cell} (k : Kp ρ L H ρ' L' H') (m : MutL L H) (e : ∀ o, H a = some o → H' a = some o) (eo : ∀ b, H b = some (.own a) → H' b = some (.own a)) (h : CellOk K cls ρ L H a c) : CellOk K cls ρ' L' H' a c := by
  cases c with
  | lst l => obtain ⟨xs, q, r⟩ := h; exact ⟨xs, e _ q, r.kp k m⟩
  | ins c fs => obtain ⟨C, dx, gs, q0, q, q1, i, r⟩ := h; exact ⟨C, dx, gs, q0, e _ q, eo _ q1, i, r.kp k m⟩
/-- objects were made, nothing else -/
theorem RS.same (r : RS K cls O ρ s σ H) (h : Same H H') : RS K cls O ρ s σ H' := by
  have k : Kp ρ (Lv O ρ s.env σ) H ρ (Lv O ρ s.env σ) H' := (Le.same h).kpO
  have m := r.mut
  refine ⟨r.nd, r.len, fun i t e => ?_, fun i x e1 e2 => ?_, r.inj, fun n c a e1 e2 => ?_, fun a h' => ?_, r.elen⟩
  · obtain ⟨v, q1, q2⟩ := r.slot i t e
    exact ⟨v, q1, q2.kp k m⟩
  · obtain ⟨a, q1, q2, q3, q4⟩ := r.own i x e1 e2
    exact ⟨a, q1, q2, q3, q4.kp k m fun o e => h _ _ e⟩
  · exact (r.cell n c a e1 e2).kp k m (fun o e => h _ _ e) fun b e => h _ _ e
  · obtain ⟨q1, o, q2, q3⟩ := r.out a h'
    exact ⟨q1, o, h _ _ q2, q3⟩
end
end L2.TV

/-! The IR and its interpreter. -/
namespace L2.TV
open PySem PySem.Spec PyProof.Rows

/-- what an expression gives: a value; a new list or dict that nobody else knows; an own slot looked at -/
inductive Rt where
  | v (t : T) | l (ts : List T) | k (ts : List (Key × T)) | d (ts : List (List Key × T)) | b (i : Nat)
/-- an outcome -/
inductive R (α : Type) where
  | ok (a : α) (s : S)
  | err (c : String) (fs : List (Str × T)) (s : S)
  | bad

namespace R
def bind {α β : Type} (r : R α) (f : α → S → R β) : R β := match r with
  | .ok a s => f a s
  | .err c fs s => .err c fs s
  | .bad => .bad
def opt {α : Type} (o : Option α) (s : S) : R α := match o with
  | some a => .ok a s
  | none => .bad
/-- where no error may leave -/
def quiet {α : Type} (r : R α) : R α := match r with
  | .ok a s => .ok a s
  | _ => .bad
theorem bind_ok {α β : Type} (a : α) (s : S) (f : α → S → R β) : (R.ok a s).bind f = f a s := rfl
theorem bind_err {α β : Type} (c : String) (fs : List (Str × T)) (s : S) (f : α → S → R β) : (R.err c fs s).bind f = .err c fs s := rfl
theorem bind_bad {α β : Type} (f : α → S → R β) : (R.bad).bind f = .bad := rfl
theorem opt_some {α : Type} (a : α) (s : S) : R.opt (some a) s = .ok a s := rfl
theorem opt_none {α : Type} (s : S) : R.opt (none : Option α) s = .bad := rfl
end R

/-- a call's outcome -/
inductive RC where
  | ok (t : T) (sto : List Cell)
  | err (c : String) (fs : List (Str × T)) (sto : List Cell)
  | bad

inductive Bop where
  | add | sub | mul | fdiv | mod | pow | shl
inductive Cop where
  | eq | ne | lt | le | gt | ge | isin | notin | is | isnot
inductive Fn where
  | len | tuple | list | sorted | sortset | all | any | int | str | repr | abs | sum | min1 | max1 | min2 | max2 | dictK | dictT | range
inductive Mt where
  | get1 | get2 | index | count | join | split | upper | partition
/-- kinds for isinstance -/
inductive Kd where
  | tuple | list | dict | str | int | bool
inductive Tg where
  | name (i : Nat)
  | tup (l : List Tg)

/-- a key of a display -/
inductive KE where
  | s (x : String) | i (i : Int) | c (x : String)
mutual
inductive IE where
  | var (i : Nat) | peek (i : Nat)
  | int (i : Int) | str (x : String) | bl (b : Bool) | non
  | cst (x : String)
  | bin (o : Bop) (a b : IE)
  | cmp (o : Cop) (a b : IE)
  | chn (o p : Cop) (a b c : IE)
  | and (a b : IE) | or (a b : IE) | not (a : IE) | neg (a : IE)
  | ife (c a b : IE)
  | tup (es : List IE) | lst (es : List IE) | cel (es : List IE)
  | newK | newT
  | dispK (vs : List IE) (ks : List KE)
  | ix (a b : IE)
  | sl (a : IE) (lo hi : Option IE) | rev (a : IE)
  | lc (elt : IE) (tg : Tg) (src : Src) (cond : Option IE) (own : List Nat)
  | lc2 (elt : IE) (tg : Tg) (src : Src) (cond : Option IE) (tg1 : Tg) (src1 : Src) (cond1 : Option IE) (own own1 : List Nat)
  | fn (f : Fn) (args : List IE)
  | isi (a : IE) (ks : List Kd)
  | pop (i : Nat) (arg : Option IE)
  | call (f : String) (args : List IE)
  | callK (f : String) (args : List IE) (is : List Nat)
  | dcK (kx vx : IE) (tg : Tg) (src : Src) (cond : Option IE) (own : List Nat)
  | dcT (kx vx : IE) (tg : Tg) (src : Src) (cond : Option IE) (own : List Nat)
  | tix (x : String) (a : IE)
  | tin (no : Bool) (x : String) (a : IE)
  | lcI (elt : IE) (tg : Tg) (vals : Bool) (a : IE) (cond : Option IE) (own : List Nat)
  | rng (l : Bool) (a : IE) (b : Option IE)
inductive Src where
  | e (a : IE) | range1 (a : IE) | range2 (a b : IE) | enum (a : IE) | zip (a b : IE)
end

/-! ### plain operations on trees -/
mutual
/-- the data of a tree, where it is data -/
def T.pd : T → Option PyData
  | .non => some .none
  | .bl b => some (.bool b)
  | .int i => some (.int i)
  | .str x => some (.str x)
  | .tup l => (T.pds l).map .tuple
  | .lst l => (T.pds l).map .list
  | .dk l => (T.pdk l).map .dict
  | .dt _ => none
  | .scr _ => none
  | .ref _ => none
def T.pds : List T → Option (List PyData)
  | [] => some []
  | t :: ts => match T.pd t, T.pds ts with
    | some d, some ds => some (d :: ds)
    | _, _ => none
def T.pdk : List (Key × T) → Option (List (PyData × PyData))
  | [] => some []
  | (k, t) :: ts => match T.pd t, T.pdk ts with
    | some d, some ds => some ((match k with | .inl i => .int i | .inr x => .str x, d) :: ds)
    | _, _ => none
end

def truth : T → Option Bool
  | .non => some false
  | .bl b => some b
  | .int i => some (i != 0)
  | .str x => if x.length ≤ sizeLine then some ((x.length : Int) != 0) else none
  | .tup l => some !l.isEmpty
  | .lst l => some !l.isEmpty
  | _ => none

def fitL (n : Nat) : Bool := decide (n ≤ sizeLine)

def addT : T → T → Option Rt
  | .int i, .int j => some (.v (.int (i + j)))
  | .str x, .str y => if x.length + y.length ≤ sizeLine then some (.v (.str (x ++ y))) else none
  | .tup a, .tup b => if a.length + b.length ≤ sizeLine then some (.v (.tup (a ++ b))) else none
  | .lst a, .lst b => if a.length + b.length ≤ sizeLine then some (.l (a ++ b)) else none
  | _, _ => none
def subT : T → T → Option Rt
  | .int i, .int j => some (.v (.int (i - j)))
  | _, _ => none
def mulT : T → T → Option Rt
  | .int i, .int j => if i.natAbs.log2 + j.natAbs.log2 < 1000000 then some (.v (.int (i * j))) else none
  | .lst a, .int k => if -(2 ^ 63) ≤ k ∧ k < 2 ^ 63 ∧ a.length * k.toNat ≤ sizeLine then some (.l (List.replicate k.toNat a).flatten) else none
  | .tup a, .int k => if k = 1 then some (.v (.tup a)) else if 2 ≤ k ∧ k ≤ 1000 ∧ a ≠ [] ∧ a.length ≤ 1000 then some (.v (.tup (List.replicate k.toNat a).flatten)) else none
  | _, _ => none
def fdivT : T → T → Option Rt
  | .int i, .int j => if 0 < j ∧ j.natAbs.log2 < 9000 then some (.v (.int (i / j))) else none
  | _, _ => none
def modT : T → T → Option Rt
  | .int i, .int j => if 0 < j then some (.v (.int (i % j))) else none
  | _, _ => none
def powT : T → T → Option Rt
  | .int i, .int j => if 0 ≤ j ∧ (Builtin.Int.intBits i : Int) * j ≤ 2 ^ 27 then some (.v (.int (i ^ j.toNat))) else none
  | _, _ => none
def binT : Bop → T → T → Option Rt
  | .add => addT | .sub => subT | .mul => mulT | .fdiv => fdivT | .mod => modT | .pow => powT | .shl => fun _ _ => none

/-- data whose == may be asked -/
def eqD (a b : T) : Option Bool := match a.pd, b.pd with
  | some d, some e => if SeqAt.shaped d = true ∧ SeqAt.shaped e = true then some (PyData.eqv d e) else none
  | _, _ => none
def eqB (a b : T) : Option Bool := match a, b with
  | .str x, .str y => some (decide (x = y))
  | _, _ => eqD a b
/-- the place of the first that equals x -/
def firstEq (x : PyData) : List PyData → Option Nat
  | [] => none
  | d :: ds => if PyData.eqv d x then some 0 else (firstEq x ds).map (· + 1)
def remT (x : T) (l : List T) : Option (List T) := match x.pd, T.pds l with
  | some d, some ds => if SeqAt.shaped d = true ∧ SeqAt.shaped (.list ds) = true then (firstEq d ds).map fun j => l.eraseIdx j else none
  | _, _ => none
def listOf : T → Option (List T)
  | .lst l => some l
  | .tup l => some l
  | _ => none
def isTup : T → Bool
  | .tup _ => true | _ => false
def keyT : T → Option Key
  | .int i => some (.inl i)
  | .str x => some (.inr x)
  | _ => none
def keyL : List T → Option (List Key)
  | [] => some []
  | t :: ts => match keyT t, keyL ts with
    | some k, some ks => some (k :: ks)
    | _, _ => none
/-- a tuple that may be a key of a dict of tuples -/
def tkT : T → Option (List Key)
  | .tup l => if markT l then keyL l else none
  | _ => none
/-- x in xs -/
def inB (x : T) (c : T) : Option Bool := match c with
  | .lst l => match x.pd, T.pds l with
    | some d, some ds => if SeqAt.shaped d = true ∧ SeqAt.shaped (.list ds) = true then some (ds.any fun z => PyData.eqv z d) else none
    | _, _ => none
  | .tup l => match x.pd, T.pds l with
    | some d, some ds => if SeqAt.shaped d = true ∧ SeqAt.shaped (.list ds) = true then some (ds.any fun z => PyData.eqv z d) else none
    | _, _ => none
  | .dk l => match x with
    | .int i => some (l.any fun kv => decide (kv.1 = Sum.inl i))
    | .str z => some (l.any fun kv => decide (kv.1 = Sum.inr z))
    | _ => none
  | .dt l => (tkT x).map fun k => l.any fun kv => decide (kv.1 = k)
  | _ => none
def ltB : T → T → Option Bool
  | .int i, .int j => some (decide (i < j))
  | .str x, .str y => some (decide (x.cps.toList < y.cps.toList))
  | _, _ => none
def isB : T → T → Option Bool
  | .bl a, .bl b => some (decide (a = b))
  | .non, .non => some true
  | .bl _, .non => some false
  | .int _, .non => some false
  | .str _, .non => some false
  | .tup _, .non => some false
  | .lst _, .non => some false
  | .dk _, .non => some false
  | .ref _, .non => some false
  | _, _ => none
def cmpT : Cop → T → T → Option Bool
  | .eq, a, b => eqB a b
  | .ne, a, b => (eqB a b).map (!·)
  | .lt, a, b => ltB a b
  | .gt, a, b => match a, b with
    | .int i, .int j => some (decide (j < i))
    | _, _ => none
  | .le, a, b => match a, b with
    | .int i, .int j => some (decide (i ≤ j))
    | _, _ => none
  | .ge, a, b => match a, b with
    | .int i, .int j => some (decide (j ≤ i))
    | _, _ => none
  | .isin, a, b => inB a b
  | .notin, a, b => (inB a b).map (!·)
  | .is, a, b => isB a b
  | .isnot, a, b => (isB a b).map (!·)

def ixT (a : T) (b : T) : Option T := match a, b with
  | .tup l, .int i => atI l i
  | .lst l, .int i => atI l i
  | .scr l, .int i => (atI l i).map .int
  | .dk l, .int i => (l.find? fun kv => decide (kv.1 = Sum.inl i)).map (·.2)
  | .dk l, .str x => (l.find? fun kv => decide (kv.1 = Sum.inr x)).map (·.2)
  | .dt l, .tup t => (tkT (.tup t)).bind fun k => (l.find? fun kv => decide (kv.1 = k)).map (·.2)
  | _, _ => none
/-- a slice of a list -/
def cutL {α : Type} (xs : List α) (lo hi : Option Int) : List α := (xs.drop (HT.sIx xs.length 0 lo)).take (HT.sIx xs.length xs.length hi - HT.sIx xs.length 0 lo)
def slT (a : T) (lo hi : Option Int) : Option Rt := match a with
  | .tup l => some (.v (.tup (cutL l lo hi)))
  | .lst l => some (.l (cutL l lo hi))
  | .str z => if z.length ≤ sizeLine then some (.v (.str (cutS z lo hi))) else none
  | _ => none

def kdT : Kd → T → Option Bool
  | _, .scr _ => none
  | _, .ref _ => none
  | .tuple, .tup _ => some true
  | .list, .lst _ => some true
  | .dict, .dk _ => some true
  | .dict, .dt _ => some true
  | .str, .str _ => some true
  | .int, .int _ => some true
  | .int, .bl _ => some true
  | .bool, .bl _ => some true
  | _, _ => some false

/-! ### the frame -/
def setE (s : S) (i : Nat) (x : Slot) : S := { s with env := s.env.set i x }
/-- the content of an own slot, or of a value's list -/
def Rt.res (r : Rt) (s : S) : Option T := match r with
  | .v t => some t
  | .l ts => some (.lst ts)
  | .k ts => some (.dk ts)
  | .d ts => some (.dt ts)
  | .b i => match s.env[i]? with
    | some (.own xs) => some (.lst xs)
    | some (.ownK xs) => some (.dk xs)
    | some (.ownT xs) => some (.dt xs)
    | some (.val t) => some t
    | _ => none
/-- .. as a value that others may know -/
def Rt.t (r : Rt) : Option T := match r with
  | .v t => some t
  | .l ts => some (.lst ts)
  | .k ts => some (.dk ts)
  | .d ts => some (.dt ts)
  | .b _ => none
/-- a slot read as a value: from then on others may know it -/
def rdVar (i : Nat) (s : S) : R Rt := match s.env[i]? with
  | some (.val t) => .ok (.v t) s
  | some (.own l) => .ok (.v (.lst l)) (setE s i (.val (.lst l)))
  | some (.ownK l) => .ok (.v (.dk l)) (setE s i (.val (.dk l)))
  | some (.ownT l) => .ok (.v (.dt l)) (setE s i (.val (.dt l)))
  | _ => .bad

mutual
def bindTg : Tg → T → List Slot → Option (List Slot)
  | .name i, t, env => some (env.set i (.val t))
  | .tup l, t, env => match t with
    | .tup ts => bindTgs l ts env
    | _ => none
def bindTgs : List Tg → List T → List Slot → Option (List Slot)
  | [], [], env => some env
  | g :: gs, t :: ts, env => match bindTg g t env with
    | some env' => bindTgs gs ts env'
    | none => none
  | _, _, _ => none
end
def wipeE (env : List Slot) : List Nat → List Slot
  | [] => env
  | v :: vs => (wipeE env vs).set v .none
/-- the block's own names as they were ahead of it -/
def backE (env0 env : List Slot) : List Nat → List Slot
  | [] => env
  | v :: vs => (backE env0 env vs).set v (env0.getD v .none)

/-- a dict of the text's top, read alone -/
inductive Tab where
  | s (l : List (Str × T)) | b (l : List (Bool × T))
def Tab.get : Tab → T → Option T
  | .s l, .str x => l.lookup x
  | .b l, .bl x => l.lookup x
  | _, _ => none
def Tab.has : Tab → T → Option Bool
  | .s l, .str x => some (l.lookup x).isSome
  | .b l, .bl x => some (l.lookup x).isSome
  | _, _ => none
structure Cfg where
  cst : String → Option T
  tab : String → Option Tab
  call : String → List T → List Cell → RC
  params : String → Option (List Str)
  fuel : Nat

mutual
/-- nothing within that could be written -/
def T.flat : T → Bool
  | .tup l => T.flats l
  | .lst _ => false
  | .dk _ => false
  | .dt _ => false
  | _ => true
def T.flats : List T → Bool
  | [] => true
  | t :: ts => t.flat && T.flats ts
end
def Cell.flat : Cell → Bool
  | .lst l => T.flats l
  | .ins _ fs => T.flats (fs.map (·.2))
def Rt.lent : Rt → Bool
  | .b _ => true
  | _ => false
def resL (s : S) : List Rt → Option (List T)
  | [] => some []
  | x :: xs => match x.res s, resL s xs with
    | some t, some ts => some (t :: ts)
    | _, _ => none
def pick {α : Type} (is : List Nat) (xs : List α) : List α := is.filterMap fun i => xs[i]?
def pickO {α : Type} (is : Option (List Nat)) (xs : List α) : List α := match is with
  | none => xs
  | some is => pick is xs
/-- what comes back from a callee: where own lists were lent, nothing that could hold them -/
def backR (lent : Bool) (r : RC) (s : S) : R Rt := match r with
  | .ok t sto => if lent && !(t.flat && sto.all Cell.flat) then .bad else .ok (.v t) { s with sto := sto }
  | .err c fs sto => if lent && !(T.flats (fs.map (·.2)) && sto.all Cell.flat) then .bad else .err c fs { s with sto := sto }
  | .bad => .bad
def callR (G : Cfg) (f : String) (is : Option (List Nat)) (xs : List Rt) (s : S) : R Rt := match resL s xs, G.params f with
  | some ts, some ps => if (pickO is ts).length = ps.length then backR (xs.any Rt.lent) (G.call f (pickO is ts) s.sto) s else .bad
  | _, _ => .bad

/-- the turns of a comprehension -/
def lcTurns (own : List Nat) (tg : Tg) (cond : S → R Bool) (elt : S → R T) : List T → S → List T → R (List T)
  | [], s, acc => .ok acc s
  | t :: ts, s, acc => match bindTg tg t (wipeE s.env own) with
    | none => .bad
    | some env => (cond { s with env := env }).bind fun k s1 =>
      if k then (elt s1).bind fun y s2 => if acc.length < sizeLine then lcTurns own tg cond elt ts s2 (acc ++ [y]) else .bad
      else lcTurns own tg cond elt ts s1 acc

/-- .. of one with two clauses -/
def lc2Turns (own own1 : List Nat) (tg tg1 : Tg) (cond : S → R Bool) (src1 : S → R (List T)) (cond1 : S → R Bool) (elt : S → R T) : List T → S → List T → R (List T)
  | [], s, acc => .ok acc s
  | t :: ts, s, acc => match bindTg tg t (wipeE s.env own) with
    | none => .bad
    | some env => (cond { s with env := env }).bind fun k s1 =>
      if k then (src1 s1).bind fun us s2 => (lcTurns own1 tg1 cond1 elt us s2 acc).bind fun acc' s3 => lc2Turns own own1 tg tg1 cond src1 cond1 elt ts s3 acc'
      else lc2Turns own own1 tg tg1 cond src1 cond1 elt ts s1 acc

def putT {κ : Type} [DecidableEq κ] (kvs : List (κ × T)) (k : κ) (t : T) : List (κ × T) :=
  if (kvs.any fun kv => decide (kv.1 = k)) = true then kvs.map (fun kv => if kv.1 = k then (kv.1, t) else kv) else kvs ++ [(k, t)]
/-- the turns of a dict's comprehension -/
def dcTurns {κ : Type} [DecidableEq κ] (kof : T → Option κ) (own : List Nat) (tg : Tg) (cond : S → R Bool) (kx vx : S → R T) : List T → S → List (κ × T) → R (List (κ × T))
  | [], s, acc => .ok acc s
  | t :: ts, s, acc => match bindTg tg t (wipeE s.env own) with
    | none => .bad
    | some env => (cond { s with env := env }).bind fun k s1 =>
      if k then (kx s1).bind fun y s2 => (vx s2).bind fun z s3 => match kof y with
        | some key => if acc.length < sizeLine then dcTurns kof own tg cond kx vx ts s3 (putT acc key z) else .bad
        | none => .bad
      else dcTurns kof own tg cond kx vx ts s1 acc
def keyV : Key → T
  | .inl i => .int i
  | .inr x => .str x
/-- the values, or the pairs, of a dict -/
def itemsL (vals : Bool) (l : List (Key × T)) : List T := l.map fun kv => if vals then kv.2 else .tup [keyV kv.1, kv.2]
def rangeL (lo hi : Int) : List T := (List.range (hi - lo).toNat).map fun k : Nat => T.int (lo + (k : Int))
def enumL (l : List T) : List T := l.zipIdx.map fun p => T.tup [.int (p.2 : Int), p.1]
def zipL (a b : List T) : List T := (a.zip b).map fun p => T.tup [p.1, p.2]
def ok62 (i : Int) : Bool := decide (-(2 ^ 62) ≤ i ∧ i < 2 ^ 62)

def rngT (l : Bool) (i j : Int) : Option Rt := if -(2 ^ 62) ≤ i ∧ i < 2 ^ 62 ∧ -(2 ^ 62) ≤ j ∧ j < 2 ^ 62 ∧ (j - i).toNat ≤ 2 ^ 24 then some (if l then .l (rangeL i j) else .v (.tup (rangeL i j))) else none
def allB : List T → Option (List Bool)
  | [] => some []
  | .bl b :: r => (allB r).map (b :: ·)
  | _ => none
def allI : List T → Option (List Int)
  | [] => some []
  | .int b :: r => (allI r).map (b :: ·)
  | _ => none

def lenT : T → Option Rt
  | .str x => if x.length ≤ sizeLine then some (.v (.int x.length)) else none
  | .tup l => some (.v (.int l.length))
  | .lst l => some (.v (.int l.length))
  | .scr l => some (.v (.int l.length))
  | .dk l => some (.v (.int l.length))
  | _ => none
def tupT : T → Option Rt
  | .tup l => some (.v (.tup l))
  | .lst l => some (.v (.tup l))
  | _ => none
def lstT : T → Option Rt
  | .tup l => some (.l l)
  | .lst l => some (.l l)
  | _ => none
def allT : T → Option Rt
  | .lst l => (allB l).map fun bs => .v (.bl (bs.all id))
  | _ => none
def anyT : T → Option Rt
  | .lst l => (allB l).map fun bs => .v (.bl (bs.any id))
  | _ => none
def intT : T → Option Rt
  | .int i => some (.v (.int i))
  | .bl b => some (.v (.int (if b then 1 else 0)))
  | _ => none
def absT : T → Option Rt
  | .int i => some (.v (.int (if i < 0 then -i else i)))
  | _ => none
def min2T : T → T → Option Rt
  | .int i, .int j => some (.v (.int (if j < i then j else i)))
  | _, _ => none
def max2T : T → T → Option Rt
  | .int i, .int j => some (.v (.int (if j > i then j else i)))
  | _, _ => none
def reprT (t : T) : Option Rt := match t.pd with
  | some d => if d.showable = true ∧ d.shown.length ≤ sizeLine ∧ d.depth ≤ 60 then some (.v (.str d.shown)) else none
  | none => none
def ins {α : Type} (le : α → α → Bool) (x : α) : List α → List α
  | [] => [x]
  | y :: l => if le x y then x :: y :: l else y :: ins le x l
def isort {α : Type} (le : α → α → Bool) : List α → List α
  | [] => []
  | x :: l => ins le x (isort le l)
def sortL (l : List Int) : List Int := isort (fun a b => decide (a ≤ b)) l
def keysI : List (Key × T) → Option (List Int)
  | [] => some []
  | (.inl i, _) :: r => (keysI r).map (i :: ·)
  | _ => none
def keysS : List (Key × T) → Option (List Str)
  | [] => some []
  | (.inr i, _) :: r => (keysS r).map (i :: ·)
  | _ => none
def ltS (x y : Str) : Bool := decide (x.cps.toList < y.cps.toList)
def lexS : List Str → List Str → Bool
  | [], [] => false
  | [], _ :: _ => true
  | _ :: _, [] => false
  | x :: xs, y :: ys => if x = y then lexS xs ys else ltS x y
/-- each once -/
def dd {α : Type} [DecidableEq α] : List α → List α
  | [] => []
  | x :: l => if x ∈ l then dd l else x :: dd l
def sortK (ks : List (List Str)) : List (List Str) := isort (fun a b => !lexS b a) ks
def tupS (k : List Str) : T := .tup (k.map .str)
def strsT : List T → Option (List Str)
  | [] => some []
  | .str x :: r => (strsT r).map (x :: ·)
  | _ => none
def allS : List T → Option (List (List Str))
  | [] => some []
  | .tup t :: r => match strsT t, allS r with
    | some k, some ks => some (k :: ks)
    | _, _ => none
  | _ => none
def sortSetT : T → Option Rt
  | .lst l => match allI l with
    | some ns => if (dd ns).length < 64 ∧ ns.length < 4000 then some (.l ((sortL (dd ns)).map .int)) else none
    | none => match allS l with
      | some ks => if (dd ks).length ≤ 76 ∧ ks.all (fun k => !k.isEmpty) = true then some (.l ((sortK (dd ks)).map tupS)) else none
      | none => none
  | _ => none
/-- sorted, of tuples of strings -/
def sortTupT (l : List T) : Option Rt := match allS l with
    | some ks => if ks.length ≤ sizeLine ∧ ks.all (fun k => !k.isEmpty) = true then some (.l ((sortK ks).map tupS)) else none
    | none => none
/-- strings -/
def sortStr (l : List Str) : List Str := isort (fun a b => !ltS b a) l
def sortT : T → Option Rt
  | .lst l => match allI l with
    | some ns => some (.l ((sortL ns).map .int))
    | none => match strsT l with
      | some xs => if xs.length < 64 then some (.l ((sortStr xs).map .str)) else none
      | none => sortTupT l
  | .dk l => match keysI l with
    | some ns => if ns.length < 64 then some (.l ((sortL ns).map .int)) else none
    | none => match keysS l with
      | some xs => if xs.length < 64 then some (.l ((sortStr xs).map .str)) else none
      | none => none
  | _ => none
/-- pairs with keys of a dict -/
def pairsK : List T → Option (List (Key × T))
  | [] => some []
  | .tup [k, v] :: r => match k, pairsK r with
    | .int i, some q => some ((.inl i, v) :: q)
    | .str x, some q => some ((.inr x, v) :: q)
    | _, _ => none
  | _ => none
def mergeT (kvs more : List (Key × T)) : List (Key × T) := more.foldl (fun acc kv => putT acc kv.1 kv.2) kvs
def dictT : T → Option Rt
  | .lst l => (pairsK l).map fun kvs => .k (mergeT [] kvs)
  | _ => none
def fnT : Fn → List T → Option Rt
  | .len, [t] => lenT t
  | .tuple, [t] => tupT t
  | .list, [t] => lstT t
  | .all, [t] => allT t
  | .any, [t] => anyT t
  | .int, [t] => intT t
  | .abs, [t] => absT t
  | .min2, [t, u] => min2T t u
  | .max2, [t, u] => max2T t u
  | .repr, [t] => reprT t
  | .sorted, [t] => sortT t
  | .sortset, [t] => sortSetT t
  | .dictK, [t] => dictT t
  | _, _ => none

def keyE (G : Cfg) : KE → Option Key
  | .s x => some (.inr (Str.ofString x))
  | .i i => some (.inl i)
  | .c x => (G.cst x).bind keyT
def boundS (s : S) (i : Nat) : Bool := match s.env[i]? with
  | some .none => false
  | none => false
  | _ => true
def ownL (s : S) (i : Nat) : Bool := match s.env[i]? with
  | some (.own _) => true
  | _ => false
mutual
def ev (G : Cfg) : IE → S → R Rt
  | .var i, s => rdVar i s
  | .peek i, s => if boundS s i then .ok (.b i) s else .bad
  | .int i, s => .ok (.v (.int i)) s
  | .str x, s => .ok (.v (.str (Str.ofString x))) s
  | .bl b, s => .ok (.v (.bl b)) s
  | .non, s => .ok (.v .non) s
  | .cst x, s => match G.cst x with
    | some t => .ok (.v t) s
    | none => .bad
  | .bin o a b, s => (ev G a s).bind fun x s1 => (ev G b s1).bind fun y s2 => match x.res s2, y.res s2 with
    | some t, some u => R.opt (binT o t u) s2
    | _, _ => .bad
  | .cmp o a b, s => (ev G a s).bind fun x s1 => (ev G b s1).bind fun y s2 => match x.res s2, y.res s2 with
    | some t, some u => R.opt ((cmpT o t u).map fun k => .v (.bl k)) s2
    | _, _ => .bad
  | .chn o p a b c, s => (ev G a s).bind fun x s1 => (ev G b s1).bind fun y s2 => match x.res s2, y.t with
    | some t, some u => (R.opt (cmpT o t u) s2).bind fun k s3 =>
      if k then (ev G c s3).bind fun z s4 => match z.res s4 with
        | some w => R.opt ((cmpT p u w).map fun k => .v (.bl k)) s4
        | _ => .bad
      else .ok (.v (.bl false)) s3
    | _, _ => .bad
  | .and a b, s => (ev G a s).bind fun x s1 => match x.t with
    | some t => (R.opt (truth t) s1).bind fun k s2 => if k then ev G b s2 else .ok (.v t) s2
    | none => .bad
  | .or a b, s => (ev G a s).bind fun x s1 => match x.t with
    | some t => (R.opt (truth t) s1).bind fun k s2 => if k then .ok (.v t) s2 else ev G b s2
    | none => .bad
  | .not a, s => (ev G a s).bind fun x s1 => match x.res s1 with
    | some t => (R.opt (truth t) s1).bind fun k s2 => .ok (.v (.bl (!k))) s2
    | none => .bad
  | .neg a, s => (ev G a s).bind fun x s1 => match x.t with
    | some (.int i) => .ok (.v (.int (-i))) s1
    | _ => .bad
  | .ife c a b, s => (evB G c s).bind fun k s1 => if k then ev G a s1 else ev G b s1
  | .tup es, s => (evs G es s).bind fun ts s1 => if ts.length ≤ sizeLine then .ok (.v (.tup ts)) s1 else .bad
  | .lst es, s => (evs G es s).bind fun ts s1 => if ts.length ≤ sizeLine then .ok (.l ts) s1 else .bad
  | .cel es, s => (evs G es s).bind fun ts s1 => if ts.length ≤ sizeLine then .ok (.v (.ref s1.sto.length)) { s1 with sto := s1.sto ++ [.lst ts] } else .bad
  | .newK, s => .ok (.k []) s
  | .newT, s => .ok (.d []) s
  | .dispK vs ks, s => (evKV G vs ks s).bind fun kvs s1 => if kvs.length ≤ 15 then .ok (.k (mergeT [] kvs)) s1 else .bad
  | .ix a b, s => (ev G a s).bind fun x s1 => (ev G b s1).bind fun y s2 => match x.res s2, y.t with
    | some (.ref n), some (.int i) => match s2.sto[n]? with
      | some (.lst l) => R.opt ((atI l i).map .v) s2
      | _ => .bad
    | some t, some u => R.opt ((ixT t u).map .v) s2
    | _, _ => .bad
  | .sl a lo hi, s => (ev G a s).bind fun x s1 => (evO G lo s1).bind fun l s2 => (evO G hi s2).bind fun h s3 => match x.res s3 with
    | some t => R.opt (slT t l h) s3
    | none => .bad
  | .rev a, s => (ev G a s).bind fun x s1 => match x.res s1 with
    | some (.tup l) => .ok (.v (.tup l.reverse)) s1
    | some (.lst l) => .ok (.l l.reverse) s1
    | _ => .bad
  | .lc elt tg src cond own, s => (evSrc G src s).bind fun ts s1 => if (own.any fun i => (s1.env.getD i .none).isOwn) then .bad else
      (lcTurns own tg (fun s => evC G cond s) (fun s => (ev G elt s).bind fun y s' => R.opt y.t s') ts s1 []).quiet.bind fun ys s2 => .ok (.l ys) { s2 with env := backE s1.env s2.env own }
  | .lc2 elt tg src cond tg1 src1 cond1 own own1, s => (evSrc G src s).bind fun ts s1 => if (own.any fun i => (s1.env.getD i .none).isOwn) then .bad else
      (lc2Turns own own1 tg tg1 (fun s => evC G cond s) (fun s => evSrc G src1 s) (fun s => evC G cond1 s) (fun s => (ev G elt s).bind fun y s' => R.opt y.t s') ts s1 []).quiet.bind fun ys s2 => .ok (.l ys) { s2 with env := backE s1.env s2.env own }
  | .fn f es, s => match es with
    | [a] => (ev G a s).bind fun x s1 => match x.res s1 with
      | some t => R.opt (fnT f [t]) s1
      | none => .bad
    | [a, b] => (ev G a s).bind fun x s1 => (ev G b s1).bind fun y s2 => match x.res s2, y.res s2 with
      | some t, some u => R.opt (fnT f [t, u]) s2
      | _, _ => .bad
    | _ => .bad
  | .isi a ks, s => (ev G a s).bind fun x s1 => match x.t with
    | some t => match ks with
      | [k] => R.opt ((kdT k t).map fun b => .v (.bl b)) s1
      | _ => .bad
    | none => .bad
  | .pop i arg, s => if !(ownL s i) then .bad else match arg with
    | none => match s.env[i]? with
      | some (.own l) => match l.getLast? with
        | some t => .ok (.v t) (setE s i (.own l.dropLast))
        | none => .bad
      | _ => .bad
    | some a => (ev G a s).bind fun x s1 => match x.t, s1.env[i]? with
      | some (.int k), some (.own l) => if 0 ≤ k ∧ k < 2 ^ 63 then (match l[k.toNat]? with
        | some t => .ok (.v t) (setE s1 i (.own (l.eraseIdx k.toNat)))
        | none => .bad) else .bad
      | _, _ => .bad
  | .call f es, s => (evL G es s).bind fun xs s1 => callR G f none xs s1
  | .rng l a b, s => match b with
    | none => (ev G a s).bind fun x s1 => match x.t with
      | some (.int n) => R.opt (rngT l 0 n) s1
      | _ => .bad
    | some b => (ev G a s).bind fun x s1 => (ev G b s1).bind fun y s2 => match x.t, y.t with
      | some (.int i), some (.int j) => R.opt (rngT l i j) s2
      | _, _ => .bad
  | .callK f es is, s => (evL G es s).bind fun xs s1 => callR G f (some is) xs s1
  | .dcK kx vx tg src cond own, s => (evSrc G src s).bind fun ts s1 => if (own.any fun i => (s1.env.getD i .none).isOwn) then .bad else
      (dcTurns keyT own tg (fun s => evC G cond s) (fun s => (ev G kx s).bind fun y s' => R.opt y.t s') (fun s => (ev G vx s).bind fun y s' => R.opt y.t s') ts s1 []).quiet.bind fun ys s2 => .ok (.k ys) { s2 with env := backE s1.env s2.env own }
  | .dcT kx vx tg src cond own, s => (evSrc G src s).bind fun ts s1 => if (own.any fun i => (s1.env.getD i .none).isOwn) then .bad else
      (dcTurns tkT own tg (fun s => evC G cond s) (fun s => (ev G kx s).bind fun y s' => R.opt y.t s') (fun s => (ev G vx s).bind fun y s' => R.opt y.t s') ts s1 []).quiet.bind fun ys s2 => .ok (.d ys) { s2 with env := backE s1.env s2.env own }
  | .tix x a, s => match G.tab x with
    | none => .bad
    | some tb => (ev G a s).bind fun y s1 => match y.t with
      | some t => R.opt ((tb.get t).map .v) s1
      | none => .bad
  | .tin no x a, s => match G.tab x with
    | none => .bad
    | some tb => (ev G a s).bind fun y s1 => match y.t with
      | some t => R.opt ((tb.has t).map fun b => .v (.bl (b != no))) s1
      | none => .bad
  | .lcI elt tg vals a cond own, s => (ev G a s).bind fun x s1 => match x.t with
    | some (.dk l) => if (own.any fun i => (s1.env.getD i .none).isOwn) then .bad else
      (lcTurns own tg (fun s => evC G cond s) (fun s => (ev G elt s).bind fun y s' => R.opt y.t s') (itemsL vals l) s1 []).quiet.bind fun ys s2 => .ok (.l ys) { s2 with env := backE s1.env s2.env own }
    | _ => .bad
def evL (G : Cfg) : List IE → S → R (List Rt)
  | [], s => .ok [] s
  | e :: es, s => (ev G e s).bind fun x s1 => (evL G es s1).bind fun xs s2 => .ok (x :: xs) s2
def evs (G : Cfg) : List IE → S → R (List T)
  | [], s => .ok [] s
  | e :: es, s => (ev G e s).bind fun x s1 => match x.t with
    | some t => (evs G es s1).bind fun ts s2 => .ok (t :: ts) s2
    | none => .bad
def evKV (G : Cfg) : List IE → List KE → S → R (List (Key × T))
  | [], [], s => .ok [] s
  | v :: vs, k :: ks, s => match keyE G k with
    | none => .bad
    | some kk => (ev G v s).bind fun y s2 => match y.t with
      | none => .bad
      | some u => (evKV G vs ks s2).bind fun r s3 => .ok ((kk, u) :: r) s3
  | _, _, _ => .bad
def evO (G : Cfg) : Option IE → S → R (Option Int)
  | none, s => .ok none s
  | some e, s => (ev G e s).bind fun x s1 => match x.t with
    | some (.int i) => .ok (some i) s1
    | _ => .bad
def evB (G : Cfg) : IE → S → R Bool
  | .and a b, s => (evB G a s).bind fun k s1 => if k then evB G b s1 else .ok false s1
  | .or a b, s => (evB G a s).bind fun k s1 => if k then .ok true s1 else evB G b s1
  | .not a, s => (evB G a s).bind fun k s1 => .ok (!k) s1
  | e, s => (ev G e s).bind fun x s1 => match x.res s1 with
    | some t => R.opt (truth t) s1
    | none => .bad
def evC (G : Cfg) : Option IE → S → R Bool
  | none, s => .ok true s
  | some e, s => evB G e s
def evSrc (G : Cfg) : Src → S → R (List T)
  | .e a, s => (ev G a s).bind fun x s1 => match x.t with
    | some t => R.opt (listOf t) s1
    | none => .bad
  | .range1 a, s => (ev G a s).bind fun x s1 => match x.t with
    | some (.int i) => if ok62 i then .ok (rangeL 0 i) s1 else .bad
    | _ => .bad
  | .range2 a b, s => (ev G a s).bind fun x s1 => (ev G b s1).bind fun y s2 => match x.t, y.t with
    | some (.int i), some (.int j) => if ok62 i && ok62 j then .ok (rangeL i j) s2 else .bad
    | _, _ => .bad
  | .enum a, s => (ev G a s).bind fun x s1 => match x.t with
    | some t => R.opt ((listOf t).map enumL) s1
    | none => .bad
  | .zip a b, s => (ev G a s).bind fun x s1 => (ev G b s1).bind fun y s2 => match x.t, y.t with
    | some t, some u => match listOf t, listOf u with
      | some l, some m => .ok (zipL l m) s2
      | _, _ => .bad
    | _, _ => .bad
end

/-! ### statements -/
inductive Fl where
  | nx | ret (t : T) | bk | ct
inductive IS where
  | set (i : Nat) (e : IE)
  | setv (i : Nat) (e : IE)
  | tg (g : Tg) (e : IE)
  | par (is : List Nat) (es : List IE)
  | six (o k e : IE)
  | mapp (i : Nat) (e : IE)
  | mext (i : Nat) (e : IE)
  | mrem (i : Nat) (e : IE)
  | dead
  | expr (e : IE)
  | ret (e : IE)
  | ite (c : IE) (a b : List IS)
  | for_ (g : Tg) (src : Src) (body : List IS)
  | whl (c : IE) (body : List IS)
  | brk | cont | pass
  | forI (g : Tg) (vals : Bool) (a : IE) (body : List IS)
def Rt.slot : Rt → Option Slot
  | .v t => some (.val t)
  | .l ts => some (.own ts)
  | .k ts => some (.ownK ts)
  | .d ts => some (.ownT ts)
  | .b _ => none
def setR (i : Nat) (x : Rt) (s : S) : R Fl := match x.slot with
  | some y => .ok .nx (setE s i y)
  | none => .bad
def setRs : List Nat → List Rt → S → R Fl
  | [], [], s => .ok .nx s
  | i :: is, x :: xs, s => (setR i x s).bind fun _ s1 => setRs is xs s1
  | _, _, _ => .bad
/-- the place in a list that an index means -/
def placeT (n : Nat) (i : Int) : Option Nat := ixN n i
def forT (own : S → R Fl) (g : Tg) : List T → S → R Fl
  | [], s => .ok .nx s
  | t :: ts, s => match bindTg g t s.env with
    | none => .bad
    | some env => (own { s with env := env }).bind fun fl s1 => match fl with
      | .nx => forT own g ts s1
      | .ct => forT own g ts s1
      | .bk => .ok .nx s1
      | .ret t => .ok (.ret t) s1
def whlT (c : S → R Bool) (body : S → R Fl) : Nat → S → R Fl
  | 0, _ => .bad
  | n + 1, s => (c s).bind fun k s1 => if k then (body s1).bind fun fl s2 => match fl with
      | .nx => whlT c body n s2
      | .ct => whlT c body n s2
      | .bk => .ok .nx s2
      | .ret t => .ok (.ret t) s2
    else .ok .nx s1
mutual
def ex (G : Cfg) : IS → S → R Fl
  | .set i e, s => (ev G e s).bind fun x s1 => setR i x s1
  | .setv i e, s => (ev G e s).bind fun x s1 => match x.t with
    | some t => .ok .nx (setE s1 i (.val t))
    | none => .bad
  | .tg g e, s => (ev G e s).bind fun x s1 => match x.t with
    | some t => match bindTg g t s1.env with
      | some env => .ok .nx { s1 with env := env }
      | none => .bad
    | none => .bad
  | .par is es, s => (evL G es s).bind fun xs s1 => setRs is xs s1
  | .six o k e, s => (ev G e s).bind fun y s1 => match y.t with
    | none => .bad
    | some t => (ev G o s1).bind fun x s2 => (ev G k s2).bind fun z s3 => match z.t with
      | none => .bad
      | some u => match x with
        | .b i => match s3.env[i]? with
          | some (.own l) => match u with
            | .int j => match ixN l.length j with
              | some n => .ok .nx (setE s3 i (.own (l.set n t)))
              | none => .bad
            | _ => .bad
          | some (.ownK l) => match keyT u with
            | some kk => if l.length < sizeLine then .ok .nx (setE s3 i (.ownK (putT l kk t))) else .bad
            | none => .bad
          | _ => .bad
        | .v (.ref n) => match s3.sto[n]? with
          | some (.lst l) => match u with
            | .int j => match ixN l.length j with
              | some m => .ok .nx { s3 with sto := s3.sto.set n (.lst (l.set m t)) }
              | none => .bad
            | _ => .bad
          | _ => .bad
        | _ => .bad
  | .mapp i e, s => if ownL s i then (ev G e s).bind fun x s1 => match x.t, s1.env[i]? with
      | some t, some (.own l) => if l.length < sizeLine then .ok .nx (setE s1 i (.own (l ++ [t]))) else .bad
      | _, _ => .bad
    else .bad
  | .mext i e, s => if ownL s i then (ev G e s).bind fun x s1 => match x.t, s1.env[i]? with
      | some (.lst m), some (.own l) => if l.length + m.length ≤ sizeLine then .ok .nx (setE s1 i (.own (l ++ m))) else .bad
      | _, _ => .bad
    else .bad
  | .mrem i e, s => if ownL s i then (ev G e s).bind fun x s1 => match x.t, s1.env[i]? with
      | some t, some (.own l) => match remT t l with
        | some m => .ok .nx (setE s1 i (.own m))
        | none => .bad
      | _, _ => .bad
    else .bad
  | .dead, s => .bad
  | .expr e, s => (ev G e s).bind fun _ s1 => .ok .nx s1
  | .ret e, s => (ev G e s).bind fun x s1 => match x.t with
    | some t => .ok (.ret t) s1
    | none => .bad
  | .ite c a b, s => (evB G c s).bind fun k s1 => if k then exs G a s1 else exs G b s1
  | .for_ g src body, s => (evSrc G src s).bind fun ts s1 => forT (fun s => exs G body s) g ts s1
  | .whl c body, s => whlT (fun s => evB G c s) (fun s => exs G body s) G.fuel s
  | .brk, s => .ok .bk s
  | .cont, s => .ok .ct s
  | .pass, s => .ok .nx s
  | .forI g vals a body, s => (ev G a s).bind fun x s1 => match x.t with
    | some (.dk l) => (forT (fun s => exs G body s) g (itemsL vals l) s1).quiet
    | _ => .bad
def exs (G : Cfg) : List IS → S → R Fl
  | [], s => .ok .nx s
  | a :: b, s => (ex G a s).bind fun fl s1 => match fl with
    | .nx => exs G b s1
    | _ => .ok fl s1
end

/-! ### programs -/
structure FD where
  params : List Str
  slots : Nat
  body : List IS
def runF (G : Cfg) (d : FD) (ts : List T) (sto : List Cell) : RC :=
  if ts.length = d.params.length ∧ d.params.length ≤ d.slots then
    match exs G d.body ⟨ts.map .val ++ List.replicate (d.slots - ts.length) .none, sto⟩ with
    | .ok .nx s => .ok .non s.sto
    | .ok (.ret t) s => .ok t s.sto
    | .ok _ _ => .bad
    | .err c fs s => .err c fs s.sto
    | .bad => .bad
  else .bad
abbrev Prog := List (String × FD)
/-- k: how deep calls may go -/
def callN (P : Prog) (cst : String → Option T) (tab : String → Option Tab) (fuel : Nat) : Nat → String → List T → List Cell → RC
  | 0, _, _, _ => .bad
  | k + 1, f, ts, sto => match P.lookup f with
    | none => .bad
    | some d => runF ⟨cst, tab, callN P cst tab fuel k, fun g => (P.lookup g).map (·.params), fuel⟩ d ts sto
end L2.TV

/-! Readings of the IR over HandS' judgements. -/
namespace L2.TV
open PySem PySem.Spec PyProof.Rows

/-- the world of a program: what stands at its top -/
structure Wd where
  K : PySem.W.Frag
  cls : Str → Option Addr
abbrev OX := Addr → Prop
def OX.add (O : OX) (p : Addr) : OX := fun a => O a ∨ a = p
/-- a wish for exceptions, with the frame's slots -/
abbrev WX' := Value → Option Addr → St → Hp → Prop

section
variable {D : Wd} {O O' O1 : OX} {ρ ρ' : List Addr} {env env' : List Slot} {σ : St} {H H' : Hp} {s s' : S} {L L' : Addr → Prop}

mutual
theorem Rp.sub {K : PySem.W.Frag} (h : ∀ a, L' a → L a) : ∀ {v : V} {t : T}, Rp K ρ L H v t → Rp K ρ L' H v t
  | _, _, .non => .non
  | _, _, .bl b => .bl b
  | _, _, .int i => .int i
  | _, _, .str x => .str x
  | _, _, .tup q r => .tup q (RpL.sub h r)
  | _, _, .lst q n r => .lst q (fun l => n (h _ l)) (RpL.sub h r)
  | _, _, .dk q n e r => .dk q (fun l => n (h _ l)) e (RpL.sub h r)
  | _, _, .dt q n e r => .dt q (fun l => n (h _ l)) e (RpL.sub h r)
  | _, _, .scr q => .scr q
  | _, _, .ref q => .ref q
theorem RpL.sub {K : PySem.W.Frag} (h : ∀ a, L' a → L a) : ∀ {vs : List V} {ts : List T}, RpL K ρ L H vs ts → RpL K ρ L' H vs ts
  | _, _, .nil => .nil
  | _, _, .cons r q => .cons (Rp.sub h r) (RpL.sub h q)
end
theorem Lv.sub (h : ∀ a, O a → O' a) : ∀ a, Lv O ρ env σ a → Lv O' ρ env σ a := fun a l => l.imp id (Or.imp (h a) id)
theorem OwnOk.sub {K : PySem.W.Frag} {a : Addr} {x : Slot} (h : ∀ a, L' a → L a) (q : OwnOk K ρ L H a x) : OwnOk K ρ L' H a x := by
  cases x with
  | own l => obtain ⟨xs, q, r⟩ := q; exact ⟨xs, q, r.sub h⟩
  | ownK l => obtain ⟨xs, q, i, r⟩ := q; exact ⟨xs, q, i, r.sub h⟩
  | ownT l => obtain ⟨xs, q, i, r⟩ := q; exact ⟨xs, q, i, r.sub h⟩
  | none => trivial
  | val t => trivial
theorem CellOk.sub {K : PySem.W.Frag} {cls : Str → Option Addr} {a : Addr} {c : Cell} (h : ∀ a, L' a → L a) (q : CellOk K cls ρ L H a c) : CellOk K cls ρ L' H a c := by
  cases c with
  | lst l => obtain ⟨xs, q, r⟩ := q; exact ⟨xs, q, r.sub h⟩
  | ins c fs => obtain ⟨C, dx, gs, q0, q, q1, i, r⟩ := q; exact ⟨C, dx, gs, q0, q, q1, i, r.sub h⟩
/-- fewer others -/
theorem RS.sub (r : RS D.K D.cls O' ρ s σ H) (h : ∀ a, O a → O' a) : RS D.K D.cls O ρ s σ H where
  nd := r.nd
  len := r.len
  slot := fun i t e => let ⟨v, q1, q2⟩ := r.slot i t e; ⟨v, q1, q2.sub (Lv.sub h)⟩
  own := fun i x e1 e2 => let ⟨a, q1, q2, q3, q4⟩ := r.own i x e1 e2; ⟨a, q1, fun z => q2 (h a z), q3, q4.sub (Lv.sub h)⟩
  inj := r.inj
  cell := fun n c a e1 e2 => (r.cell n c a e1 e2).sub (Lv.sub h)
  out := fun a z => r.out a (h a z)
  elen := r.elen
theorem RS.notin (r : RS D.K D.cls O ρ s σ H) {p : Addr} (hp : H p = none) : p ∉ ρ := fun m => by
  obtain ⟨o, e, _⟩ := r.mut p (.inl m)
  rw [hp] at e; cases e
theorem RS.notown (r : RS D.K D.cls O ρ s σ H) {p : Addr} (hp : H p = none) : ¬ OwnA s.env σ p := fun m => by
  obtain ⟨o, e, _⟩ := r.mut p (.inr (.inr m))
  rw [hp] at e; cases e
theorem Same.upd_new {H : Hp} {p : Addr} {o : HO} (hp : H p = none) : Same H (upd H p o) := fun b u e => by
  rw [upd_ne (ne_of_none e hp)]; exact e
/-- a new object that may be written, held by nobody else -/
theorem RS.fresh (r : RS D.K D.cls O ρ s σ H) {p : Addr} {o : HO} (hp : H p = none) (hm : Mut (some o)) : RS D.K D.cls (OX.add O p) ρ s σ (upd H p o) := by
  have sm : Same H (upd H p o) := Same.upd_new hp
  have m := r.mut
  have k : Kp ρ (Lv O ρ s.env σ) H ρ (Lv (OX.add O p) ρ s.env σ) (upd H p o) := ⟨fun _ _ h => h, fun a u e _ => sm a u e, fun a h => by
    rcases h with h | (h | h) | h
    · exact .inl (.inl h)
    · exact .inl (.inr (.inl h))
    · subst h; exact .inr hp
    · exact .inl (.inr (.inr h))⟩
  refine ⟨r.nd, r.len, fun i t e => ?_, fun i x e1 e2 => ?_, r.inj, fun n c a e1 e2 => ?_, fun a h => ?_, r.elen⟩
  · obtain ⟨v, q1, q2⟩ := r.slot i t e
    exact ⟨v, q1, q2.kp k m⟩
  · obtain ⟨a, q1, q2, q3, q4⟩ := r.own i x e1 e2
    refine ⟨a, q1, fun z => z.elim q2 fun z => ?_, q3, q4.kp k m fun o e => sm _ _ e⟩
    subst z
    exact r.notown hp ⟨i, x, e1, e2, q1⟩
  · exact (r.cell n c a e1 e2).kp k m (fun o e => sm _ _ e) fun b e => sm _ _ e
  · rcases h with h | h
    · obtain ⟨q1, o', q2, q3⟩ := r.out a h
      exact ⟨q1, o', sm _ _ q2, q3⟩
    · subst h
      exact ⟨r.notin hp, o, upd_same, hm⟩
end

/-- a tree that may be read at v: a value, or a list or dict that stands at an own place -/
inductive Rq (K : PySem.W.Frag) (ρ : List Addr) (L : Addr → Prop) (H : Hp) : V → T → Prop
  | v {v : V} {t : T} : Rp K ρ L H v t → Rq K ρ L H v t
  | l {a : Addr} {xs : List V} {ts : List T} : H a = some (.lst xs) → RpL K ρ L H xs ts → Rq K ρ L H (.ref a) (.lst ts)
  | k {a : Addr} {kvs : List (Key × V)} {ts : List (Key × T)} : H a = some (.dK kvs) → kvs.map (·.1) = ts.map (·.1) → RpL K ρ L H (kvs.map (·.2)) (ts.map (·.2)) → Rq K ρ L H (.ref a) (.dk ts)
  | d {a : Addr} {kvs : List (List Key × V)} {ts : List (List Key × T)} : H a = some (.dT kvs) → kvs.map (·.1) = ts.map (·.1) → RpL K ρ L H (kvs.map (·.2)) (ts.map (·.2)) → Rq K ρ L H (.ref a) (.dt ts)

/-- what an expression's outcome means; H0: the heap ahead of it -/
def RtOk (D : Wd) (O : OX) (ρ : List Addr) (s : S) (σ : St) (H0 H : Hp) (v : V) : Rt → Prop
  | .v t => RS D.K D.cls O ρ s σ H ∧ Rp D.K ρ (Lv O ρ s.env σ) H v t
  | .l ts => ∃ p xs, v = .ref p ∧ H0 p = none ∧ ¬ O p ∧ RS D.K D.cls (OX.add O p) ρ s σ H ∧ H p = some (.lst xs) ∧ RpL D.K ρ (Lv (OX.add O p) ρ s.env σ) H xs ts
  | .k ts => ∃ p kvs, v = .ref p ∧ H0 p = none ∧ ¬ O p ∧ RS D.K D.cls (OX.add O p) ρ s σ H ∧ H p = some (.dK kvs) ∧ kvs.map (·.1) = ts.map (·.1) ∧ RpL D.K ρ (Lv (OX.add O p) ρ s.env σ) H (kvs.map (·.2)) (ts.map (·.2))
  | .d ts => ∃ p kvs, v = .ref p ∧ H0 p = none ∧ ¬ O p ∧ RS D.K D.cls (OX.add O p) ρ s σ H ∧ H p = some (.dT kvs) ∧ kvs.map (·.1) = ts.map (·.1) ∧ RpL D.K ρ (Lv (OX.add O p) ρ s.env σ) H (kvs.map (·.2)) (ts.map (·.2))
  | .b i => RS D.K D.cls O ρ s σ H ∧ σ[i]? = some (some v)

section
variable {D : Wd} {O O' O1 : OX} {ρ ρ' ρ1 : List Addr} {env env' : List Slot} {σ : St} {H H0 H' H1 : Hp} {s s' s1 : S} {v : V} {r : Rt} {u : T} {p : Addr}
theorem RtOk.rs (h : RtOk D O ρ s σ H0 H v r) : RS D.K D.cls O ρ s σ H := by
  cases r with
  | v t => exact h.1
  | l ts => obtain ⟨p, xs, _, _, _, q, _⟩ := h; exact q.sub fun a z => .inl z
  | k ts => obtain ⟨p, xs, _, _, _, q, _⟩ := h; exact q.sub fun a z => .inl z
  | d ts => obtain ⟨p, xs, _, _, _, q, _⟩ := h; exact q.sub fun a z => .inl z
  | b i => exact h.1
theorem RS.fresh_not (q : RS D.K D.cls (OX.add O p) ρ s σ H) (no : ¬ O p) : ¬ Lv O ρ s.env σ p := fun l => by
  rcases l with l | l | ⟨i, x, e1, e2, e3⟩
  · exact (q.out p (.inr rfl)).1 l
  · exact no l
  · obtain ⟨a, f1, f2, _⟩ := q.own i x e1 e2
    rw [e3] at f1; cases f1
    exact f2 (.inr rfl)
/-- as a value that others may know -/
theorem RtOk.val (h : RtOk D O ρ s σ H0 H v r) (e : r.t = some u) : RS D.K D.cls O ρ s σ H ∧ Rp D.K ρ (Lv O ρ s.env σ) H v u := by
  have sub : ∀ p a, Lv O ρ s.env σ a → Lv (OX.add O p) ρ s.env σ a := fun p => Lv.sub fun a z => .inl z
  refine ⟨h.rs, ?_⟩
  cases r with
  | v t => cases e; exact h.2
  | l ts => cases e; obtain ⟨p, xs, rfl, _, no, q, e, r⟩ := h; exact .lst e (q.fresh_not no) (r.sub (sub p))
  | k ts => cases e; obtain ⟨p, xs, rfl, _, no, q, e, i, r⟩ := h; exact .dk (.inl e) (q.fresh_not no) i (r.sub (sub p))
  | d ts => cases e; obtain ⟨p, xs, rfl, _, no, q, e, i, r⟩ := h; exact .dt e (q.fresh_not no) i (r.sub (sub p))
  | b i => cases e
/-- the operand stays readable while the others are reckoned -/
theorem RtOk.hold (h : RtOk D O ρ s σ H0 H v r) : ∃ O1 : OX, (∀ a, O a → O1 a) ∧ RS D.K D.cls O1 ρ s σ H ∧ ∀ {ρ' : List Addr} {s' : S} {H' : Hp} {u : T}, Le ρ s.env σ H ρ' s'.env σ H' → RS D.K D.cls O1 ρ' s' σ H' → r.res s' = some u →
    Rq D.K ρ' (Lv O1 ρ' s'.env σ) H' v u := by
  have keep : ∀ {p : Addr} {o : HO} {ρ' : List Addr} {s' : S} {H' : Hp}, ¬ O p → RS D.K D.cls (OX.add O p) ρ s σ H → H p = some o → Le ρ s.env σ H ρ' s'.env σ H' → H' p = some o := fun {p o ρ' s' H'} no q e l =>
    l.kp p o e (q.out p (.inr rfl)).1 fun m => q.fresh_not no (.inr (.inr m))
  cases r with
  | v t => exact ⟨O, fun _ z => z, h.1, fun {ρ' s' H' u} l q e => by cases e; exact .v (h.2.le h.1 l)⟩
  | l ts => obtain ⟨p, xs, rfl, _, no, q, e, r⟩ := h; exact ⟨OX.add O p, fun _ z => .inl z, q, fun {ρ' s' H' u} l q' f => by cases f; exact .l (keep no q e l) (r.le q l)⟩
  | k ts => obtain ⟨p, xs, rfl, _, no, q, e, i, r⟩ := h; exact ⟨OX.add O p, fun _ z => .inl z, q, fun {ρ' s' H' u} l q' f => by cases f; exact .k (keep no q e l) i (r.le q l)⟩
  | d ts => obtain ⟨p, xs, rfl, _, no, q, e, i, r⟩ := h; exact ⟨OX.add O p, fun _ z => .inl z, q, fun {ρ' s' H' u} l q' f => by cases f; exact .d (keep no q e l) i (r.le q l)⟩
  | b i =>
    obtain ⟨q, e⟩ := h
    refine ⟨O, fun _ z => z, q, fun {ρ' s' H' u} l q' f => ?_⟩
    simp only [Rt.res] at f
    cases h1 : s'.env[i]? with
    | none => rw [h1] at f; cases f
    | some x =>
      rw [h1] at f
      cases x with
      | none => cases f
      | val t =>
        cases f
        obtain ⟨v', g1, g2⟩ := q'.slot i _ h1
        rw [e] at g1; cases g1
        exact .v g2
      | own ts =>
        cases f
        obtain ⟨a, g1, _, _, xs, g2, g3⟩ := q'.own i _ h1 rfl
        rw [e] at g1; cases g1
        exact .l g2 g3
      | ownK ts =>
        cases f
        obtain ⟨a, g1, _, _, xs, g2, g4, g3⟩ := q'.own i _ h1 rfl
        rw [e] at g1; cases g1
        exact .k g2 g4 g3
      | ownT ts =>
        cases f
        obtain ⟨a, g1, _, _, xs, g2, g4, g3⟩ := q'.own i _ h1 rfl
        rw [e] at g1; cases g1
        exact .d g2 g4 g3

/-! ### outcomes -/
/-- an exception in the air -/
def XOk (D : Wd) (O : OX) (ρ : List Addr) (s : S) (σ : St) (H : Hp) (c : String) (fs : List (Str × T)) (cv : Value) (d : Option Addr) : Prop :=
  RS D.K D.cls O ρ s σ H ∧ ∃ C, D.cls (Str.ofString c) = some C ∧ cv = .ref C ∧
    ((fs = [] ∧ d = none) ∨ ∃ x gs, d = some x ∧ H x = some (.xd gs) ∧ gs.map (·.1) = fs.map (·.1) ∧ RpL D.K ρ (Lv O ρ s.env σ) H (gs.map (·.2)) (fs.map (·.2)))
def Out {α : Type} (D : Wd) (W : WX') (O : OX) (ρ : List Addr) (env : List Slot) (σ : St) (H : Hp) (r : R α) (P : α → S → Prop) : Prop := match r with
  | .ok a s' => P a s'
  | .err c fs s' => ∀ ρ' H' cv d, Le ρ env σ H ρ' s'.env σ H' → XOk D O ρ' s' σ H' c fs cv d → W cv d σ H'
  | .bad => False
theorem Out.mono {α : Type} {W : WX'} {r : R α} {P P' : α → S → Prop} (h : Out D W O ρ env σ H r P) (f : ∀ a s', P a s' → P' a s') : Out D W O ρ env σ H r P' := by
  cases r with
  | ok a s' => exact f a s' h
  | err c fs s' => exact h
  | bad => exact h
theorem Out.bind {α β : Type} {W : WX'} {r : R α} {f : α → S → R β} {P : β → S → Prop} (h : Out D W O ρ env σ H (r.bind f) P) :
    Out D W O ρ env σ H r (fun a s1 => ∀ ρ1 H1, Le ρ env σ H ρ1 s1.env σ H1 → Out D W O ρ1 s1.env σ H1 (f a s1) P) := by
  cases r with
  | ok a s1 =>
    intro ρ1 H1 l
    have h' : Out D W O ρ env σ H (f a s1) P := h
    show Out D W O ρ1 s1.env σ H1 (f a s1) P
    cases q : f a s1 with
    | ok b s2 => rw [q] at h'; exact h'
    | err c fs s2 => rw [q] at h'; exact fun ρ' H' cv d l' x => h' ρ' H' cv d (l.trans l') x
    | bad => rw [q] at h'; exact h'
  | err c fs s1 => exact h
  | bad => exact h
theorem Out.opt {α : Type} {W : WX'} {o : Option α} {P : α → S → Prop} (h : Out D W O ρ env σ H (R.opt o s) P) : ∃ a, o = some a ∧ P a s := by
  cases o with
  | none => exact h.elim
  | some a => exact ⟨a, rfl, h⟩
/-- others more -/
theorem Out.wider {α : Type} {W : WX'} {r : R α} {P : α → S → Prop} (h : Out D W O ρ env σ H r P) (f : ∀ a, O a → O' a) : Out D W O' ρ env σ H r P := by
  cases r with
  | ok a s1 => exact h
  | bad => exact h
  | err c fs s1 =>
    intro ρ' H' cv d l x
    obtain ⟨q, C, e1, e2, e3⟩ := x
    refine h ρ' H' cv d l ⟨q.sub f, C, e1, e2, e3.imp id fun ⟨x, gs, a1, a2, a3, a4⟩ => ⟨x, gs, a1, a2, a3, a4.sub (Lv.sub f)⟩⟩

/-- the reading of an expression; of expressions in a row; of a test -/
def tF (D : Wd) (G : Cfg) (W : WX') (e : IE) : TE := fun σ H Q => ∃ O ρ s, RS D.K D.cls O ρ s σ H ∧ Out D W O ρ s.env σ H (ev G e s) fun r s' => ∀ v ρ' H', Le ρ s.env σ H ρ' s'.env σ H' → RtOk D O ρ' s' σ H H' v r → Q v H'
def tFs (D : Wd) (G : Cfg) (W : WX') (es : List IE) : TA := fun σ H Q => ∃ O ρ s, RS D.K D.cls O ρ s σ H ∧ Out D W O ρ s.env σ H (evs G es s) fun ts s' => ∀ vs ρ' H', Le ρ s.env σ H ρ' s'.env σ H' → RS D.K D.cls O ρ' s' σ H' → RpL D.K ρ' (Lv O ρ' s'.env σ) H' vs ts → Q vs H'
def tFb (D : Wd) (G : Cfg) (W : WX') (e : IE) : TT := fun σ H Q => ∃ O ρ s, RS D.K D.cls O ρ s σ H ∧ Out D W O ρ s.env σ H (evB G e s) fun k s' => ∀ ρ' H', Le ρ s.env σ H ρ' s'.env σ H' → RS D.K D.cls O ρ' s' σ H' → Q k H'
end
end L2.TV

set_option maxHeartbeats 4000000
namespace L2
open PySem PySem.Spec PyProof.Rows
theorem tuple_mul1W (l : Addr) (items : Array Value) (n : Nat) (dd : Option Addr) (sl : Array (Option Value)) (u : Tok) :
    Meets (Builtin.«tuple.__mul__» ⟨[.ref l, .int 1 u], []⟩) (fun _ R s => s.heap.get? l = some { cls := .type "tuple", dict := dd, data := .seq items n, slots := sl } ∧ R (.ok (.ret (.ref l))) s) :=
  .of_wp fun prog w A R s h => by
    obtain ⟨hp, g, d, tk, os⟩ := s
    obtain ⟨hl, h⟩ := h
    have f1 := AutoSeq1.idx_int
    have c0 : (decide ((1 : Int) < -(2 ^ 63)) || decide ((1 : Int) ≥ 2 ^ 63)) = false := by decide
    have c1 : (items.isEmpty || (1 : Int) == 1) = true := by simp
    wp_walk using wpAny_loadPart' hl
    repeat (first
      | (refine wpAny_ite_false (decide_eq_false (by rw [c0]; exact Bool.false_ne_true)) ?_; wp_walk using wpAny_loadPart' hl)
      | (refine wpAny_ite_true (decide_eq_true c1) ?_; wp_walk using wpAny_loadPart' hl))
    exact ⟨_, rfl, h⟩
def rRep1 (K : PySem.W.Frag) : R2 := fun x y H Q => ∃ l xs, x = .ref l ∧ y = .int 1 ∧ SqT K H l xs ∧ Q (.ref l) H
section
variable {X : Cx}
theorem op_rep1 : OpR X (binaryOp .Mult) (rRep1 X.K) := by
  intro pins s σ H x y v u Q I rx ry h
  obtain ⟨l, xs, rfl, rfl, hT, q⟩ := h
  cases rx
  obtain ⟨t, rfl⟩ := ry
  obtain ⟨its, r, ⟨⟨cls, dd, data, sl⟩, ho, hc, n, hd⟩, hs⟩ := I.tuple hT
  simp only at hc hd
  subst hc hd
  refine wpAny_binaryOp_repeat_ref (T := "tuple") (U := "int") (by decide) ⟨_, ho, rfl⟩ (fun s' => typeIs_int s' 1 t) noFill_tuple_mul F.fills_int_mul F.slot_int_rmul repeat_tuple F.slot_int_index.lookup
    (call_meets F.slot_int_rmul (typeIs_int s 1 t) F.entry_int_rmul (F.args_int_rmul_2 _ _) (int_rmul_tuple 1 t l its.toArray n dd sl)
      ⟨ho, rfl, ⟨_, ho, rfl⟩, call_meets F.slot_tuple_mul ⟨_, ho, rfl⟩ F.entry_tuple_mul (F.args_tuple_mul_2 _ _) (tuple_mul1W l its.toArray n dd sl t) ⟨ho, ?_⟩⟩)
  exact ⟨.ref l, _, I, rfl, q⟩
end
end L2

set_option maxHeartbeats 1000000
/-! Operators by trees. -/
namespace L2.TV
open PySem PySem.Spec PyProof.Rows

/-- what an operation leaves -/
def OutOk (K : PySem.W.Frag) (ρ : List Addr) (L : Addr → Prop) (H H' : Hp) (v : V) : Rt → Prop
  | .v t => Same H H' ∧ Rp K ρ L H' v t
  | .l ts => ∃ p xs, v = .ref p ∧ H p = none ∧ H' = upd H p (.lst xs) ∧ RpL K ρ L H xs ts
  | .k ts => ∃ p kvs, v = .ref p ∧ H p = none ∧ H' = upd H p (.dK kvs) ∧ kvs.map (·.1) = ts.map (·.1) ∧ RpL K ρ L H (kvs.map (·.2)) (ts.map (·.2))
  | .d ts => ∃ p kvs, v = .ref p ∧ H p = none ∧ H' = upd H p (.dT kvs) ∧ kvs.map (·.1) = ts.map (·.1) ∧ RpL K ρ L H (kvs.map (·.2)) (ts.map (·.2))
  | .b _ => False
def rB (K : PySem.W.Frag) (g : T → T → Option Rt) : R2 := fun x y H Q => ∃ ρ L t u r, MutL L H ∧ Rq K ρ L H x t ∧ Rq K ρ L H y u ∧ g t u = some r ∧ ∀ v H', OutOk K ρ L H H' v r → Q v H'

section
variable {X : Cx} {K : PySem.W.Frag} {ρ : List Addr} {L : Addr → Prop} {H H' : Hp} {v : V}
theorem Rp.same {t : T} (m : MutL L H) (h : Same H H') (r : Rp K ρ L H v t) : Rp K ρ L H' v t := r.kp ⟨fun _ _ e => e, fun a o e _ => h _ _ e, fun _ l => .inl l⟩ m
theorem RpL.same {vs : List V} {t : List T} (m : MutL L H) (h : Same H H') (r : RpL K ρ L H vs t) : RpL K ρ L H' vs t := r.kp ⟨fun _ _ e => e, fun a o e _ => h _ _ e, fun _ l => .inl l⟩ m
theorem Rq.int {i : Int} (h : Rq K ρ L H v (.int i)) : v = .int i := by
  cases h with
  | v h => cases h; rfl
theorem Rq.bl {i : Bool} (h : Rq K ρ L H v (.bl i)) : v = .bl i := by
  cases h with
  | v h => cases h; rfl
theorem Rq.str {i : Str} (h : Rq K ρ L H v (.str i)) : v = .str i := by
  cases h with
  | v h => cases h; rfl
theorem Rq.non (h : Rq K ρ L H v .non) : v = .non := by
  cases h with
  | v h => cases h; rfl
theorem Rq.lst {ts : List T} (h : Rq K ρ L H v (.lst ts)) : ∃ a xs, v = .ref a ∧ H a = some (.lst xs) ∧ RpL K ρ L H xs ts := by
  cases h with
  | v h => cases h with | lst e _ r => exact ⟨_, _, rfl, e, r⟩
  | l e r => exact ⟨_, _, rfl, e, r⟩
theorem Rq.tup {ts : List T} (h : Rq K ρ L H v (.tup ts)) : ∃ a xs, v = .ref a ∧ SqT K H a xs ∧ RpL K ρ L H xs ts := by
  cases h with
  | v h => cases h with | tup e r => exact ⟨_, _, rfl, e.sq, r⟩
theorem Rq.tupA {ts : List T} (h : Rq K ρ L H v (.tup ts)) : ∃ a xs, v = .ref a ∧ TupA K H a xs ts ∧ RpL K ρ L H xs ts := by
  cases h with
  | v h => cases h with | tup e r => exact ⟨_, _, rfl, e, r⟩
theorem RpL.nil1 {ts : List T} (r : RpL K ρ L H [] ts) : ts = [] := by cases r; rfl
theorem Rq.dk {ts : List (Key × T)} (h : Rq K ρ L H v (.dk ts)) : ∃ a kvs, v = .ref a ∧ Rd H a (.dK kvs) ∧ kvs.map (·.1) = ts.map (·.1) ∧ RpL K ρ L H (kvs.map (·.2)) (ts.map (·.2)) := by
  cases h with
  | v h => cases h with | dk e _ i r => exact ⟨_, _, rfl, e, i, r⟩
  | k e i r => exact ⟨_, _, rfl, .inl e, i, r⟩
theorem Rq.dt {ts : List (List Key × T)} (h : Rq K ρ L H v (.dt ts)) : ∃ a kvs, v = .ref a ∧ H a = some (.dT kvs) ∧ kvs.map (·.1) = ts.map (·.1) ∧ RpL K ρ L H (kvs.map (·.2)) (ts.map (·.2)) := by
  cases h with
  | v h => cases h with | dt e _ i r => exact ⟨_, _, rfl, e, i, r⟩
  | d e i r => exact ⟨_, _, rfl, e, i, r⟩
theorem out_int {i : Int} : OutOk K ρ L H H (.int i) (.v (.int i)) := ⟨Same.refl H, .int i⟩
theorem out_bl {i : Bool} : OutOk K ρ L H H (.bl i) (.v (.bl i)) := ⟨Same.refl H, .bl i⟩
theorem out_str {i : Str} : OutOk K ρ L H H (.str i) (.v (.str i)) := ⟨Same.refl H, .str i⟩
theorem RpL.rept {xs : List V} {ts : List T} (r : RpL K ρ L H xs ts) : ∀ n, RpL K ρ L H (List.replicate n xs).flatten (List.replicate n ts).flatten
  | 0 => by simpa using RpL.nil
  | n + 1 => by simpa [List.replicate_succ] using r.append (RpL.rept r n)
theorem out_tup {p : Addr} {xs : List V} {ts : List T} (m : MutL L H) (hp : H p = none) (r : RpL K ρ L H xs ts) : OutOk K ρ L H (upd H p (.tup xs)) (.ref p) (.v (.tup ts)) :=
  ⟨Same.upd_new hp, .tup (.new upd_same) (r.same m (Same.upd_new hp))⟩

theorem op_addT : OpR X (binaryOp .Add) (rB X.K addT) := by
  intro pins s σ H x y v u Q I rx ry h
  obtain ⟨ρ, L, t, w, r, m, h1, h2, e, q⟩ := h
  unfold addT at e
  split at e
  · cases h1.int; cases h2.int; cases e
    exact op_add pins s σ H _ _ v u Q I rx ry ⟨_, _, rfl, rfl, q _ _ out_int⟩
  · split at e
    · rename_i hz
      cases h1.str; cases h2.str; cases e
      exact op_add_str pins s σ H _ _ v u Q I rx ry ⟨_, _, rfl, rfl, hz, q _ _ out_str⟩
    · cases e
  · split at e
    · rename_i hz
      obtain ⟨a, xs, rfl, f1, r1⟩ := h1.tupA
      obtain ⟨b, ys, rfl, f2, r2⟩ := h2.tupA
      cases e
      have hl : xs.length + ys.length ≤ sizeLine := by rw [r1.len, r2.len]; exact hz
      refine op_catA pins s σ H _ _ v u Q I rx ry ⟨a, b, xs, ys, rfl, rfl, f1.sq, f2.sq, hl, fun e => ?_, fun _ e => ?_, fun _ _ p hp => q _ _ (out_tup m hp (r1.append r2))⟩
      · subst e
        have e1 := r1.nil1
        subst e1
        exact q _ _ ⟨Same.refl H, .tup f2 r2⟩
      · subst e
        have e1 := r2.nil1
        subst e1
        rw [List.append_nil] at q
        exact q _ _ ⟨Same.refl H, .tup f1 r1⟩
    · cases e
  · split at e
    · rename_i hz
      obtain ⟨a, xs, rfl, f1, r1⟩ := h1.lst
      obtain ⟨b, ys, rfl, f2, r2⟩ := h2.lst
      cases e
      have hl : xs.length + ys.length ≤ sizeLine := by rw [r1.len, r2.len]; exact hz
      exact op_cat pins s σ H _ _ v u Q I rx ry ⟨a, b, xs, ys, rfl, rfl, f1, f2, hl, fun p hp => q _ _ ⟨p, _, rfl, hp, rfl, r1.append r2⟩⟩
    · cases e
  · cases e
theorem op_subT : OpR X (binaryOp .Sub) (rB X.K subT) := by
  intro pins s σ H x y v u Q I rx ry h
  obtain ⟨ρ, L, t, w, r, m, h1, h2, e, q⟩ := h
  unfold subT at e
  split at e
  · cases h1.int; cases h2.int; cases e
    exact op_sub pins s σ H _ _ v u Q I rx ry ⟨_, _, rfl, rfl, q _ _ out_int⟩
  · cases e
theorem rep_ne {α : Type} {xs : List α} {n : Nat} : (List.replicate n xs).flatten = (List.replicate n xs).flatten := rfl
theorem op_mulT : OpR X (binaryOp .Mult) (rB X.K mulT) := by
  intro pins s σ H x y v u Q I rx ry h
  obtain ⟨ρ, L, t, w, r, m, h1, h2, e, q⟩ := h
  unfold mulT at e
  split at e
  · split at e
    · rename_i hz
      cases h1.int; cases h2.int; cases e
      exact op_mulW pins s σ H _ _ v u Q I rx ry ⟨_, _, rfl, rfl, hz, q _ _ out_int⟩
    · cases e
  · split at e
    · rename_i hz
      obtain ⟨a, xs, rfl, f1, r1⟩ := h1.lst
      cases h2.int; cases e
      exact op_rep pins s σ H _ _ v u Q I rx ry ⟨a, _, xs, rfl, rfl, f1, hz.1, hz.2.1, by rw [r1.len]; exact hz.2.2, fun p hp => q _ _ ⟨p, _, rfl, hp, rfl, r1.rept _⟩⟩
    · cases e
  · split at e
    · rename_i hz
      subst hz
      obtain ⟨a, xs, rfl, f1, r1⟩ := h1.tupA
      cases h2.int; cases e
      exact op_rep1 pins s σ H _ _ v u Q I rx ry ⟨a, xs, rfl, rfl, f1.sq, q _ _ ⟨Same.refl H, .tup f1 r1⟩⟩
    · split at e
      · rename_i hz
        obtain ⟨a, xs, rfl, f1, r1⟩ := h1.tup
        cases h2.int; cases e
        have hx : xs ≠ [] := fun z => by subst z; cases r1; exact hz.2.2.1 rfl
        exact op_repT pins s σ H _ _ v u Q I rx ry ⟨a, _, xs, rfl, rfl, f1, hx, hz.1, hz.2.1, by rw [r1.len]; exact hz.2.2.2, fun p hp => q _ _ (out_tup m hp (r1.rept _))⟩
      · cases e
  · cases e
theorem op_fdivT : OpR X (binaryOp .FloorDiv) (rB X.K fdivT) := by
  intro pins s σ H x y v u Q I rx ry h
  obtain ⟨ρ, L, t, w, r, m, h1, h2, e, q⟩ := h
  unfold fdivT at e
  split at e
  · split at e
    · rename_i hz
      cases h1.int; cases h2.int; cases e
      exact op_fdivW pins s σ H _ _ v u Q I rx ry ⟨_, _, rfl, rfl, hz, q _ _ out_int⟩
    · cases e
  · cases e
theorem op_modT : OpR X (binaryOp .Mod) (rB X.K modT) := by
  intro pins s σ H x y v u Q I rx ry h
  obtain ⟨ρ, L, t, w, r, m, h1, h2, e, q⟩ := h
  unfold modT at e
  split at e
  · split at e
    · rename_i hz
      cases h1.int; cases h2.int; cases e
      exact op_mod pins s σ H _ _ v u Q I rx ry ⟨_, _, rfl, rfl, hz, q _ _ out_int⟩
    · cases e
  · cases e
theorem op_powT : OpR X (binaryOp .Pow) (rB X.K powT) := by
  intro pins s σ H x y v u Q I rx ry h
  obtain ⟨ρ, L, t, w, r, m, h1, h2, e, q⟩ := h
  unfold powT at e
  split at e
  · split at e
    · rename_i i j hz
      cases h1.int; cases h2.int; cases e
      exact opI (C := fun i j => 0 ≤ j ∧ (Builtin.Int.intBits i : Int) * j ≤ 2 ^ 27) (g := fun i j => i ^ j.toNat) (fun _ _ _ _ _ _ _ hc q => pow_int hc.1 hc.2 q) pins s σ H _ _ v u Q I rx ry ⟨i, j, rfl, rfl, hz, q _ _ out_int⟩
    · cases e
  · cases e
/-- the operator's name in the syntax -/
def Bop.op : Bop → Operator
  | .add => .Add | .sub => .Sub | .mul => .Mult | .fdiv => .FloorDiv | .mod => .Mod | .pow => .Pow | .shl => .LShift
theorem op_bin (o : Bop) : OpR X (binaryOp o.op) (rB X.K (binT o)) := by
  cases o with
  | add => exact op_addT
  | sub => exact op_subT
  | mul => exact op_mulT
  | fdiv => exact op_fdivT
  | mod => exact op_modT
  | pow => exact op_powT
  | shl => intro pins s σ H x y v u Q I rx ry h; obtain ⟨ρ, L, t, w, r, m, h1, h2, e, q⟩ := h; cases e

/-! ### truth -/
def rTr (K : PySem.W.Frag) : V → Hp → (Bool → Hp → Prop) → Prop := fun x H Q => ∃ ρ L t k, Rq K ρ L H x t ∧ truth t = some k ∧ Q k H
theorem tru_T {ρ : List Addr} {L : Addr → Prop} {H : Hp} {x : V} {t : T} {k : Bool} (h : Rq K ρ L H x t) (e : truth t = some k) : TruV K x H k := by
  cases t with
  | non => cases e; cases h.non; rfl
  | bl b => cases e; cases h.bl; rfl
  | int i => cases e; cases h.int; rfl
  | str z =>
    simp only [truth] at e
    split at e
    · rename_i hz
      cases e; cases h.str; exact ⟨hz, rfl⟩
    · cases e
  | tup l =>
    cases e
    obtain ⟨a, xs, rfl, f, r⟩ := h.tup
    have := r.len
    refine .inr (.inl ⟨xs, f, ?_⟩)
    cases xs <;> cases l <;> simp_all
  | lst l =>
    cases e
    obtain ⟨a, xs, rfl, f, r⟩ := h.lst
    have := r.len
    refine .inl ⟨xs, SqL.of f, ?_⟩
    cases xs <;> cases l <;> simp_all
  | dk l => cases e
  | dt l => cases e
  | scr l => cases e
  | ref n => cases e
theorem tru_R : TruR X (rTr X.K) := by
  intro pins s σ H x v Q I rx h
  obtain ⟨ρ, L, t, k, h, e, q⟩ := h
  exact tru_ok pins s σ H x v Q I rx ⟨k, tru_T h e, q⟩
end
end L2.TV

set_option maxHeartbeats 1000000
/-! Comparisons by trees. -/
namespace L2.TV
open PySem PySem.Spec PyProof.Rows
section
variable {X : Cx} {K : PySem.W.Frag} {ρ : List Addr} {L : Addr → Prop} {H H' : Hp} {v : V}
mutual
theorem Rp.dp : ∀ {t : T} {v : V} {d : PyData}, Rp K ρ L H v t → t.pd = some d → d.canLay0 = true → Dp K H v d
  | .non, _, _, h, e, _ => by cases h; simp only [T.pd, Option.some.injEq] at e; subst e; exact .non
  | .bl b, _, _, h, e, _ => by cases h; simp only [T.pd, Option.some.injEq] at e; subst e; exact .bl b
  | .int b, _, _, h, e, _ => by cases h; simp only [T.pd, Option.some.injEq] at e; subst e; exact .int b
  | .str b, _, _, h, e, _ => by cases h; simp only [T.pd, Option.some.injEq] at e; subst e; exact .str b
  | .tup l, _, _, h, e, c => by
    cases h with
    | tup q r =>
      simp only [T.pd, Option.map_eq_some_iff] at e
      obtain ⟨ds, e, rfl⟩ := e
      exact .tup q.sq (RpL.dp r e (by simpa only [PyData.canLay0] using c))
  | .lst l, _, _, h, e, c => by
    cases h with
    | lst q n r =>
      simp only [T.pd, Option.map_eq_some_iff] at e
      obtain ⟨ds, e, rfl⟩ := e
      exact .lst (SqL.of q) (RpL.dp r e (by simpa only [PyData.canLay0] using c))
  | .dk l, _, _, h, e, c => by
    simp only [T.pd, Option.map_eq_some_iff] at e
    obtain ⟨ds, e, rfl⟩ := e
    simp [PyData.canLay0] at c
  | .dt l, _, _, h, e, c => by simp [T.pd] at e
  | .scr l, _, _, h, e, c => by simp [T.pd] at e
  | .ref l, _, _, h, e, c => by simp [T.pd] at e
theorem RpL.dp : ∀ {ts : List T} {vs : List V} {ds : List PyData}, RpL K ρ L H vs ts → T.pds ts = some ds → PyData.canLayAll0 ds = true → DpAll K H vs ds
  | [], _, _, h, e, _ => by cases h; simp only [T.pds, Option.some.injEq] at e; subst e; exact .nil
  | t :: ts, _, _, h, e, c => by
    cases h with
    | cons h1 h2 =>
      simp only [T.pds] at e
      cases e1 : t.pd with
      | none => rw [e1] at e; cases e
      | some d =>
        cases e2 : T.pds ts with
        | none => rw [e1, e2] at e; cases e
        | some ds =>
          rw [e1, e2] at e
          simp only [Option.some.injEq] at e
          subst e
          have c' : (PyData.canLay0 d && PyData.canLayAll0 ds) = true := by simpa only [PyData.canLayAll0] using c
          rw [Bool.and_eq_true] at c'
          exact .cons (Rp.dp h1 e1 c'.1) (RpL.dp h2 e2 c'.2)
end
theorem Rq.dp {t : T} {d : PyData} (h : Rq K ρ L H v t) (e : t.pd = some d) (c : d.canLay0 = true) : Dp K H v d := by
  cases h with
  | v h => exact h.dp e c
  | l q r =>
    simp only [T.pd, Option.map_eq_some_iff] at e
    obtain ⟨ds, e, rfl⟩ := e
    exact .lst (SqL.of q) (RpL.dp r e (by simpa only [PyData.canLay0] using c))
  | k q i r =>
    simp only [T.pd, Option.map_eq_some_iff] at e
    obtain ⟨ds, e, rfl⟩ := e
    simp [PyData.canLay0] at c
  | d q i r => simp [T.pd] at e

/-- a comparison by trees -/
def rC (K : PySem.W.Frag) (g : T → T → Option Bool) : R2 := fun x y H Q => ∃ ρ L t u k, Rq K ρ L H x t ∧ Rq K ρ L H y u ∧ g t u = some k ∧ Q (.bl k) H
theorem shaped_tl {ds : List PyData} (h : SeqAt.shaped (.list ds) = true) : PyData.canLayAll0 ds = true := by
  have := SeqAt.canLay_of_shaped h
  simpa only [PyData.canLay0] using this
theorem op_eqT0 (hu : X.A.units + 64 < cLine) : OpR X (compareOp .Eq) (rC X.K eqD) := by
  intro pins s σ H x y v u Q I rx ry h
  obtain ⟨ρ, L, t, w, k, h1, h2, e, q⟩ := h
  unfold eqD at e
  split at e
  · rename_i d d' e1 e2
    split at e
    · rename_i hs
      cases e
      exact op_eqD hu pins s σ H x y v u Q I rx ry ⟨d, d', h1.dp e1 (SeqAt.canLay_of_shaped hs.1), h2.dp e2 (SeqAt.canLay_of_shaped hs.2), hs.1, hs.2, q⟩
    · cases e
  · cases e
theorem op_neT0 (hu : X.A.units + 64 < cLine) : OpR X (compareOp .NotEq) (rC X.K fun a b => (eqD a b).map (!·)) := by
  intro pins s σ H x y v u Q I rx ry h
  obtain ⟨ρ, L, t, w, k, h1, h2, e, q⟩ := h
  replace e : (eqD t w).map (!·) = some k := e
  rw [Option.map_eq_some_iff] at e
  obtain ⟨k0, e, rfl⟩ := e
  unfold eqD at e
  split at e
  · rename_i d d' e1 e2
    split at e
    · rename_i hs
      cases e
      exact op_neD hu pins s σ H x y v u Q I rx ry ⟨d, d', h1.dp e1 (SeqAt.canLay_of_shaped hs.1), h2.dp e2 (SeqAt.canLay_of_shaped hs.2), hs.1, hs.2, q⟩
    · cases e
  · cases e
theorem op_eqT (hu : X.A.units + 64 < cLine) : OpR X (compareOp .Eq) (rC X.K eqB) := by
  intro pins s σ H x y v u Q I rx ry h
  obtain ⟨ρ, L, t, w, k, h1, h2, e, q⟩ := h
  unfold eqB at e
  split at e
  · rename_i a b
    cases e
    cases h1.str; cases h2.str
    refine op_eq pins s σ H _ _ v u Q I rx ry ⟨rfl, ?_⟩
    have z : decide (V.str a = V.str b) = decide (a = b) := by simp
    rw [z]; exact q
  · exact op_eqT0 hu pins s σ H x y v u Q I rx ry ⟨ρ, L, t, w, k, h1, h2, e, q⟩
theorem op_neT (hu : X.A.units + 64 < cLine) : OpR X (compareOp .NotEq) (rC X.K fun a b => (eqB a b).map (!·)) := by
  intro pins s σ H x y v u Q I rx ry h
  obtain ⟨ρ, L, t, w, k, h1, h2, e, q⟩ := h
  replace e : (eqB t w).map (!·) = some k := e
  unfold eqB at e
  split at e
  · rename_i a b
    cases e
    cases h1.str; cases h2.str
    refine op_ne pins s σ H _ _ v u Q I rx ry ⟨rfl, ?_⟩
    have z : decide (V.str a = V.str b) = decide (a = b) := by simp
    rw [z]; exact q
  · exact op_neT0 hu pins s σ H x y v u Q I rx ry ⟨ρ, L, t, w, k, h1, h2, e, q⟩
theorem any_keys {ts : List (Key × T)} {kvs : List (Key × V)} (i : kvs.map (·.1) = ts.map (·.1)) (k : Key) : (ts.any fun kv => decide (kv.1 = k)) = (valV kvs k).isSome := by
  rw [← valV_any]
  have h1 : (ts.any fun kv => decide (kv.1 = k)) = (ts.map (·.1)).any fun x => decide (x = k) := by rw [List.any_map]; rfl
  have h2 : (kvs.any fun kv => decide (kv.1 = k)) = (kvs.map (·.1)).any fun x => decide (x = k) := by rw [List.any_map]; rfl
  rw [h1, h2, i]
theorem any_keysT {ts : List (List Key × T)} {kvs : List (List Key × V)} (i : kvs.map (·.1) = ts.map (·.1)) (k : List Key) : (ts.any fun kv => decide (kv.1 = k)) = (valV kvs k).isSome := by
  rw [← valV_any]
  have h1 : (ts.any fun kv => decide (kv.1 = k)) = (ts.map (·.1)).any fun x => decide (x = k) := by rw [List.any_map]; rfl
  have h2 : (kvs.any fun kv => decide (kv.1 = k)) = (kvs.map (·.1)).any fun x => decide (x = k) := by rw [List.any_map]; rfl
  rw [h1, h2, i]
/-- a key's values -/
theorem keyL_of : ∀ {ts : List T} {xs : List V} {ks : List Key}, keyL ts = some ks → RpL K ρ L H xs ts → xs = ks.map kV
  | [], _, _, e, r => by
    simp only [keyL, Option.some.injEq] at e
    subst e
    cases r
    rfl
  | t :: ts, _, _, e, r => by
    cases r with
    | cons r1 r2 =>
      simp only [keyL] at e
      split at e
      · rename_i k ks e1 e2
        cases e
        rw [keyL_of e2 r2]
        cases t <;> simp only [keyT] at e1 <;> first | cases e1 | skip
        · cases r1; rfl
        · cases r1; rfl
      · cases e
theorem tkT_of {t : T} {k : List Key} (e : tkT t = some k) (h : Rq K ρ L H v t) : ∃ b, v = .ref b ∧ H b = some (.tup (k.map kV)) := by
  unfold tkT at e
  split at e
  · split at e
    · rename_i hm
      obtain ⟨a, xs, rfl, f, r⟩ := h.tupA
      rw [← keyL_of e r]
      exact ⟨a, rfl, f.trk hm⟩
    · cases e
  · cases e
/-- x in xs, by readings -/
theorem in_core (hu : X.A.units + 65 < cLine) (neg : Bool) : OpR X (compareOp (if neg then .NotIn else .In)) (rC X.K fun a b => (inB a b).map fun k => if neg then !k else k) := by
  intro pins s σ H x y v u Q I rx ry h
  obtain ⟨ρ, L, t, w, k, h1, h2, e, q⟩ := h
  replace e : (inB t w).map (fun k => if neg then !k else k) = some k := e
  rw [Option.map_eq_some_iff] at e
  obtain ⟨k0, e, rfl⟩ := e
  unfold inB at e
  split at e
  · split at e
    · rename_i l d ds e1 e2
      split at e
      · rename_i hs
        cases e
        have hd := h1.dp e1 (SeqAt.canLay_of_shaped hs.1)
        have he := h2.dp (d := .list ds) (by simp only [T.pd, e2, Option.map_some]) (SeqAt.canLay_of_shaped hs.2)
        cases neg with
        | false => exact op_inD hu pins s σ H x y v u Q I rx ry ⟨d, ds, hd, he, hs.1, hs.2, q⟩
        | true => exact op_notInD hu pins s σ H x y v u Q I rx ry ⟨d, ds, hd, he, hs.1, hs.2, q⟩
      · cases e
    · cases e
  · split at e
    · rename_i l d ds e1 e2
      split at e
      · rename_i hs
        cases e
        have hd := h1.dp e1 (SeqAt.canLay_of_shaped hs.1)
        have he := h2.dp (d := .tuple ds) (by simp only [T.pd, e2, Option.map_some]) (by have := SeqAt.canLay_of_shaped hs.2; simpa only [PyData.canLay0] using this)
        obtain ⟨as, r1⟩ := Dp.reads I d x v hd rx
        obtain ⟨bs, r2⟩ := Dp.reads I (.tuple ds) y u he ry
        cases neg with
        | false => exact SeqAt.in_tuple_reads r2 r1 (shaped_tl hs.2) (SeqAt.canLay_of_shaped hs.1) (room_in_shaped hs.1 hu) ⟨.bl _, H, I, rfl, q⟩
        | true => exact SeqAt.notIn_tuple_reads r2 r1 (shaped_tl hs.2) (SeqAt.canLay_of_shaped hs.1) (room_in_shaped hs.1 hu) ⟨.bl _, H, I, rfl, q⟩
      · cases e
    · cases e
  · rename_i l
    obtain ⟨a, kvs, rfl, f, i, r⟩ := h2.dk
    have hu1 : X.A.units + 1 < cLine := by omega
    have key : ∀ kk : Key, x = kV kk → k0 = (l.any fun kv => decide (kv.1 = kk)) → wpAny (model X.prog X.w) X.A (compareOp (if neg then .NotIn else .In) v u) (EP X pins σ Q) X.xe s := by
      intro kk hx hk
      subst hx
      have g : DGet H a (kV kk) (valV kvs kk) := .inl ⟨kvs, kk, f, rfl, rfl⟩
      cases ry
      cases neg with
      | false => exact d_in hu1 I g rx fun s' I' => ⟨.bl _, H, I', rfl, by rw [hk, any_keys i] at q; exact q⟩
      | true => exact d_notIn hu1 I g rx fun s' I' => ⟨.bl _, H, I', rfl, by rw [hk, any_keys i] at q; exact q⟩
    split at e
    · cases e
      cases h1.int
      exact key (.inl _) rfl rfl
    · cases e
      cases h1.str
      exact key (.inr _) rfl rfl
    · cases e
  · rename_i l
    obtain ⟨a, kvs, rfl, f, i, r⟩ := h2.dt
    have hu1 : X.A.units + 1 < cLine := by omega
    rw [Option.map_eq_some_iff] at e
    obtain ⟨kk, e, rfl⟩ := e
    obtain ⟨b, rfl, hb⟩ := tkT_of e h1
    have g : DGet H a (.ref b) (valV kvs kk) := DGet.t f hb
    rw [any_keysT i] at q
    cases ry
    cases neg with
    | false => exact d_in hu1 I g rx fun s' I' => ⟨.bl _, H, I', rfl, q⟩
    | true => exact d_notIn hu1 I g rx fun s' I' => ⟨.bl _, H, I', rfl, q⟩
  · cases e
theorem op_ltT (hu : X.A.units + 64 < cLine) : OpR X (compareOp .Lt) (rC X.K ltB) := by
  intro pins s σ H x y v u Q I rx ry h
  obtain ⟨ρ, L, t, w, k, h1, h2, e, q⟩ := h
  unfold ltB at e
  split at e
  · cases h1.int; cases h2.int; cases e
    exact op_lt pins s σ H _ _ v u Q I rx ry ⟨_, _, rfl, rfl, q⟩
  · cases h1.str; cases h2.str; cases e
    exact op_lt_str pins s σ H _ _ v u Q I rx ry ⟨_, _, rfl, rfl, q⟩
  · cases e
theorem is_core (neg : Bool) : OpR X (compareOp (if neg then .IsNot else .Is)) (rC X.K fun a b => (isB a b).map fun k => if neg then !k else k) := by
  intro pins s σ H x y v u Q I rx ry h
  obtain ⟨ρ, L, t, w, k, h1, h2, e, q⟩ := h
  replace e : (isB t w).map (fun k => if neg then !k else k) = some k := e
  rw [Option.map_eq_some_iff] at e
  obtain ⟨k0, e, rfl⟩ := e
  have non : ∀ b : Bool, y = .non → decide (x = .non) = b → k0 = b → wpAny (model X.prog X.w) X.A (compareOp (if neg then .IsNot else .Is) v u) (EP X pins σ Q) X.xe s := by
    intro b hy hb hk
    subst hy hk hb
    cases neg with
    | false => exact op_isN pins s σ H _ _ v u Q I rx ry ⟨rfl, q⟩
    | true => exact op_notN pins s σ H _ _ v u Q I rx ry ⟨rfl, q⟩
  have ref : ∀ {ts}, (Rq X.K ρ L H x (.tup ts) ∨ Rq X.K ρ L H x (.lst ts)) → decide (x = .non) = false := by
    intro ts h
    rcases h with h | h
    · obtain ⟨a, _, rfl, _⟩ := h.tup; rfl
    · obtain ⟨a, _, rfl, _⟩ := h.lst; rfl
  unfold isB at e
  split at e
  · cases h1.bl; cases h2.bl; cases e
    cases neg with
    | false => exact op_isBl pins s σ H _ _ v u Q I rx ry ⟨_, _, rfl, rfl, q⟩
    | true => exact op_notBl pins s σ H _ _ v u Q I rx ry ⟨_, _, rfl, rfl, q⟩
  · cases h1.non; cases e; exact non _ h2.non rfl rfl
  · cases h1.bl; cases e; exact non _ h2.non rfl rfl
  · cases h1.int; cases e; exact non _ h2.non rfl rfl
  · cases h1.str; cases e; exact non _ h2.non rfl rfl
  · cases e; exact non _ h2.non (ref (.inl h1)) rfl
  · cases e; exact non _ h2.non (ref (.inr h1)) rfl
  · obtain ⟨a, _, rfl, _⟩ := h1.dk
    cases e; exact non _ h2.non rfl rfl
  · cases e
    cases h1 with
    | v h1 => cases h1 with
      | ref => exact non _ h2.non rfl rfl
  · cases e
theorem rC_int {g : T → T → Option Bool} {f : Value → Value → Sem Value} {p : Int → Int → Bool} (ho : OpR X f (rI0 fun i j => .bl (p i j))) (hg : ∀ t u k, g t u = some k → ∃ i j, t = .int i ∧ u = .int j ∧ k = p i j) : OpR X f (rC X.K g) := by
  intro pins s σ H x y v u Q I rx ry h
  obtain ⟨ρ, L, t, w, k, h1, h2, e, q⟩ := h
  obtain ⟨i, j, rfl, rfl, rfl⟩ := hg _ _ _ e
  cases h1.int; cases h2.int
  exact ho pins s σ H _ _ v u Q I rx ry ⟨_, _, rfl, rfl, q⟩
def Cop.op : Cop → CmpOp
  | .eq => .Eq | .ne => .NotEq | .lt => .Lt | .le => .LtE | .gt => .Gt | .ge => .GtE | .isin => .In | .notin => .NotIn | .is => .Is | .isnot => .IsNot
theorem op_cmp (hu : X.A.units + 65 < cLine) (o : Cop) : OpR X (compareOp o.op) (rC X.K (cmpT o)) := by
  have hu' : X.A.units + 64 < cLine := by omega
  cases o with
  | eq => exact op_eqT hu'
  | ne => exact op_neT hu'
  | lt => exact op_ltT hu'
  | gt => refine rC_int (p := fun i j => decide (j < i)) op_gt fun t u k e => ?_
          cases t <;> cases u <;> simp only [cmpT] at e <;> first | (cases e; exact ⟨_, _, rfl, rfl, rfl⟩) | (cases e)
  | le => refine rC_int (p := fun i j => decide (i ≤ j)) op_le fun t u k e => ?_
          cases t <;> cases u <;> simp only [cmpT] at e <;> first | (cases e; exact ⟨_, _, rfl, rfl, rfl⟩) | (cases e)
  | ge => refine rC_int (p := fun i j => decide (j ≤ i)) op_ge fun t u k e => ?_
          cases t <;> cases u <;> simp only [cmpT] at e <;> first | (cases e; exact ⟨_, _, rfl, rfl, rfl⟩) | (cases e)
  | isin => have g : cmpT .isin = fun a b => (inB a b).map fun k => if false = true then !k else k := by funext a b; simp [cmpT]
            rw [g]; exact in_core (X := X) hu false
  | notin => exact in_core (X := X) hu true
  | is => have g : cmpT .is = fun a b => (isB a b).map fun k => if false = true then !k else k := by funext a b; simp [cmpT]
          rw [g]; exact is_core (X := X) false
  | isnot => exact is_core (X := X) true
end
end L2.TV

set_option maxHeartbeats 1000000
/-! Subscripts, slices, built-in calls by trees. -/
namespace L2.TV
open PySem PySem.Spec PyProof.Rows
section
variable {X : Cx} {K : PySem.W.Frag} {ρ : List Addr} {L : Addr → Prop} {H H' : Hp} {v : V}
theorem RpL.atI {xs : List V} {ts : List T} {i : Int} {t : T} (r : RpL K ρ L H xs ts) (e : L2.atI ts i = some t) : ∃ v, L2.atI xs i = some v ∧ Rp K ρ L H v t := by
  unfold L2.atI at e ⊢
  rw [r.len]
  cases h : ixN ts.length i with
  | none => rw [h] at e; cases e
  | some j => rw [h] at e; exact r.get e
theorem RpL.cut {xs : List V} {ts : List T} (r : RpL K ρ L H xs ts) (lo hi : Option Int) : RpL K ρ L H (cutV xs lo hi) (cutL ts lo hi) := by
  unfold cutV cutL
  rw [r.len]
  exact (r.drop _).take _

def rIxG (K : PySem.W.Frag) : R2 := fun x y H Q => ∃ ρ L t u r, Rq K ρ L H x t ∧ Rq K ρ L H y u ∧ ixT t u = some r ∧ ∀ v, Rp K ρ L H v r → Q v H
theorem find_valK {κ : Type} [DecidableEq κ] {ts : List (κ × T)} {kvs : List (κ × V)} (i : kvs.map (·.1) = ts.map (·.1)) (r : RpL K ρ L H (kvs.map (·.2)) (ts.map (·.2))) {k : κ} {t : T} (e : (ts.find? fun kv => decide (kv.1 = k)).map (·.2) = some t) :
    ∃ v, valV kvs k = some v ∧ Rp K ρ L H v t := by
  induction ts generalizing kvs with
  | nil => simp at e
  | cons p ts ih =>
    cases kvs with
    | nil => simp at i
    | cons q kvs =>
      simp only [List.map_cons, List.cons.injEq] at i r
      cases r with
      | cons r1 r2 =>
        by_cases h : p.1 = k
        · have e' : some p.2 = some t := by simpa [List.find?_cons, h] using e
          cases e'
          exact ⟨q.2, valV_pos (i.1.trans h), r1⟩
        · have e' : (ts.find? fun kv => decide (kv.1 = k)).map (·.2) = some t := by simpa [List.find?_cons, h] using e
          obtain ⟨v, f1, f2⟩ := ih i.2 r2 e'
          exact ⟨v, (valV_neg fun z => h (i.1.symm.trans z)).trans f1, f2⟩
theorem ix_G (hu : X.A.units + 65 < cLine) : IxR X (rIxG X.K) := by
  intro value slice pins s σ H x y v u Q I rx ry h hs
  obtain ⟨ρ, L, t, w, r, h1, h2, e, q⟩ := h
  have hu1 : X.A.units + 1 < cLine := by omega
  have dict : ∀ {l : List (Key × T)} (kk : Key), Rq X.K ρ L H x (.dk l) → y = kV kk → (l.find? fun kv => decide (kv.1 = kk)).map (·.2) = some r → wpAny (model X.prog X.w) X.A (subscriptTail value slice v u) (EP X pins σ Q) X.xe s := by
    intro l kk h1 hy e
    subst hy
    obtain ⟨a, kvs, rfl, f, i, rr⟩ := h1.dk
    obtain ⟨z, f1, f2⟩ := find_valK i rr e
    cases rx
    have g : DGet H a (kV kk) (some z) := by rw [← f1]; exact .inl ⟨kvs, kk, f, rfl, rfl⟩
    refine PyProof.Rows.tail_any (dict_typeIs I g) PySem.slot_dict_getitem.lookup ?_ hs
    exact d_getItem hu1 I g ry fun w' s' I' r' => ⟨z, H, I', r', q z f2⟩
  unfold ixT at e
  split at e
  · obtain ⟨a, xs, rfl, f, r1⟩ := h1.tup
    cases h2.int
    obtain ⟨z, f1, f2⟩ := r1.atI e
    exact ix_tup value slice pins s σ H _ _ v u Q I rx ry ⟨a, xs, _, z, rfl, rfl, f, f1, q z f2⟩ hs
  · obtain ⟨a, xs, rfl, f, r1⟩ := h1.lst
    cases h2.int
    obtain ⟨z, f1, f2⟩ := r1.atI e
    exact ix_list value slice pins s σ H _ _ v u Q I rx ry ⟨a, xs, _, z, rfl, rfl, SqL.of f, f1, q z f2⟩ hs
  · rename_i l i
    cases h1 with
    | v h1 => cases h1 with
      | scr f =>
        cases h2.int
        rw [Option.map_eq_some_iff] at e
        obtain ⟨n, e, rfl⟩ := e
        have e' : atI (l.map V.int) i = some (.int n) := by
          unfold atI at e ⊢
          rw [List.length_map]
          cases h : ixN l.length i with
          | none => rw [h] at e; cases e
          | some j =>
            rw [h] at e
            have e2 : l[j]? = some n := e
            show (l.map V.int)[j]? = some (.int n)
            rw [List.getElem?_map, e2]; rfl
        exact ix_list value slice pins s σ H _ _ v u Q I rx ry ⟨_, _, _, _, rfl, rfl, f.l, e', q _ (.int n)⟩ hs
  · cases h2.int
    exact dict (.inl _) h1 rfl e
  · cases h2.str
    exact dict (.inr _) h1 rfl e
  · rename_i l t'
    rw [Option.bind_eq_some_iff] at e
    obtain ⟨k, e1, e⟩ := e
    obtain ⟨a, kvs, rfl, f, i, rr⟩ := h1.dt
    obtain ⟨b, rfl, hb⟩ := tkT_of e1 h2
    obtain ⟨z, f1, f2⟩ := find_valK i rr e
    cases rx
    have g : DGet H a (.ref b) (some z) := by rw [← f1]; exact DGet.t f hb
    refine PyProof.Rows.tail_any (dict_typeIs I g) PySem.slot_dict_getitem.lookup ?_ hs
    exact d_getItem hu1 I g ry fun w' s' I' r' => ⟨z, H, I', r', q z f2⟩
  · cases e

/-- a slice by trees -/
def rSlG (K : PySem.W.Frag) : V → Option Int → Option Int → Hp → VK → Prop := fun x lo hi H Q => ∃ ρ L t r, MutL L H ∧ Rq K ρ L H x t ∧ slT t lo hi = some r ∧ ∀ v H', OutOk K ρ L H H' v r → Q v H'
theorem cut_all {α : Type} {xs : List α} {lo hi : Option Int} (h : HT.sIx xs.length 0 lo = 0 ∧ HT.sIx xs.length xs.length hi = xs.length) : cutL xs lo hi = xs := by
  unfold cutL
  rw [h.1, h.2]
  simp
theorem sl_G : SlR X (rSlG X.K) := by
  intro pins s σ H x v vl vu lo hi sl Q I rx hs pl pu h
  obtain ⟨ρ, L, t, r, m, h1, e, q⟩ := h
  unfold slT at e
  split at e
  · cases e
    obtain ⟨a, xs, rfl, f, r1⟩ := h1.tupA
    refine sl_tupA pins s σ H _ v vl vu lo hi sl Q I rx hs pl pu ⟨a, xs, rfl, f.sq, fun hw => ?_, fun _ p hp => q _ _ (out_tup m hp (r1.cut lo hi))⟩
    have := cut_all hw
    rw [r1.len] at hw
    rw [cut_all hw] at q
    exact q _ _ ⟨Same.refl H, .tup f r1⟩
  · cases e
    obtain ⟨a, xs, rfl, f, r1⟩ := h1.lst
    exact sl_list pins s σ H _ v vl vu lo hi sl Q I rx hs pl pu ⟨a, xs, rfl, SqL.of f, fun p hp => q _ _ ⟨p, _, rfl, hp, rfl, r1.cut lo hi⟩⟩
  · split at e
    · rename_i hz
      cases e
      cases h1.str
      exact sl_str pins s σ H _ v vl vu lo hi sl Q I rx hs pl pu ⟨_, rfl, hz, q _ _ out_str⟩
    · cases e
  · cases e

/-! ### built-in calls -/
inductive RqL (K : PySem.W.Frag) (ρ : List Addr) (L : Addr → Prop) (H : Hp) : List V → List T → Prop
  | nil : RqL K ρ L H [] []
  | cons {v : V} {vs : List V} {t : T} {ts : List T} : Rq K ρ L H v t → RqL K ρ L H vs ts → RqL K ρ L H (v :: vs) (t :: ts)
theorem RqL.of {vs : List V} {ts : List T} (h : RpL K ρ L H vs ts) : RqL K ρ L H vs ts := by
  induction ts generalizing vs with
  | nil => cases h; exact .nil
  | cons t ts ih => cases h with
    | cons a b => exact .cons (.v a) (ih b)
def rFn (K : PySem.W.Frag) (f : List T → Option Rt) : List V → Hp → VK → Prop := fun vs H Q => ∃ ρ L ts r, MutL L H ∧ RqL K ρ L H vs ts ∧ f ts = some r ∧ ∀ v H', OutOk K ρ L H H' v r → Q v H'
theorem RqL.one {vs : List V} {t : T} (h : RqL K ρ L H vs [t]) : ∃ v, vs = [v] ∧ Rq K ρ L H v t := by
  cases h with
  | cons a b => cases b; exact ⟨_, rfl, a⟩
theorem RqL.two {vs : List V} {t u : T} (h : RqL K ρ L H vs [t, u]) : ∃ v w, vs = [v, w] ∧ Rq K ρ L H v t ∧ Rq K ρ L H w u := by
  cases h with
  | cons a b => cases b with
    | cons b c => cases c; exact ⟨_, _, rfl, a, b⟩
theorem RpL.allB : ∀ {xs : List V} {ts : List T} {bs : List Bool}, RpL K ρ L H xs ts → TV.allB ts = some bs → xs = bs.map V.bl
  | [], [], _, .nil, e => by simp only [TV.allB, Option.some.injEq] at e; subst e; rfl
  | x :: xs, t :: ts, bs, .cons r q, e => by
    cases t <;> simp only [TV.allB] at e <;> first | cases e | skip
    rw [Option.map_eq_some_iff] at e
    obtain ⟨cs, e, rfl⟩ := e
    cases r
    rw [RpL.allB q e]; rfl
/-- one argument -/
def rFn1 (K : PySem.W.Frag) (f : T → Option Rt) : List V → Hp → VK → Prop := fun vs H Q => ∃ ρ L v t r, vs = [v] ∧ MutL L H ∧ Rq K ρ L H v t ∧ f t = some r ∧ ∀ v H', OutOk K ρ L H H' v r → Q v H'
def rFn2 (K : PySem.W.Frag) (f : T → T → Option Rt) : List V → Hp → VK → Prop := fun vs H Q => ∃ ρ L v w t u r, vs = [v, w] ∧ MutL L H ∧ Rq K ρ L H v t ∧ Rq K ρ L H w u ∧ f t u = some r ∧ ∀ v H', OutOk K ρ L H H' v r → Q v H'
theorem fn_len : CallR X (.builtin "len") (rFn1 X.K lenT) := by
  intro pins s σ H xs us Q I rx h
  obtain ⟨ρ, L, v, t, r, rfl, m, h1, e, q⟩ := h
  unfold lenT at e
  split at e
  · split at e
    · rename_i hz
      cases e; cases h1.str
      exact call_len pins s σ H _ us Q I rx ⟨_, _, rfl, ⟨hz, rfl⟩, q _ _ out_int⟩
    · cases e
  · cases e
    obtain ⟨a, ys, rfl, f, r1⟩ := h1.tup
    exact call_len pins s σ H _ us Q I rx ⟨_, _, rfl, .inr ⟨ys, f, rfl⟩, by rw [r1.len]; exact q _ _ out_int⟩
  · cases e
    obtain ⟨a, ys, rfl, f, r1⟩ := h1.lst
    exact call_len pins s σ H _ us Q I rx ⟨_, _, rfl, .inl ⟨ys, SqL.of f, rfl⟩, by rw [r1.len]; exact q _ _ out_int⟩
  · cases e
    cases h1 with
    | v h1 => cases h1 with
      | scr f => exact call_len pins s σ H _ us Q I rx ⟨_, _, rfl, .inl ⟨_, f.l, rfl⟩, by rw [List.length_map]; exact q _ _ out_int⟩
  · cases e
    obtain ⟨a, ys, rfl, f, i, r1⟩ := h1.dk
    obtain ⟨u, rfl, ru⟩ := vals1 rx
    cases ru
    have hl := r1.len
    simp only [List.length_map] at hl
    refine d_len I f fun tk s' I' => ⟨.int ys.length, H, I', ⟨tk, rfl⟩, by rw [hl]; exact q _ _ out_int⟩
  · cases e
theorem fn_tuple : CallR X (.type "tuple") (rFn1 X.K tupT) := by
  intro pins s σ H xs us Q I rx h
  obtain ⟨ρ, L, v, t, r, rfl, m, h1, e, q⟩ := h
  unfold tupT at e
  split at e
  · cases e
    obtain ⟨a, ys, rfl, f, r1⟩ := h1.tupA
    exact call_tuple_of pins s σ H _ us Q I rx ⟨_, ys, rfl, .inr ⟨f.sq, q _ _ ⟨Same.refl H, .tup f r1⟩⟩⟩
  · cases e
    obtain ⟨a, ys, rfl, f, r1⟩ := h1.lst
    exact call_tuple_of pins s σ H _ us Q I rx ⟨_, ys, rfl, .inl ⟨SqL.of f, fun p hp => q _ _ (out_tup m hp r1)⟩⟩
  · cases e
theorem fn_list : CallR X (.type "list") (rFn1 X.K lstT) := by
  intro pins s σ H xs us Q I rx h
  obtain ⟨ρ, L, v, t, r, rfl, m, h1, e, q⟩ := h
  unfold lstT at e
  split at e
  · cases e
    obtain ⟨a, ys, rfl, f, r1⟩ := h1.tup
    exact call_list_of pins s σ H _ us Q I rx ⟨_, ys, rfl, .inr f, fun p hp => q _ _ ⟨p, _, rfl, hp, rfl, r1⟩⟩
  · cases e
    obtain ⟨a, ys, rfl, f, r1⟩ := h1.lst
    exact call_list_of pins s σ H _ us Q I rx ⟨_, ys, rfl, .inl (SqL.of f), fun p hp => q _ _ ⟨p, _, rfl, hp, rfl, r1⟩⟩
  · cases e
theorem fn_all (hc : X.calm = true) : CallR X (.builtin "all") (rFn1 X.K allT) := by
  intro pins s σ H xs us Q I rx h
  obtain ⟨ρ, L, v, t, r, rfl, m, h1, e, q⟩ := h
  unfold allT at e
  split at e
  · rw [Option.map_eq_some_iff] at e
    obtain ⟨bs, e, rfl⟩ := e
    obtain ⟨a, ys, rfl, f, r1⟩ := h1.lst
    exact cr_all hc pins s σ H _ us Q I rx ⟨a, bs, rfl, by rw [← r1.allB e]; exact SqL.of f, q _ _ out_bl⟩
  · cases e
theorem fn_any (hc : X.calm = true) : CallR X (.builtin "any") (rFn1 X.K anyT) := by
  intro pins s σ H xs us Q I rx h
  obtain ⟨ρ, L, v, t, r, rfl, m, h1, e, q⟩ := h
  unfold anyT at e
  split at e
  · rw [Option.map_eq_some_iff] at e
    obtain ⟨bs, e, rfl⟩ := e
    obtain ⟨a, ys, rfl, f, r1⟩ := h1.lst
    exact cr_any hc pins s σ H _ us Q I rx ⟨a, bs, rfl, by rw [← r1.allB e]; exact SqL.of f, q _ _ out_bl⟩
  · cases e
theorem fn_int : CallR X (.type "int") (rFn1 X.K intT) := by
  intro pins s σ H xs us Q I rx h
  obtain ⟨ρ, L, v, t, r, rfl, m, h1, e, q⟩ := h
  unfold intT at e
  split at e
  · cases e; cases h1.int
    exact call_int1 pins s σ H _ us Q I rx (.inl ⟨_, rfl, q _ _ out_int⟩)
  · cases e; cases h1.bl
    exact call_int1 pins s σ H _ us Q I rx (.inr ⟨_, rfl, q _ _ out_int⟩)
  · cases e
theorem fn_abs : CallR X (.builtin "abs") (rFn1 X.K absT) := by
  intro pins s σ H xs us Q I rx h
  obtain ⟨ρ, L, v, t, r, rfl, m, h1, e, q⟩ := h
  unfold absT at e
  split at e
  · cases e; cases h1.int
    exact call_abs pins s σ H _ us Q I rx ⟨_, rfl, q _ _ out_int⟩
  · cases e
mutual
/-- a tree that is data is read off the heap -/
theorem Rp.reads {pins : List (Addr × Obj)} {σ : St} {s : Shared} (I : Inv X pins σ H s) (sm : H sysModules = none) : ∀ {t : T} {v : V} {u : Value} {d : PyData}, Rp X.K ρ L H v t → t.pd = some d → RelV v u → ∃ as, Reads s.heap u d as ∧ sysModules ∉ as
  | .non, _, _, _, h, e, r => by cases h; simp only [T.pd, Option.some.injEq] at e; subst e; cases r; exact ⟨_, Reads.none, by simp⟩
  | .bl b, _, _, _, h, e, r => by cases h; simp only [T.pd, Option.some.injEq] at e; subst e; cases r; exact ⟨_, Reads.bool b, by simp⟩
  | .int i, _, _, _, h, e, r => by cases h; simp only [T.pd, Option.some.injEq] at e; subst e; obtain ⟨t, rfl⟩ := r; exact ⟨_, Reads.int i t, by simp⟩
  | .str i, _, _, _, h, e, r => by cases h; simp only [T.pd, Option.some.injEq] at e; subst e; obtain ⟨t, rfl⟩ := r; exact ⟨_, Reads.str i t, by simp⟩
  | .tup l, _, _, _, h, e, r => by
    cases h with
    | tup q rr =>
      simp only [T.pd, Option.map_eq_some_iff] at e
      obtain ⟨ds, e, rfl⟩ := e
      cases r
      obtain ⟨its, rv, ⟨o, ho, hc, n, hd⟩, _⟩ := I.tuple q.sq
      obtain ⟨as, hr, hs⟩ := RpL.reads I sm rr e rv
      exact ⟨_, Reads.tuple ho hc hd hr, hs⟩
  | .lst l, _, _, _, h, e, r => by
    cases h with
    | lst q n rr =>
      simp only [T.pd, Option.map_eq_some_iff] at e
      obtain ⟨ds, e, rfl⟩ := e
      cases r
      obtain ⟨its, rv, ⟨o, n, ho, hc, _, hd⟩, _⟩ := I.list (SqL.of q)
      obtain ⟨as, hr, hs⟩ := RpL.reads I sm rr e rv
      refine ⟨_, Reads.list ho hc hd hr, fun m => ?_⟩
      rcases List.mem_cons.mp m with m | m
      · rw [m, q] at sm; cases sm
      · exact hs m
  | .dk l, _, _, _, h, e, r => by
    cases h with
    | dk q n i rr =>
      simp only [T.pd, Option.map_eq_some_iff] at e
      obtain ⟨ds, e, rfl⟩ := e
      cases r
      obtain ⟨_, hne, vs, kv, dd⟩ := dk_rd I.hok q
      obtain ⟨o, es, ep, ho, hex, hd, _, hp, _⟩ := dd
      obtain ⟨as, bs, ha, hr, hb, hs⟩ := Rpk.reads I sm (ks := l) i rr e kv hp
      refine ⟨_, Reads.dict ho hex.1 hd ha hr, fun m => ?_⟩
      rcases List.mem_append.mp m with m | m
      · rcases List.mem_cons.mp m with m | m
        · rcases q with q | ⟨_, q⟩ <;> (rw [m, q] at sm; cases sm)
        · exact hb m
      · exact hs m
  | .dt l, _, _, _, h, e, _ => by simp [T.pd] at e
  | .scr l, _, _, _, h, e, _ => by simp [T.pd] at e
  | .ref l, _, _, _, h, e, _ => by simp [T.pd] at e
theorem RpL.reads {pins : List (Addr × Obj)} {σ : St} {s : Shared} (I : Inv X pins σ H s) (sm : H sysModules = none) : ∀ {ts : List T} {vs : List V} {us : List Value} {ds : List PyData}, RpL X.K ρ L H vs ts → T.pds ts = some ds → Vals vs us → ∃ as, ReadsAll s.heap us ds as ∧ sysModules ∉ as
  | [], _, _, _, h, e, r => by cases h; simp only [T.pds, Option.some.injEq] at e; subst e; cases r; exact ⟨_, ReadsAll.nil, by simp⟩
  | t :: ts, _, _, _, h, e, r => by
    cases h with
    | cons h1 h2 =>
      cases r with
      | cons r1 r2 =>
        simp only [T.pds] at e
        cases e1 : t.pd with
        | none => rw [e1] at e; cases e
        | some d =>
          cases e2 : T.pds ts with
          | none => rw [e1, e2] at e; cases e
          | some ds =>
            rw [e1, e2] at e
            simp only [Option.some.injEq] at e
            subst e
            obtain ⟨as, q1, s1⟩ := Rp.reads I sm h1 e1 r1
            obtain ⟨bs, q2, s2⟩ := RpL.reads I sm h2 e2 r2
            exact ⟨_, ReadsAll.cons q1 q2, fun m => (List.mem_append.mp m).elim s1 s2⟩
theorem Rpk.reads {pins : List (Addr × Obj)} {σ : St} {s : Shared} (I : Inv X pins σ H s) (sm : H sysModules = none) : ∀ {ks : List (Key × T)} {kvs : List (Key × V)} {es : List DictEntry} {vs : List (Key × Value)} {ds : List (PyData × PyData)},
    kvs.map (·.1) = ks.map (·.1) → RpL X.K ρ L H (kvs.map (·.2)) (ks.map (·.2)) → T.pdk ks = some ds → KV kvs vs → Pairs (mixKind X.prog X.w) es vs →
    ∃ as bs, ReadsAll s.heap (es.map (·.key)) (ds.map (·.1)) as ∧ ReadsAll s.heap (es.map (·.val)) (ds.map (·.2)) bs ∧ sysModules ∉ as ∧ sysModules ∉ bs
  | [], [], _, _, _, _, h, e, r, p => by simp only [T.pdk, Option.some.injEq] at e; subst e; cases r; cases p; exact ⟨_, _, ReadsAll.nil, ReadsAll.nil, by simp, by simp⟩
  | (k, t) :: ks, kv :: kvs, _, _, _, i, h, e, r, p => by
    cases r with
    | cons r1 r2 =>
      cases p with
      | cons p1 p2 p3 =>
        cases h with
        | cons h1 h2 =>
          simp only [T.pdk] at e
          cases e1 : t.pd with
          | none => rw [e1] at e; cases e
          | some d =>
            cases e2 : T.pdk ks with
            | none => rw [e1, e2] at e; cases e
            | some ds =>
              rw [e1, e2] at e
              simp only [Option.some.injEq] at e
              subst e
              simp only [List.map_cons, List.cons.injEq] at i
              obtain ⟨as, bs, q1, q2, s1, s2⟩ := Rpk.reads I sm i.2 h2 e2 r2 p3
              obtain ⟨cs, q3, s3⟩ := Rp.reads I sm h1 e1 r1.2
              have hk := p1
              rw [← r1.1, i.1] at hk
              simp only [List.map_cons]
              rw [p2]
              rcases keyIs_shape hk with ⟨j, tk, rfl, ek⟩ | ⟨x, tk, rfl, ek⟩
              · rw [ek]
                exact ⟨_, _, ReadsAll.cons (Reads.int j tk) q1, ReadsAll.cons q3 q2, fun m => (List.mem_append.mp m).elim (by simp) s1, fun m => (List.mem_append.mp m).elim s3 s2⟩
              · rw [ek]
                exact ⟨_, _, ReadsAll.cons (Reads.str x tk) q1, ReadsAll.cons q3 q2, fun m => (List.mem_append.mp m).elim (by simp) s1, fun m => (List.mem_append.mp m).elim s3 s2⟩
  | [], _ :: _, _, _, _, i, _, _, _, _ => by simp at i
  | _ :: _, [], _, _, _, i, _, _, _, _ => by simp at i
end
theorem fn_repr (hg : X.A.guards = some []) (hu : X.A.units + 65 < cLine) (sm : ∃ o, X.base.get? sysModules = some o) : CallR X (.builtin "repr") (rFn1 X.K reprT) := by
  intro pins s σ H xs us Q I rx h
  obtain ⟨ρ, L, v, t, r, rfl, m, h1, e, q⟩ := h
  have sm' : H sysModules = none := by obtain ⟨o, e⟩ := sm; exact (I.bs _ o e).2
  unfold reprT at e
  split at e
  · rename_i d e1
    split at e
    · rename_i hz
      cases e
      obtain ⟨u, rfl, rv⟩ := vals1 rx
      have fin : ∀ {h' : Heap} {tk : Nat} {z : Tok}, (∀ b o, s.heap.get? b = some o → h'.get? b = some o) → EP X pins σ Q (.str d.shown z) { s with heap := h', toks := tk } := fun {h' tk z} k =>
        ⟨.str d.shown, H, I.kept k, ⟨z, rfl⟩, q _ _ out_str⟩
      have refl : ∀ b o, s.heap.get? b = some o → s.heap.get? b = some o := fun _ _ e => e
      have big : ∀ {a : Addr}, u = .ref a → (∃ as, Reads s.heap (.ref a) d as ∧ sysModules ∉ as) → wpAny (model X.prog X.w) X.A (call (.builtin "repr") [u]) (EP X pins σ Q) X.xe s := by
        intro a hu' ⟨as, r, hm⟩
        subst hu'
        exact repr_of_reads' r hz.1 (fun _ => hm) hg (by omega) refl (fun h' z tk k => fin k) hz.2.1
      cases t with
      | non => simp only [T.pd, Option.some.injEq] at e1; subst e1; cases h1.non; cases rv; exact P.repr_of_none (fin refl)
      | bl b => simp only [T.pd, Option.some.injEq] at e1; subst e1; cases h1.bl; cases rv; exact P.repr_of_bool (fin refl)
      | int i =>
        simp only [T.pd, Option.some.injEq] at e1; subst e1; cases h1.int; obtain ⟨z, rfl⟩ := rv
        exact P.repr_of_int (by have := hz.1; simpa only [PyData.showable, decide_eq_true_eq] using this) (fin refl)
      | str x => simp only [T.pd, Option.some.injEq] at e1; subst e1; cases h1.str; obtain ⟨z, rfl⟩ := rv; exact P.repr_of_str (fin refl) hz.2.1
      | tup l =>
        cases h1 with
        | v h1 => obtain ⟨as, r, hm⟩ := h1.reads I sm' e1 rv; cases h1; cases rv; exact big rfl ⟨as, r, hm⟩
      | lst l =>
        obtain ⟨a, ys, rfl, f, r1⟩ := h1.lst
        have r1' : Rp X.K ρ (fun _ => False) H (.ref a) (.lst l) := .lst f (fun z => z) (r1.sub fun _ z => z.elim)
        obtain ⟨as, r, hm⟩ := r1'.reads I sm' e1 rv
        cases rv
        exact big rfl ⟨as, r, hm⟩
      | dk l =>
        obtain ⟨a, ys, rfl, f, i, r1⟩ := h1.dk
        have r1' : Rp X.K ρ (fun _ => False) H (.ref a) (.dk l) := .dk f (fun z => z) i (r1.sub fun _ z => z.elim)
        obtain ⟨as, r, hm⟩ := r1'.reads I sm' e1 rv
        cases rv
        exact big rfl ⟨as, r, hm⟩
      | dt l => simp [T.pd] at e1
      | scr l => simp [T.pd] at e1
      | ref l => simp [T.pd] at e1
    · cases e
  · cases e
theorem fn_min2 (hc : X.calm = true) : CallR X (.builtin "min") (rFn2 X.K min2T) := by
  intro pins s σ H xs us Q I rx h
  obtain ⟨ρ, L, v, w, t, u, r, rfl, m, h1, h2, e, q⟩ := h
  unfold min2T at e
  split at e
  · cases e; cases h1.int; cases h2.int
    exact call_min2 hc pins s σ H _ us Q I rx ⟨_, _, rfl, q _ _ out_int⟩
  · cases e
theorem fn_max2 (hc : X.calm = true) : CallR X (.builtin "max") (rFn2 X.K max2T) := by
  intro pins s σ H xs us Q I rx h
  obtain ⟨ρ, L, v, w, t, u, r, rfl, m, h1, h2, e, q⟩ := h
  unfold max2T at e
  split at e
  · cases e; cases h1.int; cases h2.int
    exact call_max2 hc pins s σ H _ us Q I rx ⟨_, _, rfl, q _ _ out_int⟩
  · cases e
end
end L2.TV

/-! set(xs) of a list: the call around the loop; sets of ints. -/
namespace L2.TV
open PySem PySem.Spec PyProof.Rows
/-- an empty set as set.__new__ makes it -/
abbrev set0 (w : World) : Obj := { cls := .type "set", dict := none, data := .set #[] 0 (.fresh 0 0 (!w.params.followText "set-order")) }
/-- .. with the list's iterator behind it -/
abbrev setIt (w : World) (h : Heap) (l : Addr) : Heap := (h.push (set0 w)).push { cls := .type "list_iterator", data := .fields #[.ref l, .int 0 0] }
section
variable {P : Program} {w : World} {A : Around} {E : Value → Shared → Prop} {s : Shared}
set_option maxHeartbeats 3200000 in
theorem call_set_of {l : Addr} {its : Array Value} {Q : Value → Shared → Prop} {Dn : Shared → Prop} (hh : A.handled = none) (hl : s.heap.IsList l its)
    (loop : ∀ B : Around, B.handled = none → B.in1.units ≤ A.units + 3 → codeAny (model P w) B (.builtin "set.update.loop" ⟨[.ref s.heap.objs.size, .ref (s.heap.objs.size + 1)], []⟩)
      (fun r s' => r = .ok (.ret .none) ∧ Dn s') { s with heap := setIt w s.heap l })
    (fin : ∀ s', Dn s' → Q (.ref s.heap.objs.size) s') : wpAny (model P w) A (call (.type "set") [.ref l]) Q E s := by
  obtain ⟨mc, mt, hm⟩ := F.called_set.mro
  have u1 := F.called_set.made
  have u2 := F.called_set.sub
  have u3 := F.called_set.notType
  have u4 := F.called_set.canCreate
  have u5 := F.typeCall_set_1 (.ref l)
  refine wpAny_call (codeAny_of_tree ?_)
  show wpAny _ _ (callAny (.type "set") _) _ _ _
  refine wpAny_pure ⟨Code.quiet_builtin _ (by decide +kernel), codeAny_builtin F.entry_type_call ?_⟩
  rw [Around.under_plain (weight_type_call_type "set" [.ref l] []) rfl]
  repeat (any_goals (first | assumption | wp_step))
  refine codeAny_mono (code_set_led1 (.ref l) (E := E) (Q₁ := fun v z => v = .ref s.heap.objs.size ∧ z = { s with heap := s.heap.push (set0 w) }) ⟨rfl, rfl⟩) fun r1 z1 k1 => ?_
  match r1, k1 with
  | .error _, k => exact k
  | .ok .next, k => exact k.elim
  | .ok .brk, k => exact k.elim
  | .ok .cont, k => exact k.elim
  | .ok (.ret v), k =>
    obtain ⟨rfl, rfl⟩ := k
    have at0 : (s.heap.push (set0 w)).get? s.heap.objs.size = some (set0 w) := Heap.get?_push_size _ rfl
    have ty : Shared.TypeIs { s with heap := s.heap.push (set0 w) } (.ref s.heap.objs.size) "set" := ⟨_, at0, rfl⟩
    have u6 := F.called_set.init.lookup
    have u7 := F.called_set.init.bind (.ref s.heap.objs.size)
    repeat (any_goals (first | assumption | wp_step))
    refine codeAny_mono (codeAny_call_builtin (R := wants (fun v z => v = .none ∧ Dn z) E) F.called_set.init.plain F.entry_set_init (check_set_init_1 ty ?_)) fun r2 z2 k2 => ?_
    · obtain ⟨⟨lc, ld, ldt, lsl⟩, ho, hc, n, hd⟩ := hl
      simp only at hc hd
      subst hc hd
      have at1 : (s.heap.push (set0 w)).get? l = some { cls := .type "list", dict := ld, data := .seq its n, slots := lsl } := Heap.get?_push_of_some _ ho
      have f1 := F.sub_list_set
      have f2 := F.sub_list_frozenset
      have f3 : (Value.type "list" == Value.type "dict") = false := by decide
      have isl : (s.heap.push (set0 w)).IsList l its := ⟨_, at1, rfl, n, rfl⟩
      unfold Builtin.«set.__init__» noKeywords Builtin.Frozenset.updateFrom
      generalize hPI : pyIter = PI
      wp_walk
      subst hPI
      refine wpAny_pyIter_list isl ?_
      refine wpAny_bind (wpAny_runValue ?_)
      have sz : (s.heap.push (set0 w)).objs.size = s.heap.objs.size + 1 := Heap.size_push ..
      have lp := fun B a b => loop B a b
      rw [← sz] at lp
      refine codeAny_mono (lp _ (by simp [hh]) ?units) fun r3 z3 k3 => ?main
      case units => exact Nat.le_refl _
      case main =>
        obtain ⟨rfl, d⟩ := k3
        show wpAny _ _ _ _ _ _
        refine wpAny_pure ?_
        show wpAny _ _ (ret Value.none) _ _ _
        exact wpAny_pure ⟨rfl, d⟩
    · match r2, k2 with
      | .error _, k => exact k
      | .ok .next, k => exact k.elim
      | .ok .brk, k => exact k.elim
      | .ok .cont, k => exact k.elim
      | .ok (.ret v), k =>
        obtain ⟨rfl, d⟩ := k
        repeat (any_goals (first | assumption | wp_step))
        exact fin _ d
end
end L2.TV

set_option maxHeartbeats 1000000
/-! Sets of tuples of strings. -/
namespace L2.TV
open PySem PySem.Spec PyProof.Rows
abbrev PKs := List (Addr × List Str)
/-- at b stands a tuple of these strings -/
abbrev TStr (P : Program) (w : World) (h : Heap) (k : List Str) (b : Addr) : Prop := IsTupleKey (PySem.strKind P w) h k b
abbrev hsh (P : Program) (w : World) (k : List Str) : Int := tupleKeyHash (PySem.strKind P w) k
def entsOf (P : Program) (w : World) (L : PKs) : List (Int × Value) := L.map fun q => (hsh P w q.2, Value.ref q.1)
theorem strs_of {P : Program} {w : World} {k : List Str} {vs : List Value} (h : ItemsAre (PySem.strKind P w) k vs) : ∀ v ∈ vs, ∃ x t, v = Value.str x t := by
  induction h with
  | nil => intro v hv; cases hv
  | cons a _ ih =>
    obtain ⟨t, rfl⟩ := Value.isStrOf_shape a
    intro v hv
    rcases List.mem_cons.mp hv with rfl | hv
    · exact ⟨_, _, rfl⟩
    · exact ih v hv
section
variable {P : Program} {w : World} {A : Around} {E : Value → Shared → Prop} {s : Shared}
theorem noClass {k : List Str} {b : Addr} {Q : Bool → Shared → Prop} (hk : TStr P w s.heap k b) (h : Q false s) : wpAny (model P w) A (ofAClassStatement 8 (.ref b)) Q E s := by
  have ty := hk.typeIs
  obtain ⟨o, its, n, ho, _, hd, hi⟩ := hk
  have all := strs_of hi
  have q : ∀ m x t, ofAClassStatement m (.str x t) = pure false := fun m x t => by cases m <;> rfl
  unfold ofAClassStatement
  refine wpAny_bind (wpAny_typeOf ty ?_)
  dsimp only
  simp only [show (("tuple" : String) == "tuple") = true by decide, if_true, Bool.not_true, Bool.false_eq_true, if_false]
  try refine wpAny_bind (wpAny_pure ?_)
  try simp only [Bool.not_true, Bool.false_eq_true, if_false]
  refine wpAny_bind (m := seqItems? (.ref b)) (wpAny_seqItems ho hd ?_)
  dsimp only
  refine wpAny_bind ?_
  show wpAny _ _ (forIn its _ _) _ _ s
  rw [← Array.forIn_toList]
  refine wpAny_forIn_list _ (fun rest r z => (r.1 = none ∧ z = s) ∧ ∀ v ∈ rest, ∃ x t, v = Value.str x t) _ ?_ ?_ _ _ ⟨⟨rfl, rfl⟩, all⟩
  · intro v rest r z ⟨⟨a1, a2⟩, a3⟩
    subst a2
    obtain ⟨x, t, rfl⟩ := a3 _ List.mem_cons_self
    rw [q]
    refine wpAny_bind (wpAny_pure ?_)
    simp only [Bool.false_eq_true, if_false]
    exact wpAny_pure ⟨⟨rfl, rfl⟩, fun u m => a3 u (List.mem_cons_of_mem _ m)⟩
  · intro r z ⟨⟨a1, a2⟩, _⟩
    obtain ⟨r1, r2⟩ := r
    simp only at a1
    subst a1 a2
    exact wpAny_pure h
/-- by value or not: some answer, and nothing changes -/
theorem byVal {k : List Str} {b : Addr} {Q : Bool → Shared → Prop} (hk : TStr P w s.heap k b) (h : ∀ c, Q c s) : wpAny (model P w) A (hashByValue 8 (.ref b)) Q E s := by
  have ty := hk.typeIs
  obtain ⟨o, its, n, ho, _, hd, hi⟩ := hk
  have all := strs_of hi
  have q : ∀ m x t, hashByValue m (.str x t) = pure false := fun m x t => by cases m <;> rfl
  unfold hashByValue
  refine wpAny_bind (wpAny_specialOf ty F.slot_tuple_hash.lookup ?_)
  refine wpAny_bind (m := seqItems? (.ref b)) (wpAny_seqItems ho hd ?_)
  refine wpAny_bind ?_
  show wpAny _ _ (forIn its _ _) _ _ s
  rw [← Array.forIn_toList]
  refine wpAny_forIn_list _ (fun rest r z => (r.1 = none ∧ z = s) ∧ ∀ v ∈ rest, ∃ x t, v = Value.str x t) _ ?_ ?_ _ _ ⟨⟨rfl, rfl⟩, all⟩
  · intro v rest r z ⟨⟨a1, a2⟩, a3⟩
    subst a2
    obtain ⟨x, t, rfl⟩ := a3 _ List.mem_cons_self
    rw [q]
    refine wpAny_bind (wpAny_pure ?_)
    simp only [Bool.not_false, if_true]
    exact wpAny_pure (wpAny_pure (h false))
  · intro r z ⟨⟨a1, a2⟩, _⟩
    obtain ⟨r1, r2⟩ := r
    simp only at a1
    subst a1 a2
    exact wpAny_pure (h true)
end
end L2.TV

set_option maxHeartbeats 1000000
namespace L2.TV
open PySem PySem.Spec PyProof.Rows
section
variable {P : Program} {w : World} {A : Around} {E : Value → Shared → Prop} {s : Shared}
theorem unseen {k : List Str} {b : Addr} {Q : Bool → Shared → Prop} (hk : TStr P w s.heap k b) {ys : List Value} (hy : ∀ y ∈ ys, ∃ c k', TStr P w s.heap k' c ∧ y = Value.ref c) (h : Q false s) :
    wpAny (model P w) A (searchCouldBeSeen (.ref b) ys) Q E s := by
  unfold searchCouldBeSeen
  refine wpAny_bind ?_
  refine wpAny_forIn_list _ (fun rest r z => (z = s ∧ r.1 = none) ∧ ∀ y ∈ rest, ∃ c k', TStr P w s.heap k' c ∧ y = Value.ref c) _ (fun v rest r z hz => ?_) (fun r z hz => ?_) _ _ ⟨⟨rfl, rfl⟩, hy⟩
  · obtain ⟨⟨rfl, _⟩, all⟩ := hz
    obtain ⟨c, k', hc, rfl⟩ := all _ List.mem_cons_self
    have nx : ∀ y ∈ rest, ∃ c k', TStr P w z.heap k' c ∧ y = Value.ref c := fun u m => all u (List.mem_cons_of_mem _ m)
    dsimp only
    by_cases e : (b == c || (carriedByValue (.ref b) && carriedByValue (.ref c))) = true
    · exact wp_if_pos e (wpAny_pure ⟨⟨rfl, rfl⟩, nx⟩)
    · refine wp_if_neg e (wpAny_bind (wpAny_eqIsQuiet_tuple hk ?_))
      simp only [Bool.not_true, Bool.false_eq_true, if_false]
      refine wpAny_bind (wpAny_eqIsQuiet_tuple hc ?_)
      simp only [Bool.not_true, Bool.false_eq_true, if_false]
      refine wpAny_bind (noClass hk ?_)
      simp only [Bool.false_eq_true, if_false]
      refine wpAny_bind (noClass hc ?_)
      simp only [Bool.false_eq_true, if_false]
      exact wpAny_pure ⟨⟨rfl, rfl⟩, nx⟩
  · obtain ⟨⟨rfl, e⟩, _⟩ := hz
    obtain ⟨r1, r2⟩ := r
    simp only at e
    subst e
    exact wpAny_pure h
/-- the set at a: its entries L, in the table's order -/
structure SetS (P : Program) (w : World) (h : Heap) (a : Addr) (L : PKs) (es : Array (Int × Value)) (ep : Nat) (t : SetTable) : Prop where
  obj : ∃ o, (h.get? a = some o ∧ o.data = .set es ep t) ∧ o.ExactSet
  ent : es.toList = entsOf P w L
  tb : TabOk t (L.map fun q => hsh P w q.2)
  one : (L.map (·.2)).Nodup
  at' : ∀ q ∈ L, TStr P w h q.2 q.1
  led : w.params.followText "set-order" = true ∨ t.led = true
  fill : L.length * 5 < t.mask * 3
variable {a : Addr} {L : PKs} {es : Array (Int × Value)} {ep : Nat} {t : SetTable}
theorem ents_len (e : es.toList = entsOf P w L) : es.size = L.length := by
  have := congrArg List.length e
  simpa [entsOf] using this
theorem ents_at (e : es.toList = entsOf P w L) {i : Nat} {q : Addr × List Str} (h : L[i]? = some q) : es[i]? = some (hsh P w q.2, Value.ref q.1) := by
  rw [← Array.getElem?_toList, e, entsOf, List.getElem?_map, h]
  rfl
theorem tab_fits (e : es.size = L.length) (T : TabOk t (L.map fun q => hsh P w q.2)) (hf : L.length ≤ t.mask) : t.fits es.size = true := by
  have := T.sz
  simp only [List.length_map] at this
  simp only [SetTable.fits, SetTable.fill, T.dm, Bool.and_eq_true, beq_iff_eq, decide_eq_true_eq]
  refine ⟨by omega, ?_⟩
  show t.place.size + 0 ≤ t.mask
  omega
theorem SetS.fits (R : SetS P w h a L es ep t) : t.fits es.size = true := tab_fits (ents_len R.ent) R.tb (by have := R.fill; omega)
theorem nth_clean (m : Nat) : ∀ (n : Nat) (p : SetTable.Probe), p.dummy = none → (nth m p n).dummy = none
  | 0, _, h => h
  | n + 1, p, h => nth_clean m n (adv m p) (by unfold adv; split <;> exact h)
/-- from the c-th place of the way on; K: the first empty one -/
theorem search_on {x : Addr} {k : List Str} (R : SetS P w s.heap a L es ep t) (hx : TStr P w s.heap k x) (hu : A.units < cLine) {K : Nat} (hK1 : K < 10 * SetTable.turns t.mask) (hK2 : way t.mask (hsh P w k) K ∉ t.place.toList)
    (hK3 : ∀ c, c < K → way t.mask (hsh P w k) c ∈ t.place.toList) {Q : SetFound → Shared → Prop} (yes : k ∈ L.map (·.2) → Q (.there none) s) (no : k ∉ L.map (·.2) → Q (.free (way t.mask (hsh P w k) K) false) s) :
    ∀ (f c : Nat) (st : Option SetTable.Probe), K < c + f → c ≤ K → st.getD (t.probeStart (hsh P w k)) = nth t.mask (runAt t.mask (SetTable.bits (hsh P w k) % (t.mask + 1)) (SetTable.bits (hsh P w k))) c →
      (∀ (i : Nat) q, L[i]? = some q → q.2 = k → ∃ d, c ≤ d ∧ d < K ∧ t.place.toList[i]? = some (way t.mask (hsh P w k) d)) →
      wpAny (model P w) A (setSearchFrom a (.ref x) (hsh P w k) true f st) Q E s := by
  intro f
  induction f with
  | zero => intro c st h1 h2; omega
  | succ f ih =>
    intro c st h1 h2 h3 h4
    obtain ⟨o, ⟨ho, hd⟩, hex⟩ := R.obj
    generalize hW : (fun d => nth t.mask (runAt t.mask (SetTable.bits (hsh P w k) % (t.mask + 1)) (SetTable.bits (hsh P w k))) d) = W
    have wj : ∀ d, way t.mask (hsh P w k) d = (W d).j := fun d => by rw [← hW]
    have w3 : st.getD (t.probeStart (hsh P w k)) = W c := by rw [h3, ← hW]
    have wn : ∀ d, nth t.mask (W c) d = W (c + d) := fun d => by rw [← hW]; exact (nth_add t.mask c _ d).symm
    have hsAt : ∀ (i : Nat) q, L[i]? = some q → (es[i]?.map (·.1)).getD 0 = hsh P w q.2 := fun i q e => by rw [ents_at R.ent e]; rfl
    have sp := go_spec t R.tb.ris R.tb.dm (fun i => (es[i]?.map (·.1)).getD 0) (hsh P w k) (10 * SetTable.turns t.mask) (K - c) (W c) (by rw [← hW]; exact nth_clean _ _ _ rfl) (by omega)
      (fun d hd => by rw [wn, ← wj]; exact hK3 _ (by omega)) (by rw [wn, ← wj, Nat.add_sub_cancel' h2]; exact hK2)
    simp only [wn] at sp
    rw [Nat.add_sub_cancel' h2] at sp
    have gw : ¬ t.gaveWay = true := by
      unfold SetTable.gaveWay
      rw [mask_odd R.tb.mok]
      decide
    rw [setSearchFrom_succ]
    refine wpAny_bind (wpAny_setState_of ho hd R.fits ?_)
    dsimp only
    refine wp_if_neg gw ?_
    try refine wpAny_bind (wpAny_pure ?_)
    -- none of the key's entries is passed before d
    have found : ∀ (i : Nat) q d, L[i]? = some q → q.2 = k → c ≤ d → t.place.toList[i]? = some (W d).j → ∀ d', (∀ e i' : Nat, e < d' → t.place.toList[i']? = some (W (c + e)).j → (es[i']?.map fun y => y.1).getD 0 ≠ hsh P w k) → c + d' ≤ d := fun i q d e1 e2 e3 e4 d' e5 => by
      rcases Nat.lt_or_ge d (c + d') with z | z
      · refine absurd ?_ (e5 (d - c) i (by omega) (by rw [Nat.add_sub_cancel' e3]; exact e4))
        exact (hsAt i q e1).trans (congrArg (hsh P w) e2)
      · exact z
    rcases sp with ⟨d, i, d1, d2, d3, d4, d5⟩ | ⟨d4, d5⟩
    · have pr : t.probe (fun i => (es[i]?.map (·.1)).getD 0) (hsh P w k) (st.getD (t.probeStart (hsh P w k))) = some (.candidate (W (c + d)).j i (W (c + (d + 1)))) := by rw [w3]; exact d5
      rw [pr]
      dsimp only
      have hi : i < L.length := by
        have e1 := (List.getElem?_eq_some_iff.mp d2).1
        have e2 := R.tb.sz
        simp only [List.length_map] at e2
        simp only [Array.length_toList] at e1
        omega
      obtain ⟨q, hq⟩ : ∃ q, L[i]? = some q := ⟨L[i], List.getElem?_eq_getElem hi⟩
      have hm := List.mem_of_getElem? hq
      have main : wpAny (model P w) A (searchRest a (.ref x) (hsh P w k) true f es t (W (c + d)).j i (W (c + (d + 1)))) Q E s := by
        unfold searchRest
        rw [ents_at R.ent hq]
        dsimp only
        refine wpAny_bind (wpAny_holding (wpAny_eqBool_tuple hu (R.at' q hm) hx ?_))
        refine wpAny_bind (wpAny_setState_of ho hd R.fits ?_)
        dsimp only
        by_cases ek : q.2 = k
        · exact wp_if_pos (by simp [ek]) (wpAny_pure (yes (List.mem_map.mpr ⟨q, hm, ek⟩)))
        · refine wp_if_neg (by simp [ek]) ?_
          try refine wpAny_bind (wpAny_pure ?_)
          have sl : t.slot (W (c + d)).j = .live i := slot_live R.tb.ris d2
          rw [sameMem]
          dsimp only
          simp only [if_true, sl, ents_at R.ent hq]
          refine wpAny_bind (wpAny_isSame_ref_self (wpAny_bind (wpAny_pure ?_)))
          simp only [if_true]
          refine wp_if_neg (by simp [ek]) (ih (c + (d + 1)) _ (by omega) (by omega) (by rw [← hW]; rfl) fun i' q' e1 e2 => ?_)
          obtain ⟨y, y1, y2, y3⟩ := h4 i' q' e1 e2
          have y4 := found i' q' y e1 e2 y1 (by rw [← wj]; exact y3) d d4
          refine ⟨y, ?_, y2, y3⟩
          rcases Nat.lt_or_ge (c + d) y with z | z
          · omega
          · have z' : y = c + d := by omega
            subst z'
            rw [wj] at y3
            have s0 := (slot_live R.tb.ris y3).symm.trans sl
            injection s0 with s0
            subst s0
            rw [hq] at e1
            cases e1
            exact (ek e2).elim
      by_cases hl : t.led = true
      · refine wp_if_neg (by simp [hl]) ?_
        try refine wpAny_bind (wpAny_pure ?_)
        exact main
      · refine wp_if_pos (by simp [hl]) (wpAny_bind (unseen hx (fun y hy => ?_) ?_))
        · obtain ⟨e, he, rfl⟩ := List.mem_map.mp hy
          have h1 : e ∈ es.toList := by have : e ∈ es ∧ e.1 = hsh P w k := by simpa using he
                                        simpa using this.1
          rw [R.ent, entsOf] at h1
          obtain ⟨z, hz, rfl⟩ := List.mem_map.mp h1
          exact ⟨_, _, R.at' z hz, rfl⟩
        · refine wp_if_neg (by decide) ?_
          try refine wpAny_bind (wpAny_pure ?_)
          exact main
    · have pr : t.probe (fun i => (es[i]?.map (·.1)).getD 0) (hsh P w k) (st.getD (t.probeStart (hsh P w k))) = some (.empty (W K).j none) := by rw [w3]; exact d5
      rw [pr]
      dsimp only
      refine wpAny_pure ?_
      rw [← wj]
      refine no fun hm => ?_
      obtain ⟨q, hq, ek⟩ := List.mem_map.mp hm
      obtain ⟨i, hi, e0⟩ := List.getElem_of_mem hq
      have e1 : L[i]? = some q := by rw [List.getElem?_eq_getElem hi, e0]
      obtain ⟨y, y1, y2, y3⟩ := h4 i q e1 ek
      have := found i q y e1 ek y1 (by rw [← wj]; exact y3) (K - c) d4
      omega
theorem search_new {x : Addr} {k : List Str} (R : SetS P w s.heap a L es ep t) (hx : TStr P w s.heap k x) (hu : A.units < cLine) {Q : SetFound → Shared → Prop} (yes : k ∈ L.map (·.2) → Q (.there none) s)
    (no : ∀ K, k ∉ L.map (·.2) → way t.mask (hsh P w k) K ∉ t.place.toList → (∀ c, c < K → way t.mask (hsh P w k) c ∈ t.place.toList) → Q (.free (way t.mask (hsh P w k) K) false) s) :
    wpAny (model P w) A (setSearch a (.ref x) (hsh P w k) true) Q E s := by
  have hf := R.fill
  obtain ⟨K, k1, k2, k3⟩ := R.tb.first (by simp only [List.length_map]; omega) (hsh P w k)
  have : K < 100000 := by
    have : 10 * SetTable.turns t.mask < 2000 := by
      unfold SetTable.turns
      rcases R.tb.mok with e | e | e <;> omega
    omega
  refine search_on R hx hu k1 k2 k3 yes (fun n => no K n k2 k3) 100000 0 none (by omega) (Nat.zero_le _) rfl fun i q e1 e2 => ?_
  have e3 : (L.map fun q => hsh P w q.2)[i]? = some (hsh P w k) := by rw [List.getElem?_map, e1, ← e2]; rfl
  have e4 : i < t.place.toList.length := by
    have z := R.tb.sz
    have z2 := (List.getElem?_eq_some_iff.mp e1).1
    simp only [List.length_map] at z
    simp only [Array.length_toList]
    omega
  obtain ⟨d, d1, d2⟩ := R.tb.before k2 e3 (List.getElem?_eq_getElem e4)
  exact ⟨d, Nat.zero_le _, d1, by rw [List.getElem?_eq_getElem e4, d2]⟩
end
end L2.TV

set_option maxHeartbeats 1000000
/-! Adding to a set of tuples of strings. -/
namespace L2.TV
open PySem PySem.Spec PyProof.Rows
theorem mem_pairs {α : Type} (l : List α) : (List.range l.length).filterMap (fun i => l[i]?) = l := by
  have key : ∀ n, n ≤ l.length → (List.range n).filterMap (fun i => l[i]?) = l.take n := by
    intro n
    induction n with
    | zero => intro _; simp
    | succ n ih =>
      intro h
      have hn : l[n]? = some l[n] := List.getElem?_eq_getElem h
      rw [List.range_succ, List.filterMap_append, ih (by omega), List.take_succ, hn]
      simp [hn]
  simpa using key l.length (Nat.le_refl _)
theorem put_mid_perm {α : Type} (l : List α) (n : Nat) (x : α) : (l.take n ++ x :: l.drop n).Perm (x :: l) := by
  have := List.perm_middle (a := x) (l₁ := l.take n) (l₂ := l.drop n)
  rwa [List.take_append_drop] at this
section
variable {P : Program} {w : World} {A : Around} {E : Value → Shared → Prop} {s : Shared}
theorem TStr.still {h h' : Heap} {k : List Str} {a b : Addr} {o : Obj} {es : Array (Int × Value)} {ep : Nat} {t : SetTable} (x : TStr P w h k b) (ho : h.get? a = some o) (hd : o.data = .set es ep t) (sb : Heap.SameBut a h h') : TStr P w h' k b := by
  obtain ⟨u, its, n, hu, c, d, r⟩ := x
  by_cases e : b = a
  · subst e
    rw [ho] at hu; cases hu
    rw [hd] at d; cases d
  · exact ⟨u, its, n, (sb.2 b e).trans hu, c, d, r⟩
theorem TStr.kept {h h' : Heap} {k : List Str} {b : Addr} (x : TStr P w h k b) (f : ∀ c o, h.get? c = some o → h'.get? c = some o) : TStr P w h' k b := by
  obtain ⟨u, its, n, hu, r⟩ := x
  exact ⟨u, its, n, f _ _ hu, r⟩
variable {a : Addr} {L : PKs} {es : Array (Int × Value)} {ep : Nat} {t : SetTable}
/-- the entries in another order -/
theorem ents_order (order : Array Nat) (hr : es.toList = entsOf P w L) (hp : order.toList.Perm (List.range L.length)) :
    ∃ L' : PKs, L'.Perm L ∧ (order.filterMap (es[·]?)).toList = entsOf P w L' ∧ (order.toList.map fun i => (es.map fun e => e.1).getD i 0) = L'.map fun q => hsh P w q.2 := by
  refine ⟨order.toList.filterMap fun i => L[i]?, ?_, ?_, ?_⟩
  · have := hp.filterMap fun i => L[i]?
    rwa [mem_pairs] at this
  · have e : (order.filterMap (es[·]?)).toList = order.toList.filterMap fun i => es[i]? := by simp
    rw [e, entsOf, List.map_filterMap]
    congr 1
    funext i
    rw [← Array.getElem?_toList, hr, entsOf, List.getElem?_map]
  · have all : ∀ i ∈ order.toList, i < L.length := fun i m => List.mem_range.mp (hp.mem_iff.mp m)
    generalize order.toList = l at all
    induction l with
    | nil => rfl
    | cons i l ih =>
      have hi := all i List.mem_cons_self
      have e1 : L[i]? = some L[i] := List.getElem?_eq_getElem hi
      have e2 := ents_at hr e1
      have e3 : (es.map fun e => e.1).getD i 0 = hsh P w L[i].2 := by
        rw [Array.getD_eq_getD_getElem?, Array.getElem?_map, e2]; rfl
      rw [List.map_cons, ih fun j m => all j (List.mem_cons_of_mem _ m), e3, List.filterMap_cons_some e1, List.map_cons]
theorem relay_new {o : Obj} (ho : s.heap.get? a = some o) (hd : o.data = .set es ep t) (hex : o.ExactSet) (hr : es.toList = entsOf P w L) (T : TabOk t (L.map fun q => hsh P w q.2)) (hf : L.length ≤ t.mask) (one : (L.map (·.2)).Nodup) (at' : ∀ q ∈ L, TStr P w s.heap q.2 q.1)
    (led : w.params.followText "set-order" = true ∨ t.led = true) {n M : Nat} (hM : SetTable.sizeAbove n = M + 1) (ok : MaskOk M) (hfill : L.length * 5 < M * 3) {Q : Unit → Shared → Prop}
    (q : ∀ h' L' es' ep' t', Heap.SameBut a s.heap h' → L'.Perm L → SetS P w h' a L' es' ep' t' → Q () { s with heap := h' }) : wpAny (model P w) A (setRelay a n) Q E s := by
  have hs := ents_len hr
  obtain ⟨t', order, r1, r2, r3, r4, r5, r6, r7⟩ := relaid_ok t (hs := es.map (·.1)) (wanted := n) (M := M) (by omega) ok (by rw [Array.size_map, hs]; omega)
  rw [Array.size_map, hs] at r2
  obtain ⟨L', p1, p2, p3⟩ := ents_order order hr r2
  have M127 : M ≤ 127 := by rcases ok with e | e | e <;> omega
  have sz : (order.filterMap (es[·]?)).size = L.length := by rw [ents_len p2, p1.length_eq]
  rw [setRelay_eq]
  refine wpAny_bind (wpAny_setState_of ho hd (tab_fits hs T hf) ?_)
  dsimp only
  refine wp_if_neg (by rw [hM, sizeLine_eq]; omega) ?_
  try refine wpAny_bind (wpAny_pure ?_)
  rw [r1]
  dsimp only
  refine wpAny_bind (wp_if_neg (by rw [sz, hs]; simp) ?_)
  try refine wpAny_bind (wpAny_pure ?_)
  refine wpAny_pure ?_
  dsimp only
  refine wpAny_storeSet_of ho hd ?_ (by rw [sz, sizeLine_eq]; omega)
  have sb : Heap.SameBut a s.heap (s.heap.update a (Obj.putSet (order.filterMap (es[·]?)) t')) := Heap.SameBut.update ..
  exact q _ L' _ (ep + 1) t' sb p1
    { obj := ⟨_, ⟨store_at ho hd, rfl⟩, hex.1, hex.2.1, hex.2.2⟩
      ent := p2
      tb := p3 ▸ r3
      one := (p1.map _).nodup_iff.mpr one
      at' := fun z m => (at' z (p1.mem_iff.mp m)).still ho hd sb
      led := by rw [r5]; exact led
      fill := by rw [p1.length_eq, r4]; exact hfill }
theorem add_new {x : Addr} {k : List Str} (R : SetS P w s.heap a L es ep t) (hx : TStr P w s.heap k x) (hu : A.units < cLine) (few : k ∉ L.map (·.2) → L.length < 76) {Q : Bool → Shared → Prop}
    (q : ∀ b h' L' es' ep' t', Heap.SameBut a s.heap h' → SetS P w h' a L' es' ep' t' → ((k ∈ L.map (·.2) ∧ L' = L) ∨ (k ∉ L.map (·.2) ∧ L'.Perm ((x, k) :: L))) → Q b { s with heap := h' }) :
    wpAny (model P w) A (setAddHashed a (.ref x) (hsh P w k)) Q E s := by
  obtain ⟨o, ⟨ho, hd⟩, hex⟩ := R.obj
  have hs := ents_len R.ent
  have hfl := R.fill
  unfold setAddHashed
  refine wpAny_holding ?_
  rw [show (100000 : Nat) = 99999 + 1 from rfl, setAddHashedIn_succ]
  refine wpAny_bind (wpAny_setState_of ho hd R.fits ?_)
  dsimp only
  refine wp_if_neg (by simp [byScan, Value.scannable]) ?_
  try refine wpAny_bind (wpAny_pure ?_)
  refine wpAny_bind (search_new R hx hu (fun m => ?_) fun K m k2 k3 => ?_)
  · dsimp only
    exact wpAny_pure (q false s.heap L es ep t (Heap.SameBut.refl a s.heap) R (.inl ⟨m, rfl⟩))
  have f76 := few m
  dsimp only
  refine wpAny_bind (wpAny_setState_of ho hd R.fits ?_)
  dsimp only
  obtain ⟨z1, z2, z3, z4, z5, _, _, _, z9⟩ := R.tb.put k2 k3
  generalize hpt : t.put (way t.mask (hsh P w k) K) = pt at z1 z3 z4 z5 z9 ⊢
  obtain ⟨t1, n⟩ := pt
  dsimp only at z1 z3 z4 z5 z9 ⊢
  rw [← z1] at z2 z3
  clear z1 hpt
  -- whatever is found of the hash: the table differs in that word alone
  have go : ∀ c : Bool, wpAny (model P w) A (do
      storeSet a (SetTable.insertAt es n (hsh P w k, Value.ref x)) (if c = true then t1 else { t1 with plain := false })
      if (!false && (if c = true then t1 else { t1 with plain := false }).tooFull) = true then setRelay a (SetTable.grown (es.size + 1))
      return true) Q E s := by
    intro c
    generalize ht2 : (if c = true then t1 else { t1 with plain := false }) = t2
    have y3 : TabOk t2 ((L.map fun q => hsh P w q.2).take n ++ hsh P w k :: (L.map fun q => hsh P w q.2).drop n) := by
      subst ht2; cases c
      · exact ⟨z3.ris, z3.dm, z3.sz, z3.mok, z3.bd, z3.reach⟩
      · exact z3
    have y4 : t2.mask = t.mask := by subst ht2; cases c <;> exact z4
    have y5 : t2.led = t.led := by subst ht2; cases c <;> exact z5
    have y9 : t2.fill = L.length + 1 := by
      have z9' : t1.fill = L.length + 1 := by simpa using z9
      subst ht2; cases c <;> exact z9'
    clear ht2
    have e1 : (SetTable.insertAt es n (hsh P w k, Value.ref x)).toList = entsOf P w (L.take n ++ (x, k) :: L.drop n) := by
      rw [SetTable.toList_insertAt, R.ent]
      simp [entsOf, List.map_take, List.map_drop]
    have pm := put_mid_perm L n (x, k)
    have e3 : (L.map fun q => hsh P w q.2).take n ++ hsh P w k :: (L.map fun q => hsh P w q.2).drop n = (L.take n ++ (x, k) :: L.drop n).map fun q => hsh P w q.2 := by simp [List.map_take, List.map_drop]
    rw [e3] at y3
    have one : ((L.take n ++ (x, k) :: L.drop n).map (·.2)).Nodup := (pm.map (·.2)).nodup_iff.mpr (List.nodup_cons.mpr ⟨m, R.one⟩)
    have hl : (L.take n ++ (x, k) :: L.drop n).length = L.length + 1 := pm.length_eq
    generalize L.take n ++ (x, k) :: L.drop n = L1 at e1 pm y3 one hl
    have hs1 := ents_len e1
    generalize SetTable.insertAt es n (hsh P w k, Value.ref x) = es1 at e1 hs1 ⊢
    refine wpAny_bind (wpAny_storeSet_of ho hd ?_ (by rw [hs1, hl, sizeLine_eq]; omega))
    have sb : Heap.SameBut a s.heap (s.heap.update a (Obj.putSet es1 t2)) := Heap.SameBut.update ..
    have ho1 := store_at (es' := es1) (t' := t2) ho hd
    generalize s.heap.update a (Obj.putSet es1 t2) = h1 at sb ho1 ⊢
    have at1 : ∀ z ∈ L1, TStr P w h1 z.2 z.1 := fun z hz => by
      rcases List.mem_cons.mp (pm.mem_iff.mp hz) with rfl | hz
      · exact hx.still ho hd sb
      · exact (R.at' z hz).still ho hd sb
    have ld1 : w.params.followText "set-order" = true ∨ t2.led = true := by rw [y5]; exact R.led
    by_cases full : t2.tooFull = true
    · have f1 : t.mask * 3 ≤ (L.length + 1) * 5 := by
        simpa [SetTable.tooFull, y9, y4] using full
      have relay : ∀ M, SetTable.sizeAbove (SetTable.grown (L.length + 1)) = M + 1 → MaskOk M → (L.length + 1) * 5 < M * 3 → wpAny (model P w) A (setRelay a (SetTable.grown (L.length + 1))) (fun _ s' => wpAny (model P w) A (pure true) Q E s') E { s with heap := h1 } := fun M a1 a2 a3 =>
        relay_new (s := { s with heap := h1 }) ho1 rfl ⟨hex.1, hex.2.1, hex.2.2⟩ e1 y3 (by rw [hl, y4]; omega) one at1 ld1 a1 a2 (by rw [hl]; exact a3) fun h2 L2 es2 ep2 t3 sb2 p2 R2 =>
          wpAny_pure (q true h2 L2 es2 ep2 t3 (sb.trans sb2) R2 (.inr ⟨m, p2.trans pm⟩))
      first
        | refine wpAny_bind (wp_if_pos (by simp [full]) ?_)
        | refine wp_if_pos (by simp [full]) (wpAny_bind ?_)
      rw [hs]
      rcases R.tb.mok with e | e | e
      · have : L.length = 4 := by omega
        rw [this] at relay ⊢
        exact relay 31 (by decide +kernel) (.inr (.inl rfl)) (by omega)
      · have : L.length = 18 := by omega
        rw [this] at relay ⊢
        exact relay 127 (by decide +kernel) (.inr (.inr rfl)) (by omega)
      · omega
    · have f1 : (L.length + 1) * 5 < t.mask * 3 := by
        have := full
        simp only [SetTable.tooFull, y9, y4, ge_iff_le, decide_eq_true_eq, Nat.not_le] at this
        exact this
      first
        | refine wp_if_neg (by simp [full]) ?_
        | refine wpAny_bind (wp_if_neg (by simp [full]) (wpAny_pure ?_))
      refine wpAny_pure (q true h1 L1 es1 (ep + 1) t2 sb ?_ (.inr ⟨m, pm⟩))
      exact { obj := ⟨_, ⟨ho1, rfl⟩, hex.1, hex.2.1, hex.2.2⟩, ent := e1, tb := y3, one := one, at' := at1, led := ld1, fill := by rw [hl, y4]; exact f1 }
  by_cases pl : t1.plain = true
  · first
      | (refine wpAny_bind ?_; refine wp_if_pos pl ?_; refine byVal hx fun c => ?_)
      | refine wp_if_pos pl (wpAny_bind (byVal hx fun c => ?_))
    exact go c
  · first
      | (refine wpAny_bind ?_; refine wp_if_neg pl ?_; refine wpAny_pure ?_)
      | refine wp_if_neg pl (wpAny_bind (wpAny_pure ?_))
    exact go true
end
end L2.TV

set_option maxHeartbeats 1000000
/-! The order of tuples of strings; lists of them sorted. -/
namespace L2.TV
open PySem PySem.Spec PyProof.Rows
theorem ins_perm {α : Type} (le : α → α → Bool) (x : α) : ∀ l, (ins le x l).Perm (x :: l)
  | [] => .refl _
  | y :: l => by
    unfold ins
    split
    · exact .refl _
    · exact ((ins_perm le x l).cons y).trans (.swap x y l)
theorem isort_perm {α : Type} (le : α → α → Bool) : ∀ l, (isort le l).Perm l
  | [] => .refl _
  | x :: l => (ins_perm le x _).trans ((isort_perm le l).cons x)
theorem ins_pw {α : Type} {le : α → α → Bool} (tr : ∀ a b c, le a b = true → le b c = true → le a c = true) (tot : ∀ a b, (le a b || le b a) = true) (x : α) : ∀ {l}, l.Pairwise (fun a b => le a b = true) → (ins le x l).Pairwise (fun a b => le a b = true)
  | [], _ => List.pairwise_singleton _ _
  | y :: l, h => by
    obtain ⟨h1, h2⟩ := List.pairwise_cons.mp h
    unfold ins
    split
    · rename_i e
      refine List.pairwise_cons.mpr ⟨fun z hz => ?_, h⟩
      rcases List.mem_cons.mp hz with rfl | hz
      · exact e
      · exact tr _ _ _ e (h1 z hz)
    · rename_i e
      have e' : le y x = true := by have := tot x y; simp only [Bool.or_eq_true] at this; exact this.resolve_left e
      refine List.pairwise_cons.mpr ⟨fun z hz => ?_, ins_pw tr tot x h2⟩
      rcases List.mem_cons.mp ((ins_perm le x l).mem_iff.mp hz) with rfl | hz
      · exact e'
      · exact h1 z hz
theorem isort_pw {α : Type} {le : α → α → Bool} (tr : ∀ a b c, le a b = true → le b c = true → le a c = true) (tot : ∀ a b, (le a b || le b a) = true) : ∀ l, (isort le l).Pairwise (fun a b => le a b = true)
  | [] => .nil
  | x :: l => ins_pw tr tot x (isort_pw tr tot l)
theorem str_ext {x y : Str} (h : x.cps.toList = y.cps.toList) : x = y := by
  cases x; cases y; simp only [Str.mk.injEq]; exact Array.toList_inj.mp h
theorem ltS_irr (x : Str) : ltS x x = false := by simp [ltS, List.lt_irrefl]
theorem ltS_trans {x y z : Str} (a : ltS x y = true) (b : ltS y z = true) : ltS x z = true := by
  simp only [ltS, decide_eq_true_eq] at *; exact List.lt_trans a b
theorem ltS_tri {x y : Str} (a : ltS x y = false) (b : ltS y x = false) : x = y := by
  simp only [ltS, decide_eq_false_iff_not] at *
  exact str_ext (List.le_antisymm (List.not_lt.mp b) (List.not_lt.mp a))
theorem lexS_irr : ∀ k, lexS k k = false
  | [] => rfl
  | x :: k => by simp [lexS, lexS_irr k]
theorem lexS_tri : ∀ {k l}, lexS k l = false → lexS l k = false → k = l
  | [], [], _, _ => rfl
  | [], _ :: _, a, _ => by cases a
  | _ :: _, [], _, b => by cases b
  | x :: k, y :: l, a, b => by
    by_cases e : x = y
    · subst e
      simp only [lexS, if_true] at a b
      rw [lexS_tri a b]
    · simp only [lexS, if_neg e, if_neg (Ne.symm e)] at a b
      exact (e (ltS_tri a b)).elim
theorem lexS_trans : ∀ {k l m}, lexS k l = true → lexS l m = true → lexS k m = true
  | [], [], _, a, _ => by cases a
  | [], _ :: _, [], _, b => by cases b
  | [], _ :: _, _ :: _, _, _ => rfl
  | _ :: _, [], _, a, _ => by cases a
  | _ :: _, _ :: _, [], _, b => by cases b
  | x :: k, y :: l, z :: m, a, b => by
    by_cases e : x = y
    · subst e
      by_cases e' : x = z
      · subst e'
        simp only [lexS, if_true] at *
        exact lexS_trans a b
      · simp only [lexS, if_true, if_neg e'] at *
        exact b
    · by_cases e' : y = z
      · subst e'
        simp only [lexS, if_true, if_neg e] at *
        exact a
      · simp only [lexS, if_neg e, if_neg e'] at a b
        have c := ltS_trans a b
        have n : x ≠ z := fun h => by subst h; rw [ltS_irr] at c; cases c
        simp only [lexS, if_neg n]
        exact c
theorem lexS_asym {k l : List Str} (a : lexS k l = true) : lexS l k = false := by
  cases e : lexS l k with
  | false => rfl
  | true => have := lexS_trans a e; rw [lexS_irr] at this; cases this
theorem swoS {α : Type} (f : α → List Str) : SrtO.Swo fun v u => lexS (f v) (f u) := by
  refine ⟨fun x y h => lexS_asym h, fun x y z a b => ?_⟩
  cases e : lexS (f z) (f x) with
  | false => rfl
  | true =>
    cases e1 : lexS (f x) (f y) with
    | true => have := lexS_trans e e1; rw [this] at b; cases b
    | false =>
      have := lexS_tri a e1
      rw [this, e] at b; cases b
theorem perm_lift {α β : Type} {f : α → β} {out m : List β} (p : out.Perm m) : ∀ {l : List α}, m = l.map f → ∃ l' : List α, l'.Perm l ∧ l'.map f = out := by
  induction p with
  | nil => intro l e; exact ⟨[], by cases l <;> simp_all, rfl⟩
  | cons x _ ih =>
    intro l e
    cases l with
    | nil => simp at e
    | cons a l =>
      simp only [List.map_cons, List.cons.injEq] at e
      obtain ⟨l', h1, h2⟩ := ih e.2
      exact ⟨a :: l', h1.cons a, by simp [h2, e.1]⟩
  | swap x y l0 =>
    intro l e
    cases l with
    | nil => simp at e
    | cons a l => cases l with
      | nil => simp at e
      | cons b l =>
        simp only [List.map_cons, List.cons.injEq] at e
        exact ⟨b :: a :: l, .swap a b l, by simp [e.1, e.2.1, e.2.2]⟩
  | trans _ _ ih1 ih2 =>
    intro l e
    obtain ⟨l1, a1, a2⟩ := ih2 e
    obtain ⟨l2, b1, b2⟩ := ih1 a2.symm
    exact ⟨l2, b1.trans a1, b2⟩
section
variable {P : Program} {w : World} {A : Around} {E : Value → Shared → Prop} {s : Shared}
open Classical in
noncomputable def keyS (P : Program) (w : World) (h : Heap) (v : Value) : List Str := if e : ∃ k b, v = .ref b ∧ TStr P w h k b then e.choose else []
theorem keyS_of {h : Heap} {k : List Str} {b : Addr} (x : TStr P w h k b) : keyS P w h (.ref b) = k := by
  have e : ∃ k' b', (Value.ref b) = .ref b' ∧ TStr P w h k' b' := ⟨k, b, rfl, x⟩
  unfold keyS
  rw [dif_pos e]
  obtain ⟨b', e1, e2⟩ := e.choose_spec
  cases e1
  exact e2.inj x
def StrsOk (P : Program) (w : World) (h : Heap) (vs : List Value) : Prop := ∀ v ∈ vs, ∃ k b, v = .ref b ∧ TStr P w h k b ∧ k ≠ []
theorem katS {Q : Bool → Shared → Prop} {n m : Nat} : ∀ {k l : List Str} {vs us : List Value} {i : Nat}, ItemsAre (PySem.strKind P w) k vs → ItemsAre (PySem.strKind P w) l us → (decide (n + vs.length < m + us.length) = decide (vs.length < us.length)) →
    (∀ (h : n = m), Q (lexS k l) s) → n = m → PySem.W.KatLex P w A true (decide (n + vs.length < m + us.length)) Q (vs.zip us) i s
  | [], [], _, _, _, .nil, .nil, e, q, h => PySem.W.kat_nil (by subst h; simpa [lexS] using q rfl)
  | [], y :: l, _, _, _, .nil, .cons _ _, e, q, h => PySem.W.kat_nil (by subst h; simpa [lexS] using q rfl)
  | x :: k, [], v :: vs, _, _, .cons _ _, .nil, e, q, h => PySem.W.kat_nil (by
    subst h
    have z : ¬ n + (v :: vs).length < n + ([] : List Value).length := by simp
    rw [decide_eq_false z]
    simpa [lexS] using q rfl)
  | x :: k, y :: l, v :: vs, u :: us, i, .cons a1 a2, .cons b1 b2, e, q, h => by
    subst h
    obtain ⟨t, rfl⟩ := Value.isStrOf_shape a1
    obtain ⟨t', rfl⟩ := Value.isStrOf_shape b1
    refine PySem.W.kat_cons (SeqAt.EqAt.str_str x t y t' P w _ _ ?_)
    refine PySem.W.kat_go (fun e1 => ?_) (fun e1 => ?_)
    · have exy : x = y := by simpa using e1
      subst exy
      refine PySem.W.kat_yes ?_
      have := katS (n := n + 1) (m := n + 1) (i := i + 1) (Q := Q) a2 b2 (by simp) (fun _ => by simpa [lexS] using q rfl) rfl
      have z : decide (n + (Value.str x t :: vs).length < n + (Value.str x t' :: us).length) = decide (n + 1 + vs.length < n + 1 + us.length) := by
        simp only [List.length_cons, decide_eq_decide]
        omega
      rw [z]
      exact this
    · have exy : ¬ x = y := by simpa using e1
      have q' : Q (ltS x y) s := by simpa [lexS, exy] using q rfl
      refine PySem.W.kat_no ?_
      cases hb : (true && i == 0) with
      | true => exact oneLt_str q'
      | false => exact PySem.W.kat_one _ _ (PyProof.Rows.lt_str q')
theorem cmpS {vs : List Value} (ok : StrsOk P w s.heap vs) : SrtO.Cmp P w A s (tuples' true) (fun p => p.1 ∈ vs) (SrtO.lt2 fun v u => lexS (keyS P w s.heap v) (keyS P w s.heap u)) := by
  intro p q hm hm'
  obtain ⟨k, b, e1, x, _⟩ := ok _ hm
  obtain ⟨l, c, e2, y, _⟩ := ok _ hm'
  show wpAny (model P w) A (keyLt' (tuples' true) p.1 q.1) (fun r s' => s' = s ∧ r = lexS (keyS P w s.heap p.1) (keyS P w s.heap q.1)) (fun _ _ => False) s
  rw [e1, e2, keyS_of x, keyS_of y]
  obtain ⟨o, its, n, ho, _, hd, hi⟩ := x
  obtain ⟨o', its', n', ho', _, hd', hi'⟩ := y
  refine PySem.W.kat_lt ho hd ho' hd' ?_
  have := katS (Q := fun r s' => s' = s ∧ r = lexS k l) (n := 0) (m := 0) (i := 0) (A := A) (s := s) hi hi' (by simp) (fun _ => ⟨rfl, rfl⟩) rfl
  simpa using this
theorem firstsS {h : Heap} : ∀ {vs : List Value}, StrsOk P w h vs → ∃ fs, PySem.W.KatTups h vs fs ∧ fs.length = vs.length ∧ ∀ f ∈ fs, ∃ x t, f = Value.str x t
  | [], _ => ⟨[], PySem.W.KatTups.nil, rfl, fun f hf => nomatch hf⟩
  | v :: vs, ok => by
    obtain ⟨fs, h1, h2, h3⟩ := firstsS fun u m => ok u (List.mem_cons_of_mem _ m)
    obtain ⟨k, b, rfl, ⟨o, its, n, ho, hc, hd, hi⟩, hk⟩ := ok v List.mem_cons_self
    cases e : its.toList with
    | nil => rw [e] at hi; cases hi; exact (hk rfl).elim
    | cons f r =>
      have hm := strs_of hi f (by rw [e]; exact List.mem_cons_self)
      refine ⟨f :: fs, PySem.W.KatTups.cons ho hc hd (by rw [← Array.getElem?_toList, e]; rfl) h1, by simp [h2], fun g hg => ?_⟩
      rcases List.mem_cons.mp hg with rfl | hg
      · exact hm
      · exact h3 g hg
theorem StrsOk.keep {h h' : Heap} {vs : List Value} (ok : StrsOk P w h vs) (f : ∀ b k, TStr P w h k b → TStr P w h' k b) : StrsOk P w h' vs := fun v m => by
  obtain ⟨k, b, e, x, n⟩ := ok v m
  exact ⟨k, b, e, f _ _ x, n⟩
theorem tstr_but {h h' : Heap} {a b : Addr} {k : List Str} (x : TStr P w h k b) (ha : ∀ o, h.get? a = some o → o.cls ≠ .type "tuple") (f : ∀ c o, c ≠ a → h.get? c = some o → h'.get? c = some o) : TStr P w h' k b := by
  obtain ⟨o, its, n, ho, hc, r⟩ := x
  exact ⟨o, its, n, f _ _ (fun z => by subst z; exact ha o ho hc) ho, hc, r⟩
theorem sortableS {a : Addr} {vs : List Value} (h0 : 0 < vs.length) (ok : StrsOk P w s.heap vs) (ha : ∀ o, s.heap.get? a = some o → o.cls ≠ .type "tuple") : SrtO.SortableO P w A s a vs fun v u => lexS (keyS P w s.heap v) (keyS P w s.heap u) := by
  intro h' keep
  have tk : ∀ b k, TStr P w s.heap k b → TStr P w h' k b := fun b k x => tstr_but x ha fun c o => keep c o
  have ok' := ok.keep tk
  obtain ⟨fs, h1, h2, h3⟩ := firstsS ok'
  refine ⟨tuples' true, fun Q E hq => ?_, ?_⟩
  · refine PySem.W.kat_kind (T := .type "str") h1 (by omega) (fun f hm => ?_) (by rfl) ?_
    · obtain ⟨x, t, rfl⟩ := h3 f hm
      exact PySem.W.Looks.now
    · have e : (Value.type "str" != Value.type "tuple") = true := by first | decide +kernel | rfl | decide
      rw [e]
      exact hq
  · have := cmpS (A := A) (s := { s with heap := h' }) ok'
    intro p q hm hm'
    have e : ∀ v ∈ vs, keyS P w s.heap v = keyS P w h' v := fun v m => by
      obtain ⟨k, b, rfl, x, _⟩ := ok v m
      rw [keyS_of x, keyS_of (tk _ _ x)]
    have g := this p q hm hm'
    refine wpAny_mono g (fun r s' z => ⟨z.1, ?_⟩) fun _ _ z => z
    rw [z.2]
    show lexS (keyS P w h' p.1) (keyS P w h' q.1) = lexS (keyS P w s.heap p.1) (keyS P w s.heap q.1)
    rw [e _ hm, e _ hm']
/-- sorted(l) of tuples of strings, any number of them -/
theorem sortedS_list {l : Addr} {ks : PKs} {Q : Value → Shared → Prop} (hl : s.heap.IsList l (ks.map fun q => Value.ref q.1).toArray) (hz : ks.length ≤ sizeLine) (at' : ∀ q ∈ ks, TStr P w s.heap q.2 q.1 ∧ q.2 ≠ [])
    (h : ∀ (h' : Heap) (d : Addr) (ks' : PKs), ks'.Perm ks → (ks'.map (·.2)).Pairwise (fun k l => lexS l k = false) → (∀ b o, s.heap.get? b = some o → h'.get? b = some o) → s.heap.objs.size ≤ d → (∃ n, h'.get? d = some (seqObj "list" (ks'.map fun q => Value.ref q.1).toArray n)) → Q (.ref d) { s with heap := h' }) :
    wpAny (model P w) A (call (.builtin "sorted") [.ref l]) Q E s := by
  have ok : StrsOk P w s.heap (ks.map fun q => Value.ref q.1) := fun v m => by
    obtain ⟨q, hq, rfl⟩ := List.mem_map.mp m
    exact ⟨q.2, q.1, rfl, at' q hq⟩
  refine SrtO.sorted_ord (swoS (keyS P w s.heap)) hl (by simpa using hz) (fun h2 h₁ a ha kk => ?_) fun out hs hb => ?_
  · have tk : ∀ b k, TStr P w s.heap k b → TStr P w h₁ k b := fun b k x => x.kept fun c o e => (kk c o e).2
    have := sortableS (A := A.in1.in1) (s := { s with heap := h₁ }) (a := a) (by omega) (ok.keep tk) fun o e => by
      have e' := e.symm.trans ha
      cases e'
      intro c
      exact absurd (Value.type.inj c) (by decide)
    intro h' keep
    obtain ⟨κ, c1, c2⟩ := this h' keep
    refine ⟨κ, c1, fun p q hm hm' => wpAny_mono (c2 p q hm hm') (fun r s' z => ⟨z.1, ?_⟩) fun _ _ z => z⟩
    rw [z.2]
    obtain ⟨k, b, e1, x, _⟩ := ok _ hm
    obtain ⟨k', b', e2, x', _⟩ := ok _ hm'
    show lexS (keyS P w h₁ p.1) (keyS P w h₁ q.1) = lexS (keyS P w s.heap p.1) (keyS P w s.heap q.1)
    rw [e1, e2, keyS_of x, keyS_of x', keyS_of (tk _ _ x), keyS_of (tk _ _ x')]
  · obtain ⟨ks', p1, p2⟩ := perm_lift hb.perm rfl
    subst p2
    refine h _ _ ks' p1 ?_ (fun b o e => sortedAll_old e) (Nat.le_succ _) (sortedAll_at s.heap _ _)
    have hs' : (ks'.map fun q => Value.ref q.1).Pairwise fun x y => lexS (keyS P w s.heap y) (keyS P w s.heap x) = false := hs
    rw [List.pairwise_map] at hs' ⊢
    refine hs'.imp_of_mem fun {x y} hx hy z => ?_
    have a1 := (at' x (p1.mem_iff.mp hx)).1
    have a2 := (at' y (p1.mem_iff.mp hy)).1
    rwa [keyS_of a1, keyS_of a2] at z
end
end L2.TV

set_option maxHeartbeats 1000000
/-! set(xs), sorted(set) for tuples of strings, as rules. -/
namespace L2.TV
open PySem PySem.Spec PyProof.Rows
/-- what the set has of the first i -/
structure Has (ks : PKs) (i : Nat) (L : PKs) : Prop where
  of : ∀ q ∈ L, q ∈ ks.take i
  is : ∀ q ∈ ks.take i, q.2 ∈ L.map (·.2)
theorem take_one {α : Type} {l : List α} {i : Nat} {x : α} (h : l[i]? = some x) : l.take (i + 1) = l.take i ++ [x] := by rw [List.take_succ, h]; rfl
theorem Has.next {ks L L' : PKs} {i : Nat} {x : Addr} {k : List Str} (h : Has ks i L) (e : ks[i]? = some (x, k)) (c : (k ∈ L.map (·.2) ∧ L' = L) ∨ (k ∉ L.map (·.2) ∧ L'.Perm ((x, k) :: L))) : Has ks (i + 1) L' := by
  rcases c with ⟨c1, rfl⟩ | ⟨_, c2⟩
  · refine ⟨fun q m => ?_, fun q m => ?_⟩
    · rw [take_one e]; exact List.mem_append_left _ (h.of q m)
    · rw [take_one e] at m
      rcases List.mem_append.mp m with m | m
      · exact h.is q m
      · rw [List.mem_singleton] at m; subst m; exact c1
  · refine ⟨fun q m => ?_, fun q m => ?_⟩
    · rw [take_one e]
      rcases List.mem_cons.mp (c2.mem_iff.mp m) with rfl | m
      · simp
      · exact List.mem_append_left _ (h.of q m)
    · rw [(c2.map (·.2)).mem_iff, List.map_cons]
      rw [take_one e] at m
      rcases List.mem_append.mp m with m | m
      · exact List.mem_cons_of_mem _ (h.is q m)
      · rw [List.mem_singleton] at m; subst m; exact List.mem_cons_self
def FewK (n : Nat) (ks : List (List Str)) : Prop := ∀ l : List (List Str), l.Nodup → (∀ k ∈ l, k ∈ ks) → l.length ≤ n
section
variable {P : Program} {w : World} {A : Around} {E : Value → Shared → Prop} {s : Shared}
theorem SetS.moved {h h' : Heap} {a : Addr} {L : PKs} {es : Array (Int × Value)} {ep : Nat} {t : SetTable} (R : SetS P w h a L es ep t) (ha : ∀ o, h.get? a = some o → h'.get? a = some o) (ht : ∀ q ∈ L, TStr P w h' q.2 q.1) : SetS P w h' a L es ep t := by
  obtain ⟨o, ⟨ho, hd⟩, hex⟩ := R.obj
  exact ⟨⟨o, ⟨ha o ho, hd⟩, hex⟩, R.ent, R.tb, R.one, ht, R.led, R.fill⟩
theorem loopS {I S : Addr} {fp wr : List Addr} {n : Nat} {Pv : Nat → Value → Prop} {St : Nat → Shared → Prop} {R : Result → Shared → Prop} (W : WalksS P w A.in1 I fp wr (fun a b => b = a) n Pv St) (hS : S ∉ fp) (ks : PKs) (hn : n = ks.length)
    (few : FewK 76 (ks.map (·.2))) (hv : ∀ i v, Pv i v → ∃ q, ks[i]? = some q ∧ v = .ref q.1) (h0 : Heap) (hk : ∀ q ∈ ks, TStr P w h0 q.2 q.1) (n1 : h0.get? S = none) (n2 : ∀ b ∈ wr, h0.get? b = none) (hu : A.in1.units < cLine) :
    ∀ (m i : Nat) (s : Shared), i + m = n → St i s → (∀ b o, h0.get? b = some o → s.heap.get? b = some o) → (∃ L es ep t, SetS P w s.heap S L es ep t ∧ Has ks i L) →
      (∀ s' L es ep t, Moved (S :: wr) (fun a b => b = a) s s' → SetS P w s'.heap S L es ep t → Has ks n L → (∀ b o, h0.get? b = some o → s'.heap.get? b = some o) → R (.ok (.ret .none)) s') →
      codeAny (model P w) A (.builtin "set.update.loop" ⟨[.ref S, .ref I], []⟩) R s := by
  have nw : S ∉ wr := fun h => hS (W.sub _ h)
  have sub : ∀ b ∈ wr, b ∈ S :: wr := fun b => List.mem_cons_of_mem _
  have kp : ∀ {s s' : Shared}, Moved wr (fun a b => b = a) s s' → (∀ b o, h0.get? b = some o → s.heap.get? b = some o) → ∀ b o, h0.get? b = some o → s'.heap.get? b = some o := fun mv f b o e =>
    mv.heap b o (fun hb => by rw [n2 b hb] at e; cases e) (f b o e)
  intro m
  induction m with
  | zero =>
    intro i s hi st f ⟨L, es, ep, t, hL, g⟩ fin
    obtain rfl : i = n := by omega
    refine codeAny_builtin F.entry_set_update_loop ?_
    rw [Around.under_plainId F.plain_set_update_loop _]
    refine wpAny_bind (m := pyNext (.ref I)) (W.done s _ _ st fun s' mv => ?_)
    have f' := kp mv f
    refine wpAny_pure (fin s' L es ep t (mv.mono sub) (hL.moved (fun o e => mv.heap S o nw e) fun q hq => ?_) g f')
    exact TStr.kept (hk q (List.mem_of_mem_take (g.of q hq))) f'
  | succ m ih =>
    intro i s hi st f ⟨L, es, ep, t, hL, g⟩ fin
    refine codeAny_builtin F.entry_set_update_loop ?_
    rw [Around.under_plainId F.plain_set_update_loop _]
    refine wpAny_bind (m := pyNext (.ref I)) (W.item i s _ _ (by omega) st fun v s' pv st' mv => ?_)
    obtain ⟨⟨x, k⟩, e, rfl⟩ := hv i v pv
    have f' := kp mv f
    have atL : ∀ q ∈ L, TStr P w s'.heap q.2 q.1 := fun q hq => TStr.kept (hk q (List.mem_of_mem_take (g.of q hq))) f'
    have hL' : SetS P w s'.heap S L es ep t := hL.moved (fun o e => mv.heap S o nw e) atL
    have hx : TStr P w s'.heap k x := TStr.kept (hk _ (List.mem_of_getElem? e)) f'
    refine wpAny_bind (m := holding [Value.ref x] (setAdd S (.ref x))) (wpAny_holding ?_)
    unfold setAdd
    refine wpAny_holding (wpAny_bind (wpAny_pyHash_tuple hu hx ?_))
    refine add_new (s := { s' with toks := s'.toks + (k.length + 1) }) hL' hx hu (fun nk => ?_) fun b h' L' es' ep' t' sb hL2 c => ?_
    · have := few (k :: L.map (·.2)) (List.nodup_cons.mpr ⟨nk, hL.one⟩) fun k' hk' => by
        rcases List.mem_cons.mp hk' with rfl | hk'
        · exact List.mem_map.mpr ⟨_, List.mem_of_getElem? e, rfl⟩
        · obtain ⟨q, hq, rfl⟩ := List.mem_map.mp hk'
          exact List.mem_map.mpr ⟨q, List.mem_of_mem_take (g.of q hq), rfl⟩
      simp only [List.length_cons, List.length_map] at this
      omega
    · have f2 : ∀ b o, h0.get? b = some o → h'.get? b = some o := fun b o e => (sb.2 b fun z => by rw [z, n1] at e; cases e).trans (f' b o e)
      refine wpAny_pure ⟨plainId_quiet F.plain_set_update_loop _, ih (i + 1) _ (by omega) (W.frame _ s' _ _ st' (Nat.le_add_right _ _) fun b hb o e => ?_) f2 ⟨L', es', ep', t', hL2, g.next e c⟩ fun s2 L2 es2 ep2 t2 mv2 => ?_⟩
      · rw [sb.2 b fun z => hS (z ▸ hb)]; exact e
      · refine fin s2 L2 es2 ep2 t2 (Moved.trans W.gtrans ((mv.mono sub).then_heap (Nat.le_add_right _ _) fun b o hb e => ?_) mv2)
        rw [sb.2 b fun z => hb (z ▸ List.mem_cons_self)]; exact e
theorem emptyS {h : Heap} {a : Addr} (ho : h.get? a = some (set0 w)) : SetS P w h a [] #[] 0 (.fresh 0 0 (!w.params.followText "set-order")) where
  obj := ⟨_, ⟨ho, rfl⟩, rfl, rfl, rfl⟩
  ent := rfl
  tb := ⟨List.Pairwise.nil, rfl, rfl, .inl rfl, (fun x hx => nomatch hx), (fun i h j hi => by simp at hi)⟩
  one := List.nodup_nil
  at' := fun q hq => nomatch hq
  led := by
    show _ ∨ (!w.params.followText "set-order") = true
    cases w.params.followText "set-order" <;> simp
  fill := by show 0 * 5 < 7 * 3; decide
theorem setS_list {l : Addr} {ks : PKs} {Q : Value → Shared → Prop} (hh : A.handled = none) (hl : s.heap.IsList l (ks.map fun q => Value.ref q.1).toArray) (hk : ∀ q ∈ ks, TStr P w s.heap q.2 q.1) (few : FewK 76 (ks.map (·.2))) (hu : A.units + 3 < cLine)
    (h : ∀ (h' : Heap) (tk : Nat) L es ep t, SetS P w h' s.heap.objs.size L es ep t → Has ks ks.length L → (∀ b o, s.heap.get? b = some o → h'.get? b = some o) → Q (.ref s.heap.objs.size) { s with heap := h', toks := tk }) :
    wpAny (model P w) A (call (.type "set") [.ref l]) Q E s := by
  refine call_set_of hh hl (Dn := fun s' => ∃ h' tk L es ep t, s' = { s with heap := h', toks := tk } ∧ SetS P w h' s.heap.objs.size L es ep t ∧ Has ks ks.length L ∧ (∀ b o, s.heap.get? b = some o → h'.get? b = some o)) (fun B hB hu' => ?_) fun s' d => ?_
  · have new : ∀ b, s.heap.objs.size ≤ b → s.heap.get? b = none := fun b hb => by
      cases q : s.heap.get? b with
      | none => rfl
      | some o => exact absurd (Heap.lt_size q) (Nat.not_lt.mpr hb)
    have hls : l < s.heap.objs.size := by obtain ⟨o, ho, _⟩ := hl; exact Heap.lt_size ho
    have sz : (s.heap.push (set0 w)).objs.size = s.heap.objs.size + 1 := Heap.size_push ..
    have keep : ∀ b o, s.heap.get? b = some o → (setIt w s.heap l).get? b = some o := fun b o e => Heap.get?_push_of_some _ (Heap.get?_push_of_some _ e)
    have atI : (setIt w s.heap l).get? (s.heap.objs.size + 1) = some { cls := .type "list_iterator", data := .fields #[.ref l, .int 0 0] } := by rw [← sz]; exact Heap.get?_push_size _ rfl
    have atS : (setIt w s.heap l).get? s.heap.objs.size = some (set0 w) := Heap.get?_push_of_some _ (Heap.get?_push_size _ rfl)
    have hSf : s.heap.objs.size ∉ [s.heap.objs.size + 1, l] := fun m => by
      rcases List.mem_cons.mp m with e | m
      · exact Nat.ne_of_lt (Nat.lt_succ_self _) e
      · exact Nat.ne_of_gt hls (List.mem_singleton.mp m)
    refine loopS (A := B) (S := s.heap.objs.size) (Walks.list (by simp [hB]) (s.heap.objs.size + 1) l (Nat.ne_of_lt (Nat.lt_succ_of_lt hls)) (ks.map fun q => Value.ref q.1).toArray).toS hSf ks (by simp) few (fun i v e => ?_) s.heap hk (new _ (Nat.le_refl _)) (fun b hb => new b (by rw [List.mem_singleton.mp hb]; exact Nat.le_succ _)) (Nat.lt_of_le_of_lt hu' hu) ks.length 0 _ (by simp) ?_ keep ⟨[], #[], 0, _, emptyS atS, ⟨fun q h => (nomatch h), fun q h => by simp at h⟩⟩ ?_
    · have e' : ((ks.map fun q => Value.ref q.1).toArray)[i]? = some v := e
      rw [List.getElem?_toArray, List.getElem?_map] at e'
      cases q : ks[i]? with
      | none => rw [q] at e'; cases e'
      | some y => rw [q] at e'; cases e'; exact ⟨y, rfl, rfl⟩
    · refine ⟨⟨_, atI, rfl, rfl⟩, ?_⟩
      obtain ⟨o, ho, r⟩ := hl
      exact ⟨o, keep _ _ ho, r⟩
    · intro s' L es ep t mv hL g f
      have e := mv.eq_with
      exact ⟨rfl, s'.heap, s'.toks, L, es, ep, t, e, hL, by simpa using g, f⟩
  · obtain ⟨h', tk, L, es, ep, t, rfl, a1, a2, a3⟩ := d
    exact h _ _ _ _ _ _ a1 a2 a3
/-- sorted(set) -/
theorem sortedS_set {a : Addr} {L : PKs} {es : Array (Int × Value)} {ep : Nat} {t : SetTable} {Q : Value → Shared → Prop} (R : SetS P w s.heap a L es ep t) (hne : ∀ q ∈ L, q.2 ≠ []) (hh : A.handled = none)
    (h : ∀ s' p (c : Nat) (L' : PKs), (∀ b o, s.heap.get? b = some o → s'.heap.get? b = some o) → s'.gens = s.gens → s'.os = s.os → s.heap.objs.size ≤ p → s'.heap.get? p = some (seqObj "list" (L'.map fun q => Value.ref q.1).toArray c) →
      L'.Perm L → (L'.map (·.2)).Pairwise (fun k l => lexS l k = false) → Q (.ref p) s') : wpAny (model P w) A (call (.builtin "sorted") [.ref a]) Q E s := by
  obtain ⟨o, ⟨ho, hd⟩, hex⟩ := R.obj
  have f127 : L.length < 127 := by have := R.fill; rcases R.tb.mok with e | e | e <;> omega
  refine Calls.call_function_entry kind_sorted plain_sorted entry_sorted (args_sorted1 _) ?_
  unfold Builtin.«sorted»
  refine wpAny_bind (m := checkCount "sorted" 1 1 _) (wpAny_pure ?_)
  refine wpAny_bind (collect_set (A := A.in1) hh ⟨o, ho, hex.1, hd⟩ R.fits (by rw [ents_len R.ent]; unfold scanBound; omega) R.tb.ris R.led fun s1 vs k1 hz g1 o1 pm => ?_)
  have e0 : es.toList.map (·.2) = L.map fun q => Value.ref q.1 := by rw [R.ent, entsOf, List.map_map]; rfl
  rw [e0] at pm
  obtain ⟨L1, p1, rfl⟩ := perm_lift pm rfl
  have len : (L1.map fun q => Value.ref q.1).length < 127 := by rw [List.length_map, p1.length_eq]; exact f127
  refine wpAny_bind (wpAny_newList ?_ (by rw [sizeLine_eq]; omega))
  have hoL : (s1.heap.push (seqObj "list" (L1.map fun q => Value.ref q.1).toArray 0)).get? s1.heap.objs.size = some (seqObj "list" (L1.map fun q => Value.ref q.1).toArray 0) := Heap.get?_push_size _ rfl
  have tk : ∀ q ∈ L1, TStr P w (s1.heap.push (seqObj "list" (L1.map fun q => Value.ref q.1).toArray 0)) q.2 q.1 := fun q hq => TStr.kept (R.at' q (p1.mem_iff.mp hq)) fun b u e => Heap.get?_push_of_some _ (k1 b u e)
  generalize hH : s1.heap.push (seqObj "list" (L1.map fun q => Value.ref q.1).toArray 0) = H1 at hoL tk
  have ok : StrsOk P w H1 (L1.map fun q => Value.ref q.1) := fun v m => by
    obtain ⟨q, hq, rfl⟩ := List.mem_map.mp m
    exact ⟨q.2, q.1, rfl, tk q hq, hne q (p1.mem_iff.mp hq)⟩
  refine wpAny_bind (wpAny_holding (wpAny_call_entry slot_list_sort ⟨_, hoL, rfl⟩ entry_list_sort (SrtO.list_sort_ord (s := { s1 with heap := H1 }) (swoS (keyS P w H1)) hoL (by rw [sizeLine_eq]; omega) (fun h2 => sortableS (by omega) ok fun o e => ?_) fun out hs hb => ⟨_, rfl, ?_⟩) (args_list_sort _)))
  · have e' := e.symm.trans hoL
    cases e'
    intro c
    exact absurd (Value.type.inj c) (by decide)
  · obtain ⟨L', p2, rfl⟩ := perm_lift hb.perm rfl
    obtain ⟨c, hc⟩ := sortedHeap_at (vs := L1.map fun q => Value.ref q.1) (out := (L'.map fun q => Value.ref q.1).toArray) hoL
    refine wpAny_pure ⟨_, rfl, h _ s1.heap.objs.size c L' (fun b u e => ?_) g1 o1 hz hc (p2.trans p1) ?_⟩
    · have e1 := k1 b u e
      have lt := Heap.lt_size e1
      show (sortedHeap H1 s1.heap.objs.size _ _).get? b = some u
      subst hH
      rw [sortedHeap_old (Nat.ne_of_lt lt) (by rw [size_push']; exact Nat.lt_succ_of_lt lt)]
      exact Heap.get?_push_of_some _ e1
    · have hs' : (L'.map fun q => Value.ref q.1).Pairwise fun x y => lexS (keyS P w H1 y) (keyS P w H1 x) = false := hs
      rw [List.pairwise_map] at hs' ⊢
      refine hs'.imp_of_mem fun {x y} hx hy z => ?_
      rwa [keyS_of (tk x (p2.mem_iff.mp hx)), keyS_of (tk y (p2.mem_iff.mp hy))] at z
end
end L2.TV

set_option maxHeartbeats 1000000
/-! sorted(set(xs)), sorted(xs) by trees. -/
namespace L2.TV
open PySem PySem.Spec PyProof.Rows
section
variable {α : Type} [DecidableEq α]
theorem mem_dd {x : α} : ∀ {l : List α}, x ∈ dd l ↔ x ∈ l
  | [] => Iff.rfl
  | y :: l => by
    unfold dd
    split
    · rw [mem_dd]; constructor
      · exact List.mem_cons_of_mem _
      · intro h; rcases List.mem_cons.mp h with rfl | h
        · assumption
        · exact h
    · rw [List.mem_cons, List.mem_cons, mem_dd]
theorem nodup_dd : ∀ (l : List α), (dd l).Nodup
  | [] => List.nodup_nil
  | y :: l => by
    unfold dd
    split
    · exact nodup_dd l
    · exact List.nodup_cons.mpr ⟨fun h => by rename_i n; exact n (mem_dd.mp h), nodup_dd l⟩
theorem len_dd {l m : List α} (h : m.Nodup) (e : ∀ x, x ∈ m ↔ x ∈ l) : m.length = (dd l).length :=
  ((List.perm_ext_iff_of_nodup h (nodup_dd l)).mpr fun x => (e x).trans mem_dd.symm).length_eq
theorem few_dd {l m : List α} (h : m.Nodup) (e : ∀ x ∈ m, x ∈ l) : m.length ≤ (dd l).length := by
  have key : ∀ (m n : List α), m.Nodup → (∀ x ∈ m, x ∈ n) → m.length ≤ n.length := by
    intro m
    induction m with
    | nil => intro n _ _; simp
    | cons x m ih =>
      intro n h e
      obtain ⟨h1, h2⟩ := List.nodup_cons.mp h
      have hx := e x List.mem_cons_self
      have := ih (n.erase x) h2 fun y hy => (List.mem_erase_of_ne (show y ≠ x from fun z => h1 (z ▸ hy))).mpr (e y (List.mem_cons_of_mem _ hy))
      rw [List.length_erase_of_mem hx] at this
      have := List.length_pos_of_mem hx
      simp only [List.length_cons]
      omega
  exact key m (dd l) h fun x hx => mem_dd.mpr (e x hx)
theorem perm_dd {l m : List α} (h : m.Nodup) (e : ∀ x, x ∈ m ↔ x ∈ l) : m.Perm (dd l) := (List.perm_ext_iff_of_nodup h (nodup_dd l)).mpr fun x => (e x).trans mem_dd.symm
end
theorem sortK_of {ks ls : List (List Str)} (p : ls.Perm ks) (o : ls.Pairwise fun k l => lexS l k = false) : ls = sortK ks := by
  refine List.Perm.eq_of_pairwise (le := fun k l => lexS l k = false) (fun _ _ _ _ a b => lexS_tri b a) o ?_ (p.trans (isort_perm _ ks).symm)
  have := isort_pw (le := fun a b : List Str => !lexS b a) (fun a b c h1 h2 => by
    simp only [Bool.not_eq_true'] at *
    exact (swoS (fun x : List Str => x)).tr a b c h1 h2) (fun a b => by
      cases e : lexS b a with
      | false => rfl
      | true => simp [lexS_asym e]) ks
  exact this.imp (by simp)
section
variable {X : Cx} {K : PySem.W.Frag} {ρ : List Addr} {L : Addr → Prop} {H H' : Hp} {v : V}
theorem strsT_of : ∀ {l : List T} {k : List Str}, strsT l = some k → l = k.map .str
  | [], _, e => by simp only [strsT, Option.some.injEq] at e; subst e; rfl
  | t :: l, _, e => by
    cases t <;> simp only [strsT] at e <;> try cases e
    rw [Option.map_eq_some_iff] at e
    obtain ⟨k, e, rfl⟩ := e
    rw [strsT_of e]; rfl
theorem RpL.strV : ∀ {k : List Str} {xs : List V}, RpL K ρ L H xs (k.map .str) → xs = k.map V.str
  | [], _, h => by cases h; rfl
  | x :: k, _, h => by cases h with | cons a b => cases a; rw [RpL.strV b]; rfl
theorem RpL.strs (k : List Str) : RpL K ρ L H (k.map V.str) (k.map .str) := by
  induction k with
  | nil => exact .nil
  | cons x k ih => exact .cons (.str x) ih
theorem RpL.pks : ∀ {l : List T} {xs : List V} {ks : List (List Str)}, RpL K ρ L H xs l → allS l = some ks → ∃ qs : PKs, xs = qs.map (fun q => V.ref q.1) ∧ qs.map (·.2) = ks ∧ ∀ q ∈ qs, TupA K H q.1 (q.2.map V.str) (q.2.map T.str)
  | [], _, _, h, e => by cases h; simp only [allS, Option.some.injEq] at e; subst e; exact ⟨[], rfl, rfl, fun q h => nomatch h⟩
  | t :: l, _, _, .cons h1 h2, e => by
    cases t <;> simp only [allS] at e <;> try cases e
    rename_i tl
    cases e1 : strsT tl with
    | none => rw [e1] at e; cases e
    | some k =>
      cases e2 : allS l with
      | none => rw [e1, e2] at e; cases e
      | some ks =>
        rw [e1, e2] at e; cases e
        obtain ⟨qs, a1, a2, a3⟩ := RpL.pks h2 e2
        have e3 := strsT_of e1; subst e3
        cases h1 with
        | @tup a _ _ q r =>
          have e4 := r.strV; subst e4
          refine ⟨(a, k) :: qs, by simp [a1], by simp [a2], fun z hz => ?_⟩
          rcases List.mem_cons.mp hz with rfl | hz
          · exact q
          · exact a3 z hz
theorem RpL.ofPks {qs : PKs} (h : ∀ q ∈ qs, TupA K H q.1 (q.2.map V.str) (q.2.map T.str)) : RpL K ρ L H (qs.map fun q => V.ref q.1) ((qs.map (·.2)).map tupS) := by
  induction qs with
  | nil => exact .nil
  | cons q qs ih => exact .cons (.tup (h q List.mem_cons_self) (RpL.strs _)) (ih fun z hz => h z (List.mem_cons_of_mem _ hz))
theorem valsRefs : ∀ {qs : PKs} {us : List Value}, Vals (qs.map fun q => V.ref q.1) us → us = qs.map fun q => Value.ref q.1
  | [], _, .nil => rfl
  | q :: qs, _, .cons r t => by cases r; rw [valsRefs t]; rfl
theorem refsVals : ∀ (qs : PKs), Vals (qs.map fun q => V.ref q.1) (qs.map fun q => Value.ref q.1)
  | [] => .nil
  | _ :: qs => .cons rfl (refsVals qs)
theorem itemsStr {P : Program} {w : World} : ∀ {k : List Str} {us : List Value}, Vals (k.map V.str) us → ItemsAre (PySem.strKind P w) k us
  | [], _, .nil => .nil
  | x :: k, _, .cons r t => by obtain ⟨tk, rfl⟩ := r; exact .cons (by simp [PySem.strKind, Value.isStrOf]) (itemsStr t)
theorem _root_.L2.Inv.tstr {pins : List (Addr × Obj)} {σ : St} {H : Hp} {s : Shared} {b : Addr} {k : List Str} (I : Inv X pins σ H s) (h : SqT X.K H b (k.map V.str)) : TStr X.prog X.w s.heap k b := by
  obtain ⟨its, r, ⟨o, ho, hc, n, hd⟩, _⟩ := I.tuple h
  exact ⟨o, its.toArray, n, ho, hc, hd, by simpa using itemsStr r⟩
/-! ### sorted(xs) -/
theorem sorted_tups {pins : List (Addr × Obj)} {s : Shared} {σ : St} {l : List T} {r : Rt} {us : List Value} {Q : VK} (I : Inv X pins σ H s) (rx : Vals [v] us) (h1 : Rq X.K ρ L H v (.lst l)) (e : sortTupT l = some r) (q : ∀ v H', OutOk X.K ρ L H H' v r → Q v H') :
    wpAny (model X.prog X.w) X.A (call (.builtin "sorted") us) (EP X pins σ Q) X.xe s := by
  unfold sortTupT at e
  cases e1 : allS l with
  | none => rw [e1] at e; cases e
  | some ks =>
    rw [e1] at e
    dsimp only at e
    split at e
    · rename_i hz
      cases e
      obtain ⟨a, xs, rfl, f, r1⟩ := h1.lst
      obtain ⟨qs, rfl, rfl, hq⟩ := r1.pks e1
      obtain ⟨its, rv, pl, _⟩ := I.list (SqL.of f)
      have ei := valsRefs rv
      subst ei
      rw [Vals.ref1 rx]
      have hne : ∀ q ∈ qs, q.2 ≠ [] := fun q hq' => by
        have := List.all_eq_true.mp hz.2 q.2 (List.mem_map.mpr ⟨q, hq', rfl⟩)
        intro z; rw [z] at this; simp at this
      have hln : qs.length ≤ sizeLine := by simpa using hz.1
      refine sortedS_list pl.isList hln (fun q hq' => ⟨I.tstr (hq q hq').sq, hne q hq'⟩) fun h' d qs' p1 p2 k hd ⟨n, hn⟩ => ?_
      have hnone : H d = none := I.hok.fresh hd
      have es : qs'.map (·.2) = sortK (qs.map (·.2)) := sortK_of (p1.map _) p2
      refine ⟨.ref d, upd H d (.lst (qs'.map fun q => V.ref q.1)), I.laid (t' := s.toks) k hd ⟨by rw [List.length_map, p1.length_eq]; exact hln, _, n, refsVals qs', hn⟩, rfl, q _ _ ⟨d, _, rfl, hnone, rfl, ?_⟩⟩
      rw [← es]
      exact RpL.ofPks fun q hq' => hq q (p1.mem_iff.mp hq')
    · cases e
/-! ### set(xs) -/
/-- the set at a, without the tuples themselves -/
def SetB (P : Program) (w : World) (h : Heap) (a : Addr) (L : PKs) : Prop := ∃ (es : Array (Int × Value)) (ep : Nat) (t : SetTable), (∃ o, (h.get? a = some o ∧ o.data = .set es ep t) ∧ o.ExactSet) ∧ es.toList = entsOf P w L ∧ TabOk t (L.map fun q => hsh P w q.2) ∧ (L.map (·.2)).Nodup ∧
  (w.params.followText "set-order" = true ∨ t.led = true) ∧ L.length * 5 < t.mask * 3
def SetBO (P : Program) (w : World) (a : Addr) (L : PKs) : HO := .ext fun h => SetB P w h a L
theorem SetS.b {P : Program} {w : World} {h : Heap} {a : Addr} {L : PKs} {es : Array (Int × Value)} {ep : Nat} {t : SetTable} (R : SetS P w h a L es ep t) : SetB P w h a L := ⟨es, ep, t, R.obj, R.ent, R.tb, R.one, R.led, R.fill⟩
theorem setB_new {P : Program} {w : World} {H : Hp} {h : Heap} {a : Addr} {L : PKs} (R : SetB P w h a L) : ObjOk P w H h a (SetBO P w a L) := by
  have ⟨_, _, _, ⟨o, ⟨ho, _⟩, _⟩, _⟩ := R
  refine ⟨R, ⟨o, ho⟩, fun h1 h2 z k => ?_⟩
  have ⟨es, ep, t, ⟨o', ⟨ho', hd⟩, x⟩, y⟩ := (show SetB P w h1 a L from z)
  exact ⟨es, ep, t, ⟨o', ⟨k o' ho', hd⟩, x⟩, y⟩
def rSetI (K : PySem.W.Frag) (w : World) : List V → Hp → VK → Prop := fun xs H Q => ∃ (l : Addr) (ns : List Int), xs = [V.ref l] ∧ SqL K H l (ns.map V.int) ∧ ns.length < 4000 ∧ ∀ a S, H a = none → (∀ k, S k = true ↔ k ∈ ns) → Q (.ref a) (upd H a (SetO w a S (dd ns).length))
def rSetS (K : PySem.W.Frag) (P : Program) (w : World) : List V → Hp → VK → Prop := fun xs H Q => ∃ (l : Addr) (qs : PKs), xs = [V.ref l] ∧ SqL K H l (qs.map fun q => V.ref q.1) ∧ (∀ q ∈ qs, SqT K H q.1 (q.2.map V.str)) ∧ (dd (qs.map (·.2))).length ≤ 76 ∧
  ∀ a (L : PKs), H a = none → (∀ q ∈ L, q ∈ qs) → (∀ q ∈ qs, q.2 ∈ L.map (·.2)) → Q (.ref a) (upd H a (SetBO P w a L))
theorem SetR.cnt {w : World} {h : Heap} {a : Addr} {S : Int → Bool} {n : Nat} {ns : List Int} (R : SetR w h a S n) (e : ∀ k, S k = true ↔ k ∈ ns) : n = (dd ns).length := by
  obtain ⟨o, es, ep, t, _, _, _, _, nd, hm, _, _, hn, _, _⟩ := R
  rw [← len_dd nd fun x => (hm x).symm.trans (e x), List.length_map, Array.length_toList]
  exact hn.symm
theorem cr_setAny (hc : X.calm = true) (hu : X.A.units + 64 < cLine) : CallR X (.type "set") (fun xs H Q => rSetI X.K X.w xs H Q ∨ rSetS X.K X.prog X.w xs H Q) := by
  intro pins s σ H xs us Q I r h
  rcases h with ⟨l, ns, rfl, hl, hz, q⟩ | ⟨l, qs, rfl, hl, hk, hf, q⟩
  · rw [Vals.ref1 r]
    obtain ⟨its, rv, pl, _⟩ := I.list hl
    have hi := ints_of_vals rv
    have hn : H s.heap.objs.size = none := I.hok.fresh (Nat.le_refl _)
    have isl := pl.isList
    have hh := I.ok.hd hc
    refine call_set_of hh isl (Dn := fun s' => ∃ h' tk c, s' = { s with heap := h', toks := tk } ∧ SetR X.w h' s.heap.objs.size (fun j => decide (j ∈ ns)) c ∧ (∀ b o, s.heap.get? b = some o → h'.get? b = some o)) (fun B hB hu' => ?_) fun s' d => ?_
    · have hls : l < s.heap.objs.size := by obtain ⟨o, ho, _⟩ := isl; exact Heap.lt_size ho
      have sz : (s.heap.push (set0 X.w)).objs.size = s.heap.objs.size + 1 := Heap.size_push ..
      have keep : ∀ b o, s.heap.get? b = some o → (setIt X.w s.heap l).get? b = some o := fun b o e => Heap.get?_push_of_some _ (Heap.get?_push_of_some _ e)
      have atI : (setIt X.w s.heap l).get? (s.heap.objs.size + 1) = some { cls := .type "list_iterator", data := .fields #[.ref l, .int 0 0] } := by rw [← sz]; exact Heap.get?_push_size _ rfl
      have atS : (setIt X.w s.heap l).get? s.heap.objs.size = some (set0 X.w) := Heap.get?_push_of_some _ (Heap.get?_push_size _ rfl)
      have hSf : s.heap.objs.size ∉ [s.heap.objs.size + 1, l] := fun m => by
        rcases List.mem_cons.mp m with e | m
        · exact Nat.ne_of_lt (Nat.lt_succ_self _) e
        · exact Nat.ne_of_gt hls (List.mem_singleton.mp m)
      have il : its.length = ns.length := hi.length
      refine set_update_ints (A := B) (Walks.list (by simp [hB]) (s.heap.objs.size + 1) l (Nat.ne_of_lt (Nat.lt_succ_of_lt hls)) its.toArray).toS s.heap.objs.size hSf ns (by simp [il]) (by unfold scanBound; omega) (fun i v e => ?_) its.toArray.size 0 _ (by simp) (Nat.zero_le _) ?_ ⟨0, Nat.le_refl _, setR_new_at atS⟩ ?_
      · have e' : its[i]? = some v := by simpa using e
        have hi' : i < ns.length := by rw [← il]; exact (List.getElem?_eq_some_iff.mp e').1
        obtain ⟨t, et⟩ := PyProof.Rows.IntsAre.int_at hi i v e'
        exact ⟨ns[i], t, List.getElem?_eq_getElem hi', by rw [et, List.getD_eq_getElem?_getD, List.getElem?_eq_getElem hi']; rfl⟩
      · refine ⟨⟨_, atI, rfl, rfl⟩, ?_⟩
        obtain ⟨o, ho, r⟩ := isl
        exact ⟨o, keep _ _ ho, r⟩
      · intro s' c mv _ hS
        refine ⟨rfl, s'.heap, s'.toks, c, mv.eq_with, hS, fun b o e => mv.heap b o (fun hm => ?_) (keep b o e)⟩
        have lt := Heap.lt_size e
        rcases List.mem_cons.mp hm with z | z
        · exact Nat.ne_of_lt lt z
        · exact Nat.ne_of_lt (Nat.lt_succ_of_lt lt) (List.mem_singleton.mp z)
    · obtain ⟨h', tk, c, rfl, hS, k⟩ := d
      have ec : c = (dd ns).length := SetR.cnt hS fun k => by simp
      subst ec
      exact ⟨.ref s.heap.objs.size, upd H s.heap.objs.size (SetO X.w s.heap.objs.size _ _), I.laid (t' := tk) k (Nat.le_refl _) (setO_new hS), rfl, q _ _ hn fun k => by simp⟩
  · rw [Vals.ref1 r]
    obtain ⟨its, rv, pl, _⟩ := I.list hl
    have hn : H s.heap.objs.size = none := I.hok.fresh (Nat.le_refl _)
    have ei := valsRefs rv
    subst ei
    refine setS_list (P := X.prog) (w := X.w) (I.ok.hd hc) pl.isList (fun q hq => I.tstr (hk q hq)) (fun m h1 h2 => Nat.le_trans (few_dd h1 h2) hf) (by omega) fun h' tk L es ep t R g k => ?_
    refine ⟨.ref s.heap.objs.size, upd H s.heap.objs.size (SetBO X.prog X.w s.heap.objs.size L), I.laid (t' := tk) k (Nat.le_refl _) (setB_new R.b), rfl, q _ L hn (fun q hq => List.mem_of_mem_take (g.of q hq)) fun q hq => g.is q (by rw [List.take_length]; exact hq)⟩
def rSrtS (K : PySem.W.Frag) (P : Program) (w : World) : List V → Hp → VK → Prop := fun vs H Q => ∃ (a : Addr) (L : PKs), vs = [V.ref a] ∧ H a = some (SetBO P w a L) ∧ (∀ q ∈ L, SqT K H q.1 (q.2.map V.str) ∧ q.2 ≠ []) ∧
  ∀ (L' : PKs) (p : Addr), L'.Perm L → (L'.map (·.2)).Nodup → (L'.map (·.2)).Pairwise (fun k l => lexS l k = false) → H p = none → Q (.ref p) (upd H p (.lst (L'.map fun q => V.ref q.1)))
theorem cr_srtAny (hc : X.calm = true) : CallR X (.builtin "sorted") (fun vs H Q => rSortedSet X.w vs H Q ∨ rSrtS X.K X.prog X.w vs H Q) := by
  intro pins s σ H vs us Q I r h
  rcases h with h | ⟨a, L, rfl, ha, hk, q⟩
  · exact cr_sortedSet hc pins s σ H vs us Q I r h
  · have R0 : SetB X.prog X.w s.heap a L := (I.hok a _ ha).1
    obtain ⟨es, ep, t, c1, c2, c3, c4, c5, c6⟩ := R0
    have R : SetS X.prog X.w s.heap a L es ep t := ⟨c1, c2, c3, c4, fun q hq => I.tstr (hk q hq).1, c5, c6⟩
    rw [Vals.ref1 r]
    have f127 : L.length < 127 := by have := R.fill; rcases R.tb.mok with e | e | e <;> omega
    refine sortedS_set R (fun q hq => (hk q hq).2) (I.ok.hd hc) fun s' p c L' k g o hp hg pm pw => ?_
    have hn : H p = none := I.hok.fresh hp
    have J : Inv X pins σ (upd H p (.lst (L'.map fun q => V.ref q.1))) { s with heap := s'.heap, gens := s'.gens, drawn := s'.drawn, toks := s'.toks } :=
      I.call (ch := []) (Un.laid k hp hn) (I.hok.laid k hp ⟨by rw [List.length_map, pm.length_eq, sizeLine_eq]; omega, _, c, refsVals L', hg⟩) (by rw [g]; exact I.bare) (fun _ z => nomatch z)
    have e : s' = { s with heap := s'.heap, gens := s'.gens, drawn := s'.drawn, toks := s'.toks } := by
      cases s'; cases s; cases o; rfl
    rw [e]
    exact ⟨.ref p, _, J, rfl, q L' p pm ((pm.map (·.2)).nodup_iff.mpr R.one) pw hn⟩
end
end L2.TV

set_option maxHeartbeats 1000000
namespace L2.TV
open PySem PySem.Spec PyProof.Rows
section
variable {X : Cx} {K : PySem.W.Frag} {ρ : List Addr} {L : Addr → Prop} {H H' : Hp} {v : V}
theorem sortL_of {ys ns : List Int} (p : ys.Perm ns) (o : ys.Pairwise (· ≤ ·)) : ys = sortL ns := by
  refine List.Perm.eq_of_pairwise (le := fun a b => a ≤ b) (fun _ _ _ _ a b => Int.le_antisymm a b) o ?_ (p.trans (isort_perm _ ns).symm)
  have := isort_pw (le := fun a b : Int => decide (a ≤ b)) (fun a b c h1 h2 => by simp at *; omega) (fun a b => by simp; omega) ns
  exact this.imp (by simp)
theorem RpL.ints (ns : List Int) : RpL K ρ L H (ns.map V.int) (ns.map T.int) := by
  induction ns with
  | nil => exact .nil
  | cons n ns ih => exact .cons (.int n) ih
theorem RpL.allI : ∀ {ts : List T} {xs : List V} {ns : List Int}, RpL K ρ L H xs ts → TV.allI ts = some ns → xs = ns.map V.int
  | [], _, _, r, e => by cases r; simp only [TV.allI, Option.some.injEq] at e; subst e; rfl
  | t :: ts, _, _, r, e => by
    cases r with
    | cons r1 r2 =>
      cases t with
      | int i =>
        simp only [TV.allI, Option.map_eq_some_iff] at e
        obtain ⟨ms, e, rfl⟩ := e
        cases r1
        rw [RpL.allI r2 e]
        rfl
      | _ => simp [TV.allI] at e
theorem keysI_of : ∀ {l : List (Key × T)} {ns : List Int}, keysI l = some ns → l.map (·.1) = ns.map Sum.inl
  | [], _, e => by simp only [keysI, Option.some.injEq] at e; subst e; rfl
  | (.inl i, t) :: r, _, e => by
    simp only [keysI, Option.map_eq_some_iff] at e
    obtain ⟨ms, e, rfl⟩ := e
    simp [keysI_of e]
  | (.inr x, t) :: r, _, e => by simp [keysI] at e
theorem sortStr_of {ys xs : List Str} (p : ys.Perm xs) (o : ys.Pairwise fun a b => ltS b a = false) : ys = sortStr xs := by
  refine List.Perm.eq_of_pairwise (le := fun a b => ltS b a = false) (fun _ _ _ _ a b => ltS_tri b a) o ?_ (p.trans (isort_perm _ xs).symm)
  have := isort_pw (le := fun a b : Str => !ltS b a) (fun a b c h1 h2 => by
    simp only [Bool.not_eq_true', ltS, decide_eq_false_iff_not] at *
    exact List.not_lt.mpr (List.le_trans (List.not_lt.mp h1) (List.not_lt.mp h2))) (fun a b => by
      simp only [ltS, Bool.or_eq_true, Bool.not_eq_true', decide_eq_false_iff_not]
      rcases List.le_total a.cps.toList b.cps.toList with z | z
      · exact .inl (List.not_lt.mpr z)
      · exact .inr (List.not_lt.mpr z)) xs
  exact this.imp (by simp)
theorem ltCps_lt : ∀ (a b : List Nat), ltCps a b = decide (a < b)
  | [], [] => by simp [ltCps]
  | [], _ :: _ => by simp [ltCps]
  | _ :: _, [] => by simp [ltCps]
  | x :: a, y :: b => by
    simp only [ltCps, ltCps_lt a b, List.cons_lt_cons_iff]
    by_cases h1 : x < y
    · simp [h1]
    · by_cases h2 : x = y <;> simp [h1, h2]
theorem risingS_pw : ∀ {p : Str} {ys : List Str}, risingS p ys = true → (p :: ys).Pairwise fun a b => ltS b a = false
  | p, [], _ => by simp
  | p, x :: r, h => by
    have h' : (!ltCps x.cps.toList p.cps.toList && risingS x r) = true := h
    simp only [Bool.and_eq_true, Bool.not_eq_true'] at h'
    have ih := risingS_pw h'.2
    have h1 : ltS x p = false := by unfold ltS; rw [← ltCps_lt]; exact h'.1
    refine List.pairwise_cons.mpr ⟨fun y hy => ?_, ih⟩
    rcases List.mem_cons.mp hy with rfl | hy
    · exact h1
    · have h2 := (List.pairwise_cons.mp ih).1 y hy
      simp only [ltS, decide_eq_false_iff_not] at *
      exact List.not_lt.mpr (List.le_trans (List.not_lt.mp h1) (List.not_lt.mp h2))
theorem sortedS_pw {ys : List Str} (h : sortedS ys = true) : ys.Pairwise fun a b => ltS b a = false := by
  cases ys with
  | nil => exact .nil
  | cons x r => exact risingS_pw h
theorem keysS_of : ∀ {l : List (Key × T)} {xs : List Str}, keysS l = some xs → l.map (·.1) = xs.map Sum.inr
  | [], _, e => by simp only [keysS, Option.some.injEq] at e; subst e; rfl
  | (k, t) :: l, xs, e => by
    cases k with
    | inl i => cases e
    | inr i =>
      simp only [keysS, Option.map_eq_some_iff] at e
      obtain ⟨ms, e, rfl⟩ := e
      simp [keysS_of e]
theorem fn_sorted (hc : X.calm = true) : CallR X (.builtin "sorted") (rFn1 X.K sortT) := by
  intro pins s σ H xs us Q I rx h
  obtain ⟨ρ, L, v, t, r, rfl, m, h1, e, q⟩ := h
  unfold sortT at e
  split at e
  · rename_i l
    cases e1 : allI l with
    | some ns =>
      rw [e1] at e; cases e
      obtain ⟨a, ys, rfl, f, r1⟩ := h1.lst
      have ey := r1.allI e1
      subst ey
      exact cr_sortedI pins s σ H _ us Q I rx ⟨a, ns, rfl, SqL.of f, fun ns' p pe po hp => by
        rw [sortL_of pe po]
        exact q _ _ ⟨p, _, rfl, hp, rfl, RpL.ints _⟩⟩
    | none =>
      rw [e1] at e
      cases e2 : strsT l with
      | some ns =>
        rw [e2] at e
        dsimp only at e
        split at e
        · rename_i hz
          cases e
          have := strsT_of e2
          subst this
          obtain ⟨a, ys, rfl, f, r1⟩ := h1.lst
          have ey := r1.strV
          subst ey
          exact cr_sortedS pins s σ H _ us Q I rx ⟨a, ns, rfl, SqL.of f, hz, fun ys p pe po hp => by
            rw [sortStr_of pe (sortedS_pw po)]
            exact q _ _ ⟨p, _, rfl, hp, rfl, RpL.strs _⟩⟩
        · cases e
      | none =>
        rw [e2] at e
        exact sorted_tups I rx h1 e q
  · rename_i l
    cases e1 : keysI l with
    | some ns =>
      rw [e1] at e
      dsimp only at e
      split at e
      · rename_i hz
        cases e
        obtain ⟨a, kvs, rfl, f, i, r1⟩ := h1.dk
        exact call_sortedDI hc pins s σ H _ us Q I rx ⟨a, kvs, ns, rfl, f, by rw [i, keysI_of e1], hz, fun ys p pe po hp => by
          rw [sortL_of pe po]
          exact q _ _ ⟨p, _, rfl, hp, rfl, RpL.ints _⟩⟩
      · cases e
    | none =>
      rw [e1] at e
      cases e2 : keysS l with
      | none => rw [e2] at e; cases e
      | some ns =>
        rw [e2] at e
        dsimp only at e
        split at e
        · rename_i hz
          cases e
          obtain ⟨a, kvs, rfl, f, i, r1⟩ := h1.dk
          exact call_sortedD hc pins s σ H _ us Q I rx ⟨a, kvs, ns, rfl, f, by rw [i, keysS_of e2], hz, fun ys p pe po hp => by
            rw [sortStr_of pe (sortedS_pw po)]
            exact q _ _ ⟨p, _, rfl, hp, rfl, RpL.strs _⟩⟩
        · cases e
  · cases e
theorem putT_keys {κ : Type} [DecidableEq κ] {kvs : List (κ × V)} {ts : List (κ × T)} {k : κ} {v : V} {t : T} (e : kvs.map (·.1) = ts.map (·.1)) : (L2.putK kvs k v).map (·.1) = (putT ts k t).map (·.1) := by
  have ea : (kvs.any fun kv => decide (kv.1 = k)) = (ts.any fun kv => decide (kv.1 = k)) := by
    have : ∀ {β : Type} (l : List (κ × β)), (l.any fun kv => decide (kv.1 = k)) = (l.map (·.1)).any fun x => decide (x = k) := fun l => by rw [List.any_map]; rfl
    rw [this kvs, this ts, e]
  unfold L2.putK putT
  rw [ea]
  split
  · rw [List.map_map, List.map_map]
    have key : ∀ {β : Type} (l : List (κ × β)) (w : β), l.map ((·.1) ∘ fun kv => if kv.1 = k then (kv.1, w) else kv) = l.map (·.1) := fun l w => by
      apply List.map_congr_left
      intro p _
      show (if p.1 = k then (p.1, w) else p).1 = p.1
      split <;> rfl
    rw [key, key, e]
  · simp [e]
theorem putT_vals {κ : Type} [DecidableEq κ] {k : κ} {v : V} {t : T} (r : Rp K ρ L H v t) : ∀ {kvs : List (κ × V)} {ts : List (κ × T)}, kvs.map (·.1) = ts.map (·.1) → RpL K ρ L H (kvs.map (·.2)) (ts.map (·.2)) → RpL K ρ L H ((L2.putK kvs k v).map (·.2)) ((putT ts k t).map (·.2)) := by
  intro kvs ts e q
  have ea : (kvs.any fun kv => decide (kv.1 = k)) = (ts.any fun kv => decide (kv.1 = k)) := by
    have : ∀ {β : Type} (l : List (κ × β)), (l.any fun kv => decide (kv.1 = k)) = (l.map (·.1)).any fun x => decide (x = k) := fun l => by rw [List.any_map]; rfl
    rw [this kvs, this ts, e]
  unfold L2.putK putT
  rw [ea]
  split
  · rename_i hc
    clear hc ea
    induction kvs generalizing ts with
    | nil => cases ts with
      | nil => exact .nil
      | cons _ _ => simp at e
    | cons p kvs ih => cases ts with
      | nil => simp at e
      | cons p' ts =>
        simp only [List.map_cons, List.cons.injEq] at e
        simp only [List.map_cons] at q
        cases q with
        | cons q1 q2 =>
          rw [List.map_cons, List.map_cons, List.map_cons, List.map_cons]
          refine .cons ?_ (ih e.2 q2)
          rw [e.1]
          split <;> assumption
  · rw [List.map_append, List.map_append]
    exact q.append (.cons r .nil)
theorem mergeT_of : ∀ {more : List (Key × V)} {mt : List (Key × T)} {kvs : List (Key × V)} {ts : List (Key × T)}, more.map (·.1) = mt.map (·.1) → RpL K ρ L H (more.map (·.2)) (mt.map (·.2)) → kvs.map (·.1) = ts.map (·.1) → RpL K ρ L H (kvs.map (·.2)) (ts.map (·.2)) →
    (mergeK kvs more).map (·.1) = (mergeT ts mt).map (·.1) ∧ RpL K ρ L H ((mergeK kvs more).map (·.2)) ((mergeT ts mt).map (·.2))
  | [], [], kvs, ts, _, _, e, r => ⟨e, r⟩
  | p :: more, p' :: mt, kvs, ts, e1, r1, e, r => by
    simp only [List.map_cons, List.cons.injEq] at e1
    simp only [List.map_cons] at r1
    cases r1 with
    | cons q1 q2 =>
      unfold mergeK mergeT
      rw [List.foldl_cons, List.foldl_cons]
      have := mergeT_of (kvs := L2.putK kvs p.1 p.2) (ts := putT ts p'.1 p'.2) e1.2 q2 (by rw [e1.1]; exact putT_keys e) (by rw [e1.1]; exact putT_vals q1 e r)
      exact this
  | [], _ :: _, _, _, e, _, _, _ => by simp at e
  | _ :: _, [], _, _, e, _, _, _ => by simp at e
theorem pairsK_of : ∀ {l : List T} {xs : List V} {kvs : List (Key × T)}, pairsK l = some kvs → RpL K ρ L H xs l → ∃ (ps : List Addr) (vs : List (Key × V)), xs = ps.map V.ref ∧ Paired (fun p kv => SqT K H p [kV kv.1, kv.2]) ps vs ∧ vs.map (·.1) = kvs.map (·.1) ∧ RpL K ρ L H (vs.map (·.2)) (kvs.map (·.2))
  | [], _, _, e, r => by
    simp only [pairsK, Option.some.injEq] at e
    subst e
    cases r
    exact ⟨[], [], rfl, .nil, rfl, .nil⟩
  | t :: l, _, _, e, r => by
    cases r with
    | cons r1 r2 =>
      unfold pairsK at e
      split at e
      · cases ‹_ = []›
      · rename_i k v r' hh
        cases hh
        split at e
        · rename_i i qq e2
          cases e
          obtain ⟨ps, vs, rfl, p, e3, r3⟩ := pairsK_of e2 r2
          cases r1 with
          | tup f r4 =>
            cases r4 with
            | cons ra rb =>
              cases ra
              cases rb with
              | cons rb rc =>
                cases rc
                exact ⟨_ :: ps, (.inl _, _) :: vs, rfl, .cons f.sq p, by simp [e3], .cons rb r3⟩
        · rename_i i qq e2
          cases e
          obtain ⟨ps, vs, rfl, p, e3, r3⟩ := pairsK_of e2 r2
          cases r1 with
          | tup f r4 =>
            cases r4 with
            | cons ra rb =>
              cases ra
              cases rb with
              | cons rb rc =>
                cases rc
                exact ⟨_ :: ps, (.inr _, _) :: vs, rfl, .cons f.sq p, by simp [e3], .cons rb r3⟩
        · cases e
      · cases e
theorem fn_dictK (hc : X.calm = true) : CallR X (.type "dict") (rFn1 X.K dictT) := by
  intro pins s σ H xs us Q I rx h
  obtain ⟨ρ, L, v, t, r, rfl, m, h1, e, q⟩ := h
  unfold dictT at e
  split at e
  · rw [Option.map_eq_some_iff] at e
    obtain ⟨kvs, e, rfl⟩ := e
    obtain ⟨a, ys, rfl, f, r1⟩ := h1.lst
    obtain ⟨ps, vs, rfl, p, e3, r3⟩ := pairsK_of e r1
    obtain ⟨k1, k2⟩ := mergeT_of (kvs := []) (ts := []) e3 r3 rfl .nil
    exact call_dictP hc pins s σ H _ us Q I rx ⟨a, ps, vs, rfl, SqL.of f, p, fun p hp => q _ _ ⟨p, _, rfl, hp, rfl, k1, k2⟩⟩
  · cases e
end
end L2.TV

set_option maxHeartbeats 1000000
/-! Dicts of the text's top, read alone. -/
namespace L2.TV
open PySem PySem.Spec PyProof.Rows PpSet
section
variable {κ : Type} [DecidableEq κ]
/-- the entries of a table -/
def EntOk (K : PySem.W.Frag) (hash : κ → Int) (is : κ → Value → Bool) : List DictEntry → List (κ × T) → Prop
  | [], [] => True
  | e :: es, p :: ps => is p.1 e.key = true ∧ e.hash = hash p.1 ∧ (∃ v, RelV v e.val ∧ ∀ ρ L H, Rp K ρ L H v p.2) ∧ EntOk K hash is es ps
  | _, _ => False
theorem EntOk.all {K : PySem.W.Frag} {hash : κ → Int} {is : κ → Value → Bool} : ∀ {es : List DictEntry} {ps : List (κ × T)}, EntOk K hash is es ps → ∀ e ∈ es, ∃ k, is k e.key = true ∧ e.hash = hash k
  | [], [], _, _, h => nomatch h
  | e :: es, p :: ps, ⟨h1, h2, _, h4⟩, e', h => by
    rcases List.mem_cons.mp h with rfl | h
    · exact ⟨_, h1, h2⟩
    · exact EntOk.all h4 e' h
theorem EntOk.find {K : PySem.W.Frag} {hash : κ → Int} {is : κ → Value → Bool} (inj : ∀ v a b, is a v = true → is b v = true → a = b) {k : κ} : ∀ {es : List DictEntry} {ps : List (κ × T)}, EntOk K hash is es ps →
    match ps.lookup k with
    | some t => ∃ u v, (es.find? fun e => is k e.key).map (·.val) = some u ∧ RelV v u ∧ ∀ ρ L H, Rp K ρ L H v t
    | none => (es.find? fun e => is k e.key).map (·.val) = none
  | [], [], _ => rfl
  | e :: es, p :: ps, ⟨h1, h2, ⟨v, h3, h3'⟩, h4⟩ => by
    obtain ⟨k', t'⟩ := p
    rw [List.lookup_cons]
    by_cases hk : k = k'
    · subst hk
      rw [show (k == k) = true by simp]
      exact ⟨e.val, v, by rw [List.find?_cons, h1] <;> rfl, h3, h3'⟩
    · have e1 : (k == k') = false := by simpa using hk
      have e2 : is k e.key = false := by
        cases z : is k e.key with
        | false => rfl
        | true => exact absurd (inj _ _ _ z h1) hk
      rw [e1, List.find?_cons, e2]
      exact EntOk.find inj h4
end
/-- the table at a -/
def TabOk (K : PySem.W.Frag) (w : World) (a : Addr) (tb : Tab) : Prop := ∃ (es : Array DictEntry) (n : Nat), K.lookup a = some ⟨.type "dict", none, .dict es n, #[]⟩ ∧ (a == sysModules) = false ∧ match tb with
  | .s l => EntOk K (hashStr w) Value.isStrOf es.toList l
  | .b l => EntOk K hB PpSet.isB es.toList l
section
variable {X : Cx} {a : Addr} {tb : Tab}
theorem TabOk.ix (h : TabOk X.K X.w a tb) : IxR X fun x y H Q => x = .ref a ∧ ∃ ρ L t r, Rp X.K ρ L H y t ∧ tb.get t = some r ∧ ∀ v, (∀ ρ L H, Rp X.K ρ L H v r) → Q v H := by
  obtain ⟨es, n, hl, hm, h⟩ := h
  intro value slice pins s σ H x y v u Q I rx ry hh hs
  obtain ⟨rfl, ρ, L, t, r, hy, e, q⟩ := hh
  obtain rfl : v = Value.ref a := rx
  cases tb with
  | s l =>
    cases t <;> simp only [Tab.get] at e <;> first | cases e | skip
    rename_i z
    cases hy
    obtain ⟨tk, rfl⟩ := ry
    have f := h.find Value.isStrOf_inj (k := z)
    rw [e] at f
    obtain ⟨u, v, f1, f2, f3⟩ := f
    have mp : s.heap.MapOf (strKind X.prog X.w) a (fun k => findBy Value.isStrOf es k) := ⟨_, es, n, I.kIn _ _ hl, ⟨rfl, rfl, rfl⟩, rfl, fun e he => h.all e (Array.mem_toList_iff.mpr he), fun _ => rfl⟩
    have f1' : findBy Value.isStrOf es z = some u := by
      obtain ⟨es⟩ := es
      unfold findBy
      rw [List.find?_toArray]
      exact f1
    exact tail_any mp.typeIs slot_dict_getitem.lookup (wpAny_getItem_of (strKind_is X.prog X.w z tk) mp f1' ⟨v, H, I.tok _, f2, q v f3⟩) hs
  | b l =>
    cases t <;> simp only [Tab.get] at e <;> first | cases e | skip
    rename_i z
    cases hy
    obtain rfl : u = Value.bool z := ry
    have f := h.find (boolK X.prog X.w).inj (k := z)
    rw [e] at f
    obtain ⟨u, v, f1, f2, f3⟩ := f
    have mp : s.heap.MapOf (boolK X.prog X.w) a (fun k => findBy PpSet.isB es k) := ⟨_, es, n, I.kIn _ _ hl, ⟨rfl, rfl, rfl⟩, rfl, fun e he => h.all e (Array.mem_toList_iff.mpr he), fun _ => rfl⟩
    have f1' : findBy PpSet.isB es z = some u := by
      obtain ⟨es⟩ := es
      unfold findBy
      rw [List.find?_toArray]
      exact f1
    exact tail_any mp.typeIs slot_dict_getitem.lookup (wpAny_getItem_of (boolK_is X.prog X.w z) mp f1' ⟨v, H, I.tok _, f2, q v f3⟩) hs
theorem TabOk.in_ (h : TabOk X.K X.w a tb) (no : Bool) : OpR X (compareOp (if no then .NotIn else .In)) fun x y H Q => y = .ref a ∧ ∃ ρ L t b, Rp X.K ρ L H x t ∧ tb.has t = some b ∧ Q (.bl (b != no)) H := by
  obtain ⟨es, n, hl, hm, h⟩ := h
  intro pins s σ H x y v u Q I rx ry hh
  obtain ⟨rfl, ρ, L, t, b, hx, e, q⟩ := hh
  obtain rfl : u = Value.ref a := ry
  cases tb with
  | s l =>
    cases t <;> simp only [Tab.has] at e <;> first | cases e | skip
    rename_i z
    cases hx
    obtain ⟨tk, rfl⟩ := rx
    have f := h.find Value.isStrOf_inj (k := z)
    have mp : s.heap.MapOf (strKind X.prog X.w) a (fun k => findBy Value.isStrOf es k) := ⟨_, es, n, I.kIn _ _ hl, ⟨rfl, rfl, rfl⟩, rfl, fun e he => h.all e (Array.mem_toList_iff.mpr he), fun _ => rfl⟩
    have f1' : (findBy Value.isStrOf es z).isSome = (l.lookup z).isSome := by
      obtain ⟨es⟩ := es
      unfold findBy
      rw [List.find?_toArray]
      cases e2 : l.lookup z with
      | none => rw [e2] at f; exact congrArg Option.isSome f
      | some t => rw [e2] at f; obtain ⟨u, v, f1, _⟩ := f; exact congrArg Option.isSome f1
    cases no with
    | false => exact wpAny_in_of (strKind_is X.prog X.w z tk) hm mp ⟨.bl _, H, I.tok _, rfl, by rw [f1']; simpa using q⟩
    | true => exact wpAny_notIn_of (strKind_is X.prog X.w z tk) hm mp ⟨.bl _, H, I.tok _, rfl, by rw [f1']; simpa using q⟩
  | b l =>
    cases t <;> simp only [Tab.has] at e <;> first | cases e | skip
    rename_i z
    cases hx
    obtain rfl : v = Value.bool z := rx
    have f := h.find (boolK X.prog X.w).inj (k := z)
    have mp : s.heap.MapOf (boolK X.prog X.w) a (fun k => findBy PpSet.isB es k) := ⟨_, es, n, I.kIn _ _ hl, ⟨rfl, rfl, rfl⟩, rfl, fun e he => h.all e (Array.mem_toList_iff.mpr he), fun _ => rfl⟩
    have f1' : (findBy PpSet.isB es z).isSome = (l.lookup z).isSome := by
      obtain ⟨es⟩ := es
      unfold findBy
      rw [List.find?_toArray]
      cases e2 : l.lookup z with
      | none => rw [e2] at f; exact congrArg Option.isSome f
      | some t => rw [e2] at f; obtain ⟨u, v, f1, _⟩ := f; exact congrArg Option.isSome f1
    cases no with
    | false => exact wpAny_in_of (boolK_is X.prog X.w z) hm mp ⟨.bl _, H, I.tok _, rfl, by rw [f1']; simpa using q⟩
    | true => exact wpAny_notIn_of (boolK_is X.prog X.w z) hm mp ⟨.bl _, H, I.tok _, rfl, by rw [f1']; simpa using q⟩
end
end L2.TV

set_option maxHeartbeats 1000000
/-! How a call binds its arguments, by place and by name. -/
namespace L2.TV
open PySem PySem.Spec PyProof.Rows
/-- the values in the parameters' order: the first by place, the others by name -/
def kwArgs {α : Type} (ps ks : List Str) (us ws : List α) : List α := ps.filterMap fun n => (ps.zip us ++ ks.zip ws).lookup n
/-- every parameter is given, none twice -/
def kwOk (ps : List Str) (np : Nat) (ks : List Str) : Bool := decide ((ps.take np ++ ks).Nodup) && decide (np ≤ ps.length) && (ks.all fun k => ps.contains k) && (ps.all fun n => (ps.take np ++ ks).contains n)
theorem zip_keys {α : Type} : ∀ (ps : List Str) (us : List α), us.length ≤ ps.length → (ps.zip us).map (·.1) = ps.take us.length
  | _, [], _ => by simp
  | [], _ :: _, h => by simp at h
  | p :: ps, u :: us, h => by simp [zip_keys ps us (by simpa using h)]
theorem lookup_of_key {α : Type} : ∀ {l : List (Str × α)} {n : Str}, n ∈ l.map (·.1) → ∃ v, l.lookup n = some v
  | [], _, h => by simp at h
  | (k, v) :: r, n, h => by
    rw [List.lookup_cons]
    by_cases e : n == k
    · rw [e]; exact ⟨v, rfl⟩
    · have e' : (n == k) = false := by simpa using e
      rw [e']
      have : n ∈ r.map (·.1) := by
        rcases List.mem_cons.mp h with z | z
        · exact (e (by rw [z]; simp)).elim
        · exact z
      exact lookup_of_key this
theorem key_of_lookup {α : Type} {l : List (Str × α)} {n : Str} {v : α} (h : l.lookup n = some v) : n ∈ l.map (·.1) := List.mem_map.mpr ⟨_, PySem.mem_of_lookup h, rfl⟩
theorem kw_loop {f : Str × Value → List (Str × Value) × List (Str × Value) → Sem (ForInStep (List (Str × Value) × List (Str × Value)))} {N : List Str}
    (hf : ∀ p st, N.contains p.1 = true → (st.1.lookup p.1).isSome = false → f p st = pure (.yield (st.1 ++ [p], st.2))) :
    ∀ (kw slots ex : List (Str × Value)), (∀ p ∈ kw, N.contains p.1 = true) → (slots.map (·.1) ++ kw.map (·.1)).Nodup → forIn kw (slots, ex) f = pure (slots ++ kw, ex)
  | [], slots, ex, _, _ => by rw [List.forIn_nil, List.append_nil]
  | p :: kw, slots, ex, h1, h2 => by
    have hn : (slots.lookup p.1).isSome = false := by
      cases e : slots.lookup p.1 with
      | none => rfl
      | some v =>
        have m := key_of_lookup e
        rw [List.nodup_append] at h2
        exact (h2.2.2 _ m _ List.mem_cons_self rfl).elim
    rw [List.forIn_cons, hf p (slots, ex) (h1 p List.mem_cons_self) hn]
    show forIn kw (slots ++ [p], ex) f = _
    rw [kw_loop hf kw (slots ++ [p]) ex (fun q hq => h1 q (List.mem_cons_of_mem _ hq)) (by simpa using h2)]
    simp
theorem filter_pairs {l : List (Str × Value)} : ∀ (ps : List Str), (∀ p ∈ ps, p ∈ l.map (·.1)) → ps.filterMap (fun n => (l.lookup n).map (n, ·)) = ps.zip (ps.filterMap fun n => l.lookup n) ∧ (ps.filterMap fun n => l.lookup n).length = ps.length
  | [], _ => by simp
  | p :: ps, h => by
    obtain ⟨v, e⟩ := lookup_of_key (h p List.mem_cons_self)
    obtain ⟨h1, h2⟩ := filter_pairs ps fun q hq => h q (List.mem_cons_of_mem _ hq)
    simp [List.filterMap_cons, e, h1, h2]
structure Plain (fd : FuncData) (ps : List Str) : Prop where
  po : fd.params.posonlyargs = []
  ko : fd.params.kwonlyargs = []
  va : fd.params.vararg = none
  ka : fd.params.kwarg = none
  df : fd.defaults = .none
  ps : fd.params.args.map (·.arg) = ps
theorem Plain.to {fd : FuncData} {ps : List Str} (p : Plain fd ps) {us ws : List Value} {ks : List Str} (hk : kwOk ps us.length ks = true) (hw : ws.length = ks.length) : bindArgs fd ⟨us, ks.zip ws⟩ = pure (ps.zip (kwArgs ps ks us ws)) := by
  simp only [kwOk, Bool.and_eq_true, decide_eq_true_eq, List.all_eq_true] at hk
  obtain ⟨⟨⟨h1, h2⟩, h3⟩, h4⟩ := hk
  have hz : (ks.zip ws).map (·.1) = ks := by rw [zip_keys ks ws (Nat.le_of_eq hw), hw, List.take_length]
  have kz : ∀ n ∈ ps, n ∈ (ps.zip us ++ ks.zip ws).map (·.1) := fun n hn => by
    rw [List.map_append, zip_keys ps us h2, hz]
    simpa using h4 n hn
  obtain ⟨f1, f2⟩ := filter_pairs (l := ps.zip us ++ ks.zip ws) ps kz
  unfold bindArgs
  simp only [p.po, p.ko, p.va, p.ka, p.df, p.ps, List.map_nil, List.nil_append, List.append_nil]
  rw [kw_loop (N := ps) (fun p st a b => by
    have a' : (ps.contains p.1 || ([] : List Str).contains p.1) = true := by rw [a]; rfl
    rw [if_pos a', b]
    rfl) (ks.zip ws) (ps.zip us) [] (fun q hq => h3 _ (List.of_mem_zip hq).1) (by rw [zip_keys ps us h2, hz]; exact h1)]
  have hgt : (decide (us.length > ps.length) && (none : Option Arg).isNone) = false := by simp; omega
  have miss : (ps.take ps.length).filter (fun n => ((ps.zip us ++ ks.zip ws).lookup n).isNone) = [] := by
    rw [List.take_length, List.filter_eq_nil_iff]
    intro n hn
    obtain ⟨v, e⟩ := lookup_of_key (kz n hn)
    simp [e]
  simp only [pure_bind]
  rw [hgt]
  simp only [Bool.false_eq_true, if_false]
  have e0 : (seqItems? Value.none : Sem _) = pure none := rfl
  rw [e0]
  simp only [pure_bind, Option.getD_none, List.drop_nil, List.length_nil, Nat.sub_zero]
  have miss' : (ps.take ps.length).filter (fun n => ((ps.zip us ++ ks.zip ws).lookup n).isNone) = [] := miss
  simp only [miss', List.isEmpty_nil, Bool.not_true, Bool.false_eq_true, if_false, List.drop_length, List.zip_nil_left, List.forIn_nil, pure_bind]
  unfold kwArgs
  rw [← f1]
/-- the places of the parameters among the written arguments -/
def kwIx (ps : List Str) (np : Nat) (ks : List Str) : List Nat := ps.map fun n => (ps.take np ++ ks).idxOf n
theorem lookup_idx {α : Type} (n : Str) : ∀ (l : List (Str × α)), l.lookup n = (l.map (·.2))[(l.map (·.1)).idxOf n]?
  | [] => by simp
  | (k, v) :: r => by
    rw [List.lookup_cons, List.map_cons, List.map_cons, List.idxOf_cons]
    by_cases e : n = k
    · subst e; simp
    · have e1 : (n == k) = false := by simpa using e
      have e2 : (k == n) = false := by simpa using Ne.symm e
      rw [e1, e2]
      simpa using lookup_idx n r
theorem kwArgs_pick {α : Type} {ps ks : List Str} {us ws : List α} (h : us.length ≤ ps.length) (hw : ws.length = ks.length) : kwArgs ps ks us ws = pick (kwIx ps us.length ks) (us ++ ws) := by
  unfold kwArgs kwIx pick
  rw [List.filterMap_map]
  congr 1
  funext n
  show (ps.zip us ++ ks.zip ws).lookup n = (us ++ ws)[(ps.take us.length ++ ks).idxOf n]?
  rw [lookup_idx, List.map_append, List.map_append, zip_keys ps us h, zip_keys ks ws (Nat.le_of_eq hw), hw, List.take_length]
  have e1 : ((ps.zip us).map (·.2)) = us := by rw [List.map_snd_zip]; exact h
  have e2 : ((ks.zip ws).map (·.2)) = ws := by rw [List.map_snd_zip]; exact Nat.le_of_eq hw
  rw [e1, e2]
theorem kwIx_lt {ps ks : List Str} {np : Nat} (h : kwOk ps np ks = true) : (kwIx ps np ks).length = ps.length ∧ ∀ i ∈ kwIx ps np ks, i < np + ks.length := by
  simp only [kwOk, Bool.and_eq_true, decide_eq_true_eq, List.all_eq_true] at h
  obtain ⟨⟨⟨h1, h2⟩, h3⟩, h4⟩ := h
  refine ⟨by simp [kwIx], fun i hi => ?_⟩
  obtain ⟨n, hn, rfl⟩ := List.mem_map.mp hi
  have m : n ∈ ps.take np ++ ks := by simpa using h4 n hn
  have := List.idxOf_lt_length_of_mem m
  rw [List.length_append, List.length_take] at this
  omega
theorem pick_len {α : Type} : ∀ {is : List Nat} {xs : List α}, (∀ i ∈ is, i < xs.length) → (pick is xs).length = is.length
  | [], _, _ => rfl
  | i :: is, xs, h => by
    have e : xs[i]? = some (xs[i]'(h i List.mem_cons_self)) := List.getElem?_eq_getElem _
    have := pick_len (is := is) (xs := xs) fun j hj => h j (List.mem_cons_of_mem _ hj)
    unfold pick at this ⊢
    rw [List.filterMap_cons, e]
    simp [this]
theorem Vals.pick : ∀ {is : List Nat} {xs : List V} {us : List Value}, Vals xs us → Vals (pick is xs) (pick is us)
  | [], _, _, _ => .nil
  | i :: is, xs, us, r => by
    have q := Vals.pick (is := is) r
    unfold TV.pick at q ⊢
    rw [List.filterMap_cons, List.filterMap_cons]
    cases e : xs[i]? with
    | none => rw [r.none_of e]; exact q
    | some x =>
      obtain ⟨u, e', ru⟩ := r.get e
      rw [e']
      exact .cons ru q
theorem RpL.pick {K : PySem.W.Frag} {ρ : List Addr} {L : Addr → Prop} {H : Hp} : ∀ {is : List Nat} {xs : List V} {ts : List T}, RpL K ρ L H xs ts → RpL K ρ L H (pick is xs) (pick is ts)
  | [], _, _, _ => .nil
  | i :: is, xs, ts, r => by
    have q := RpL.pick (is := is) r
    unfold TV.pick at q ⊢
    rw [List.filterMap_cons, List.filterMap_cons]
    cases e : xs[i]? with
    | none =>
      have : ts[i]? = none := by
        rw [List.getElem?_eq_none_iff] at e ⊢
        rw [← r.len]; exact e
      rw [this]; exact q
    | some x =>
      obtain ⟨t, e', ru⟩ := r.getV e
      rw [e']
      exact .cons ru q

/-! ### what a def promises -/
/-- a def's promise, where no guard stands around -/
structure FnG (P : Program) (w : World) (K : PySem.W.Frag) (mg : Str → Option Value) (base : Heap) (k : Nat) (f : Addr) (fd : FuncData) (ps : List Str) (sp : Sp) : Prop where
  len : ∀ vs H Q E, sp vs H Q E → vs.length = ps.length
  go : ∀ (A : Around) (outer : List Env) (s : Shared) (H : Hp) (args : Args) (us : List Value) (vs : List V) (Q : VK) (E : XK), Room k A → A.guards = some [] → Env0 P w K mg base A outer s H → BindsTo s fd args (ps.zip us) → Vals vs us → sp vs H Q E →
    codeAny (model P w) A (.call (.ref f) args) (CR (L2.CX P w) outer P w H s Q E) s
/-- by what the interpreter says of it -/
def spF (D : Wd) (C : List T → List Cell → RC) (n : Nat) : Sp := fun vs H Q E => ∃ (O : OX) (ρ : List Addr) (sto : List Cell) (ts : List T), vs.length = n ∧ RS D.K D.cls O ρ ⟨[], sto⟩ [] H ∧ RpL D.K ρ (Lv O ρ [] []) H vs ts ∧ match C ts sto with
  | .ok t sto' => ∀ v ρ' H', Le ρ [] [] H ρ' [] [] H' → RS D.K D.cls O ρ' ⟨[], sto'⟩ [] H' → Rp D.K ρ' (Lv O ρ' [] []) H' v t → Q v H'
  | .err c fs sto' => ∀ ρ' H' cv d, Le ρ [] [] H ρ' [] [] H' → XOk D O ρ' ⟨[], sto'⟩ [] H' c fs cv d → E cv d H'
  | .bad => False
end L2.TV

set_option maxHeartbeats 1000000
/-! Each construct of the IR: its syntax, and its reading. -/
namespace L2.TV
open PySem PySem.Spec PyProof.Rows

/-- the built-ins that a law uses -/
def bltN : List String := ["len", "tuple", "list", "sorted", "set", "all", "any", "int", "str", "repr", "abs", "sum", "min", "max", "dict", "range", "enumerate", "zip", "isinstance", "bool"]

structure GX (D : Wd) (G : Cfg) (X : Cx) (sc : Scope) : Prop where
  hK : X.K = D.K
  nd : X.N.Nodup
  calm : X.calm = true
  gu : X.A.guards = some []
  un : X.A.units + 200 < cLine
  kind : X.env.scope.kind = .function
  loc : ∀ x kd, sc.names.lookup x = some kd → kd ≠ .free → X.env.scope.names.lookup x = some kd
  fre : ∀ x, sc.names.lookup x = some .free → X.env.scope.names.lookup x = some .cell ∨ X.env.scope.names.lookup x = some .free
  fn : ∀ x, sc.names.lookup x = some .cell → X.fn x = true
  blt : ∀ x, x ∈ bltN → X.mg (Str.ofString x) = none
  sm : ∃ o, X.base.get? sysModules = some o
  fnk : ∀ f ps, G.params f = some ps → ∃ k a fd, FnG X.prog X.w X.K X.mg X.base k a fd ps (spF D (G.call f) ps.length) ∧ Room k X.A ∧ X.mg (Str.ofString f) = some (.ref a) ∧ PySem.W.keepIn X.K (.ref a) = true ∧ Plain fd ps
  cst : ∀ x t, G.cst x = some t → ∃ u v, X.mg (Str.ofString x) = some u ∧ RelV v u ∧ ∀ ρ L H, Rp X.K ρ L H v t
  tab : ∀ x tb, G.tab x = some tb → ∃ a, X.mg (Str.ofString x) = some (.ref a) ∧ TabOk X.K X.w a tb

/-! ### names -/
def visB (sc : Scope) (x : Str) : Bool := match sc.names.lookup x with
  | some .local => true
  | some .cell => true
  | some .free => true
  | _ => false
def locB (sc : Scope) (x : Str) : Bool := match sc.names.lookup x with
  | some .local => true
  | some .cell => true
  | _ => false
def oddN (x : Str) : Bool := (x == ("__debug__" : Str)) || (x == ("__classdict__" : Str)) || (x == ("__name__" : Str))
def slotB (N : List Str) (sc : Scope) (i : Nat) (x : Str) : Bool := N[i]? == some x && visB sc x && !oddN x
def glB (sc : Scope) (x : Str) (n : String) : Bool := x == Str.ofString n && sc.names.lookup x == some .globalImplicit && !oddN x
def notStar : Expr → Bool
  | .Starred _ _ => false
  | _ => true
def notSlice : Expr → Bool
  | .Slice _ _ _ _ => false
  | _ => true
def notSet : Expr → Bool
  | .Set _ _ _ => false
  | _ => true
theorem starEach_of {e : Expr} {es : List Expr} {env : Env} (h : notStar e = true) : starEach (e :: es) env = (false, eval e env) :: starEach es env := by
  cases e <;> first | rfl | cases h
theorem plainIx_of {e : Expr} (h : notSlice e = true) : PlainIx e := by
  intro o i
  cases e <;> first | rfl | cases h
theorem behind_of {op : CmpOp} {e : Expr} (h : notSet e = true) : behindInMarks op e = false := by
  cases e <;> first | rfl | cases h
theorem folded_of {e : Expr} {env : Env} (h : notSet e = true) (x : Value) : foldedSetIterable e env x = pure x := by
  cases e <;> first | rfl | cases h

section
variable {D : Wd} {G : Cfg} {X : Cx} {sc : Scope} {W : WX'}
theorem GX.vis (g : GX D G X sc) {x : Str} (h : visB sc x = true) : Vis X.env.scope x := by
  unfold visB at h
  cases e : sc.names.lookup x with
  | none => rw [e] at h; cases h
  | some kd =>
    rw [e] at h
    cases kd with
    | «local» => exact .inl (g.loc x _ e (by decide))
    | cell => exact .inr (.inl (g.loc x _ e (by decide)))
    | free => exact .inr ((g.fre x e).imp id id)
    | globalExplicit => cases h
    | globalImplicit => cases h
theorem GX.slot (g : GX D G X sc) {i : Nat} {x : Str} (h : slotB X.N sc i x = true) : X.N[i]? = some x ∧ Vis X.env.scope x ∧ (x == ("__debug__" : Str)) = false ∧ (x == ("__classdict__" : Str)) = false := by
  unfold slotB oddN at h
  rw [Bool.and_eq_true, Bool.and_eq_true] at h
  have h3 := h.2
  simp only [Bool.not_eq_true', Bool.or_eq_false_iff] at h3
  exact ⟨by simpa using h.1.1, g.vis h.1.2, h3.1.1, h3.1.2⟩
theorem GX.gl (g : GX D G X sc) {x : Str} {n : String} (h : glB sc x n = true) : x = Str.ofString n ∧ Gl X x ∧ (x == ("__debug__" : Str)) = false ∧ x ≠ "__name__" := by
  unfold glB oddN at h
  rw [Bool.and_eq_true, Bool.and_eq_true] at h
  have h3 := h.2
  simp only [Bool.not_eq_true', Bool.or_eq_false_iff] at h3
  have e : x = Str.ofString n := by simpa using h.1.1
  refine ⟨e, ?_, h3.1.1, fun z => ?_⟩
  · have := g.loc x .globalImplicit (by simpa using h.1.2) (by decide)
    exact this
  · have := h3.2
    rw [z] at this
    simp at this

/-- a reading that asks more -/
theorem _root_.L2.PE.of {e : Expr} {t t' : TE} (h : PE X e t) (f : ∀ σ H Q, t' σ H Q → t σ H Q) : PE X e t' := ⟨fun pins s σ H Q I w => h.run pins s σ H Q I (f σ H Q w)⟩
theorem _root_.L2.PT.of {e : Expr} {t t' : TT} (h : PT X e t) (f : ∀ σ H Q, t' σ H Q → t σ H Q) : PT X e t' := ⟨fun pins s σ H Q I w => h.run pins s σ H Q I (f σ H Q w)⟩
theorem _root_.L2.PA.of {e : List Expr} {t t' : TA} (h : PA X e t) (f : ∀ σ H Q, t' σ H Q → t σ H Q) : PA X e t' := ⟨fun pos pins s σ H Q I w => h.run pos pins s σ H Q I (f σ H Q w)⟩

/-- a value at once -/
theorem snd_now {e : Expr} {ir : IE} {v : V} {t : T} (h : PE X e (tC v)) (he : ∀ s, ev G ir s = .ok (.v t) s) (r : ∀ ρ L H, Rp D.K ρ L H v t) : PE X e (tF D G W ir) :=
  h.of fun σ H Q ⟨O, ρ, s, rs, o⟩ => by
    rw [he] at o
    exact o v ρ H Le.refl ⟨rs, r _ _ _⟩
theorem snd_int {i : Int} {j : Nat} {p : Pos} : PE X (.Constant (.int i) j p) (tF D G W (.int i)) := snd_now pe_int (fun _ => by simp only [ev]) fun _ _ _ => .int i
theorem snd_bl {i : Bool} {j : Nat} {p : Pos} : PE X (.Constant (.bool i) j p) (tF D G W (.bl i)) := snd_now pe_bl (fun _ => by simp only [ev]) fun _ _ _ => .bl i
theorem snd_non {j : Nat} {p : Pos} : PE X (.Constant .none j p) (tF D G W .non) := snd_now pe_non (fun _ => by simp only [ev]) fun _ _ _ => .non
theorem snd_str {i : String} {j : Nat} {p : Pos} : PE X (.Constant (.str (Str.ofString i)) j p) (tF D G W (.str i)) := snd_now pe_str (fun _ => by simp only [ev]) fun _ _ _ => .str _
theorem snd_cst (g : GX D G X sc) {x : Str} {n : String} {p : Pos} (h : glB sc x n = true) : PE X (.Name x p) (tF D G W (.cst n)) := by
  obtain ⟨rfl, gl, hd, hn⟩ := g.gl h
  cases e : G.cst n with
  | none => exact ⟨fun pins s σ H Q I ⟨O, ρ, s', rs, o⟩ => by simp only [ev, e] at o; exact o.elim⟩
  | some t =>
    obtain ⟨u, v, f1, f2, f3⟩ := g.cst n t e
    exact snd_now (pe_glob gl f1 f2 hd) (fun s => by simp only [ev, e]) fun ρ L H => g.hK ▸ f3 ρ L H
/-- an own slot becomes known to others -/
theorem RS.free {O : OX} {ρ : List Addr} {s : S} {σ : St} {H : Hp} {i : Nat} {x : Slot} {t : T} {a : Addr} (r : RS D.K D.cls O ρ s σ H) (e : s.env[i]? = some x) (ex : x.isOwn = true) (ea : σ[i]? = some (some (.ref a)))
    (ht : ∀ {L : Addr → Prop}, ¬ L a → OwnOk D.K ρ L H a x → Rp D.K ρ L H (.ref a) t) :
    RS D.K D.cls O ρ (setE s i (.val t)) σ H ∧ Le ρ s.env σ H ρ (setE s i (.val t)).env σ H ∧ Rp D.K ρ (Lv O ρ (setE s i (.val t)).env σ) H (.ref a) t := by
  have hi : i < s.env.length := (List.getElem?_eq_some_iff.mp e).1
  have get : ∀ j : Nat, (setE s i (.val t)).env[j]? = if i = j then some (.val t) else s.env[j]? := fun j => by
    show (s.env.set i (.val t))[j]? = _
    rw [List.getElem?_set]
    by_cases h : i = j
    · subst h; simp [hi]
    · simp [h]
  have own : ∀ b, OwnA (setE s i (.val t)).env σ b → OwnA s.env σ b ∧ b ≠ a := fun b ⟨j, y, f1, f2, f3⟩ => by
    rw [get] at f1
    by_cases h : i = j
    · rw [if_pos h] at f1; cases f1; cases f2
    · rw [if_neg h] at f1
      exact ⟨⟨j, y, f1, f2, f3⟩, fun z => h (r.inj i j x y a e f1 ex f2 ea (z ▸ f3))⟩
  have sub : ∀ b, Lv O ρ (setE s i (.val t)).env σ b → Lv O ρ s.env σ b := fun b l => l.imp id (Or.imp id fun z => (own b z).1)
  obtain ⟨a', g1, g2, g3, g4⟩ := r.own i x e ex
  rw [ea] at g1; cases g1
  have na : ¬ Lv O ρ (setE s i (.val t)).env σ a := fun l => by
    rcases l with l | l | l
    · exact g3 l
    · exact g2 l
    · exact (own a l).2 rfl
  have rt := ht na (g4.sub sub)
  refine ⟨⟨r.nd, r.len, fun j u f => ?_, fun j y f1 f2 => ?_, fun j k y z b f1 f2 f3 f4 f5 f6 => ?_, fun n c b f1 f2 => (r.cell n c b f1 f2).sub sub, r.out, by show (s.env.set i _).length = _; rw [List.length_set]; exact r.elen⟩, ⟨fun _ _ h => h, fun _ h => .inl h, fun b h => .inl (own b h).1, fun _ _ h _ _ => h, fun _ o h => ⟨o, h⟩⟩, rt⟩
  · rw [get] at f
    by_cases h : i = j
    · rw [if_pos h] at f; cases f; subst h
      exact ⟨_, ea, rt⟩
    · rw [if_neg h] at f
      obtain ⟨v, q1, q2⟩ := r.slot j u f
      exact ⟨v, q1, q2.sub sub⟩
  · rw [get] at f1
    by_cases h : i = j
    · rw [if_pos h] at f1; cases f1; cases f2
    · rw [if_neg h] at f1
      obtain ⟨b, q1, q2, q3, q4⟩ := r.own j y f1 f2
      exact ⟨b, q1, q2, q3, q4.sub sub⟩
  · rw [get] at f1 f2
    by_cases h : i = j
    · rw [if_pos h] at f1; cases f1; cases f3
    · rw [if_neg h] at f1
      by_cases h' : i = k
      · rw [if_pos h'] at f2; cases f2; cases f4
      · rw [if_neg h'] at f2
        exact r.inj j k y z b f1 f2 f3 f4 f5 f6
theorem snd_var (g : GX D G X sc) {x : Str} {i : Nat} {p : Pos} (h : slotB X.N sc i x = true) : PE X (.Name x p) (tF D G W (.var i)) := by
  obtain ⟨h1, h2, h3, h4⟩ := g.slot h
  refine (pe_var h1 h2 h3 h4).of fun σ H Q ⟨O, ρ, s, rs, o⟩ => ?_
  simp only [ev, rdVar] at o
  cases e : s.env[i]? with
  | none => rw [e] at o; exact o.elim
  | some x =>
    rw [e] at o
    cases x with
    | none => exact o.elim
    | val t =>
      obtain ⟨v, q1, q2⟩ := rs.slot i t e
      exact ⟨v, q1, o v ρ H Le.refl ⟨rs, q2⟩⟩
    | own l =>
      obtain ⟨a, q1, _⟩ := rs.own i _ e rfl
      obtain ⟨r', l', t'⟩ := rs.free (t := .lst l) e rfl q1 fun {L} n ok => by obtain ⟨xs, f, r⟩ := ok; exact .lst f n r
      exact ⟨_, q1, o _ ρ H l' ⟨r', t'⟩⟩
    | ownK l =>
      obtain ⟨a, q1, _⟩ := rs.own i _ e rfl
      obtain ⟨r', l', t'⟩ := rs.free (t := .dk l) e rfl q1 fun {L} n ok => by obtain ⟨xs, f, j, r⟩ := ok; exact .dk (.inl f) n j r
      exact ⟨_, q1, o _ ρ H l' ⟨r', t'⟩⟩
    | ownT l =>
      obtain ⟨a, q1, _⟩ := rs.own i _ e rfl
      obtain ⟨r', l', t'⟩ := rs.free (t := .dt l) e rfl q1 fun {L} n ok => by obtain ⟨xs, f, j, r⟩ := ok; exact .dt f n j r
      exact ⟨_, q1, o _ ρ H l' ⟨r', t'⟩⟩
end
end L2.TV

set_option maxHeartbeats 1000000
namespace L2.TV
open PySem PySem.Spec PyProof.Rows
section
variable {D : Wd} {G : Cfg} {X : Cx} {sc : Scope} {W : WX'} {O O' O1 : OX} {ρ ρ' ρ0 : List Addr} {env env' env0 : List Slot} {σ σ0 : St} {H H0 H' H1 : Hp} {s s' s1 : S} {v : V} {r : Rt} {K : PySem.W.Frag} {L L' : Addr → Prop}
theorem Rq.sub (h : ∀ a, L' a → L a) {t : T} (q : Rq K ρ L H v t) : Rq K ρ L' H v t := by
  cases q with
  | v q => exact .v (q.sub h)
  | l e r => exact .l e (r.sub h)
  | k e i r => exact .k e i (r.sub h)
  | d e i r => exact .d e i (r.sub h)
theorem OutOk.fin (sub : ∀ a, O a → O' a) (rs : RS D.K D.cls O' ρ s σ H) (l0 : Le ρ0 env0 σ0 H0 ρ s.env σ H) (ok : OutOk D.K ρ (Lv O' ρ s.env σ) H H' v r) :
    Le ρ s.env σ H ρ s.env σ H' ∧ RtOk D O ρ s σ H0 H' v r := by
  have fr : ∀ {p o}, H p = none → Mut (some o) → Le ρ s.env σ H ρ s.env σ (upd H p o) ∧ ¬ O p ∧ RS D.K D.cls (OX.add O p) ρ s σ (upd H p o) := fun {p o} hp mu => by
    refine ⟨Le.same (Same.upd_new hp), fun z => ?_, (rs.fresh hp mu).sub fun a z => z.imp (sub a) id⟩
    obtain ⟨_, o', e, _⟩ := rs.out p (sub p z)
    rw [hp] at e; cases e
  have rel : ∀ {p o xs ts}, H p = none → RpL D.K ρ (Lv O' ρ s.env σ) H xs ts → RpL D.K ρ (Lv (OX.add O p) ρ s.env σ) (upd H p o) xs ts := fun {p o xs ts} hp q => by
    refine q.kp ⟨fun _ _ e => e, fun a o' e _ => Same.upd_new hp a o' e, fun a l => ?_⟩ rs.mut
    rcases l with l | (l | l) | l
    · exact .inl (.inl l)
    · exact .inl (.inr (.inl (sub a l)))
    · subst l; exact .inr hp
    · exact .inl (.inr (.inr l))
  cases r with
  | v t => exact ⟨Le.same ok.1, (rs.sub sub).same ok.1, ok.2.sub (Lv.sub sub)⟩
  | l ts =>
    obtain ⟨p, xs, rfl, hp, rfl, q⟩ := ok
    obtain ⟨a, b, c⟩ := fr (o := .lst xs) hp trivial
    exact ⟨a, p, xs, rfl, l0.none hp, b, c, upd_same, rel hp q⟩
  | k ts =>
    obtain ⟨p, xs, rfl, hp, rfl, i, q⟩ := ok
    obtain ⟨a, b, c⟩ := fr (o := .dK xs) hp trivial
    exact ⟨a, p, xs, rfl, l0.none hp, b, c, upd_same, i, rel hp q⟩
  | d ts =>
    obtain ⟨p, xs, rfl, hp, rfl, i, q⟩ := ok
    obtain ⟨a, b, c⟩ := fr (o := .dT xs) hp trivial
    exact ⟨a, p, xs, rfl, l0.none hp, b, c, upd_same, i, rel hp q⟩
  | b i => exact ok.elim
theorem out_of {P : Rt → S → Prop} {o : Option Rt} (h : Out D W O ρ env σ H (R.opt o s) P) : ∃ r, o = some r ∧ P r s := h.opt

/-- two operands reckoned in a row -/
theorem two_of {β : Type} {a b : IE} {Q : V → V → Hp → Prop} {f : Rt → Rt → S → R β} {P : β → S → Prop} (rs : RS D.K D.cls O ρ s σ H)
    (o : Out D W O ρ s.env σ H ((ev G a s).bind fun x s1 => (ev G b s1).bind fun y s2 => f x y s2) P)
    (h : ∀ (x y : Rt) (s2 : S) (v1 v2 : V) (O' : OX) (ρ2 : List Addr) (H2 : Hp), (∀ a, O a → O' a) → RS D.K D.cls O' ρ2 s2 σ H2 → Le ρ s.env σ H ρ2 s2.env σ H2 → Out D W O ρ2 s2.env σ H2 (f x y s2) P →
      (∀ t, x.res s2 = some t → Rq D.K ρ2 (Lv O' ρ2 s2.env σ) H2 v1 t) → (∀ t, y.res s2 = some t → Rq D.K ρ2 (Lv O' ρ2 s2.env σ) H2 v2 t) → (∀ t, y.t = some t → Rp D.K ρ2 (Lv O ρ2 s2.env σ) H2 v2 t) → (∀ t, x.t = some t → Rp D.K ρ2 (Lv O ρ2 s2.env σ) H2 v1 t) → Q v1 v2 H2) :
    tF D G W a σ H fun x H1 => tF D G W b σ H1 fun y H2 => Q x y H2 := by
  refine ⟨O, ρ, s, rs, (Out.bind o).mono fun x s1 h1 v1 ρ1 H1 l1 ok1 => ?_⟩
  obtain ⟨O1, sub1, rs1, hold1⟩ := ok1.hold
  refine ⟨O1, ρ1, s1, rs1, ((Out.bind (h1 ρ1 H1 l1)).wider sub1).mono fun y s2 h2 v2 ρ2 H2 l2 ok2 => ?_⟩
  have hv := fun t (e : y.t = some t) => (ok2.val e).2.sub (Lv.sub (ρ := ρ2) (env := s2.env) (σ := σ) sub1)
  obtain ⟨O2, sub2, rs2, hold2⟩ := ok2.hold
  exact h x y s2 v1 v2 O1 ρ2 H2 sub1 (rs2.sub sub2) (l1.trans l2) (h2 ρ2 H2 l2) (fun t e => hold1 l2 (rs2.sub sub2) e) (fun t e => (hold2 Le.refl rs2 e).sub (Lv.sub sub2)) hv fun t e => (ok1.val e).2.le (ok1.val e).1 l2

theorem snd_bin (g : GX D G X sc) (o : Bop) {a b : IE} {ea eb : Expr} {p : Pos} (ha : PE X ea (tF D G W a)) (hb : PE X eb (tF D G W b)) : PE X (.BinOp ea o.op eb p) (tF D G W (.bin o a b)) := by
  refine (pe_op (op_bin o) ha hb).of fun σ H Q ⟨O, ρ, s, rs, h⟩ => ?_
  simp only [ev] at h
  refine two_of rs h fun x y s2 v1 v2 O' ρ2 H2 sub rs2 l q q1 q2 _ _ => ?_
  cases e1 : x.res s2 with
  | none => rw [e1] at q; exact q.elim
  | some t =>
    cases e2 : y.res s2 with
    | none => rw [e1, e2] at q; exact q.elim
    | some u =>
      rw [e1, e2] at q
      obtain ⟨r, e, q⟩ := Out.opt q
      refine ⟨ρ2, Lv O' ρ2 s2.env σ, t, u, r, rs2.mut, g.hK ▸ q1 t e1, g.hK ▸ q2 u e2, e, fun v H' ok => ?_⟩
      obtain ⟨l', ok'⟩ := OutOk.fin (D := D) sub rs2 l (g.hK ▸ ok)
      exact q v ρ2 H' (l.trans l') ok'
theorem snd_cmp (g : GX D G X sc) (o : Cop) {a b : IE} {ea eb : Expr} {p : Pos} (ha : PE X ea (tF D G W a)) (hb : PE X eb (tF D G W b)) (hn : notSet eb = true) : PE X (.Compare ea [o.op] [eb] p) (tF D G W (.cmp o a b)) := by
  have hu : X.A.units + 65 < cLine := by have := g.un; omega
  refine (pe_cmpR (op_cmp hu o) ha hb (behind_of hn)).of fun σ H Q ⟨O, ρ, s, rs, h⟩ => ?_
  simp only [ev] at h
  refine two_of rs h fun x y s2 v1 v2 O' ρ2 H2 sub rs2 l q q1 q2 _ _ => ?_
  cases e1 : x.res s2 with
  | none => rw [e1] at q; exact q.elim
  | some t =>
    cases e2 : y.res s2 with
    | none => rw [e1, e2] at q; exact q.elim
    | some u =>
      rw [e1, e2] at q
      obtain ⟨r, e, q⟩ := Out.opt q
      rw [Option.map_eq_some_iff] at e
      obtain ⟨k, e, rfl⟩ := e
      exact ⟨ρ2, Lv O' ρ2 s2.env σ, t, u, k, g.hK ▸ q1 t e1, g.hK ▸ q2 u e2, e, q _ ρ2 H2 l ⟨rs2.sub sub, .bl k⟩⟩
theorem snd_ix (g : GX D G X sc) {a b : IE} {ea eb : Expr} {p : Pos} (ha : PE X ea (tF D G W a)) (hb : PE X eb (tF D G W b)) (hn : notSlice eb = true) : PE X (.Subscript ea eb p) (tF D G W (.ix a b)) := by
  have hu : X.A.units + 65 < cLine := by have := g.un; omega
  refine (pe_ix ((ix_G hu).or ix_list) ha hb (plainIx_of hn)).of fun σ H Q ⟨O, ρ, s, rs, h⟩ => ?_
  simp only [ev] at h
  refine two_of rs h fun x y s2 v1 v2 O' ρ2 H2 sub rs2 l q q1 qy q2 qx => ?_
  cases e1 : x.res s2 with
  | none => rw [e1] at q; exact q.elim
  | some t =>
    cases e2 : y.t with
    | none => rw [e1, e2] at q; cases t <;> exact q.elim
    | some u =>
      rw [e1, e2] at q
      have r2 : Rp D.K ρ2 (Lv O ρ2 s2.env σ) H2 v2 u := q2 u e2
      have gen : ∀ r, ixT t u = some r → Out D W O ρ2 s2.env σ H2 (R.opt (some (Rt.v r)) s2) (fun r s' => ∀ v ρ' H', Le ρ s.env σ H ρ' s'.env σ H' → RtOk D O ρ' s' σ H H' v r → Q v H') → rIxG X.K v1 v2 H2 Q := fun r e q =>
        ⟨ρ2, Lv O ρ2 s2.env σ, t, u, r, g.hK ▸ (q1 t e1).sub (Lv.sub sub), g.hK ▸ .v r2, e, fun v rv => q v ρ2 H2 l ⟨rs2.sub sub, g.hK ▸ rv⟩⟩
      by_cases hr : ∃ n, t = .ref n
      · obtain ⟨n, rfl⟩ := hr
        have rt := (q1 _ e1)
        cases rt with
        | v rt => cases rt with
          | ref f =>
            rename_i a
            cases u with
            | int i =>
              simp only at q
              cases f2 : s2.sto[n]? with
              | none => rw [f2] at q; exact q.elim
              | some c =>
                rw [f2] at q
                cases c with
                | ins c fs => exact q.elim
                | lst ls =>
                  obtain ⟨r, e, q⟩ := Out.opt q
                  rw [Option.map_eq_some_iff] at e
                  obtain ⟨z, e, rfl⟩ := e
                  obtain ⟨xs, g1, g2⟩ := rs2.cell n _ a f2 f
                  obtain ⟨w, g3, g4⟩ := g2.atI e
                  cases r2
                  exact .inr ⟨a, xs, i, w, rfl, rfl, SqL.of g1, g3, q w ρ2 H2 l ⟨rs2.sub sub, g4.sub (Lv.sub sub)⟩⟩
            | _ => exact (Out.opt q).elim fun r ⟨e, _⟩ => by simp [ixT] at e
      · have q' : Out D W O ρ2 s2.env σ H2 (R.opt ((ixT t u).map .v) s2) (fun r s' => ∀ v ρ' H', Le ρ s.env σ H ρ' s'.env σ H' → RtOk D O ρ' s' σ H H' v r → Q v H') := by
          cases t with
          | ref n => exact (hr ⟨n, rfl⟩).elim
          | _ => exact q
        obtain ⟨r, e, q⟩ := Out.opt q'
        rw [Option.map_eq_some_iff] at e
        obtain ⟨z, e, rfl⟩ := e
        exact .inl (gen z e q)
end
end L2.TV

set_option maxHeartbeats 1000000
namespace L2.TV
open PySem PySem.Spec PyProof.Rows
section
variable {D : Wd} {G : Cfg} {X : Cx} {sc : Scope} {W : WX'} {O O' O1 : OX} {ρ ρ' ρ0 : List Addr} {env env' env0 : List Slot} {σ σ0 : St} {H H0 H' H1 : Hp} {s s' s1 : S} {v : V} {r : Rt} {K : PySem.W.Frag} {L L' : Addr → Prop}
/-- one operand reckoned -/
theorem one_of {a : IE} {Q : V → Hp → Prop} {β : Type} {f : Rt → S → R β} {P : β → S → Prop} (rs : RS D.K D.cls O ρ s σ H) (o : Out D W O ρ s.env σ H ((ev G a s).bind f) P)
    (h : ∀ (x : Rt) (s1 : S) (v1 : V) (O' : OX) (ρ1 : List Addr) (H1 : Hp), (∀ a, O a → O' a) → RS D.K D.cls O' ρ1 s1 σ H1 → Le ρ s.env σ H ρ1 s1.env σ H1 → Out D W O ρ1 s1.env σ H1 (f x s1) P →
      (∀ t, x.res s1 = some t → Rq D.K ρ1 (Lv O' ρ1 s1.env σ) H1 v1 t) → (∀ t, x.t = some t → Rp D.K ρ1 (Lv O ρ1 s1.env σ) H1 v1 t) → RtOk D O ρ1 s1 σ H H1 v1 x → Q v1 H1) :
    tF D G W a σ H Q := by
  refine ⟨O, ρ, s, rs, (Out.bind o).mono fun x s1 h1 v1 ρ1 H1 l1 ok1 => ?_⟩
  obtain ⟨O1, sub1, rs1, hold1⟩ := ok1.hold
  exact h x s1 v1 O1 ρ1 H1 sub1 rs1 l1 (h1 ρ1 H1 l1) (fun t e => hold1 Le.refl rs1 e) (fun t e => (ok1.val e).2) ok1
theorem snd_not (g : GX D G X sc) {a : IE} {ea : Expr} {p : Pos} (ha : PE X ea (tF D G W a)) : PE X (.UnaryOp .Not ea p) (tF D G W (.not a)) := by
  refine (pe_notT ha).of fun σ H Q ⟨O, ρ, s, rs, h⟩ => ?_
  simp only [ev] at h
  refine one_of rs h fun x s1 v1 O' ρ1 H1 sub rs1 l q q1 _ _ => ?_
  cases e1 : x.res s1 with
  | none => rw [e1] at q; exact q.elim
  | some t =>
    rw [e1] at q
    dsimp only at q
    cases e2 : truth t with
    | none => rw [e2] at q; exact q.elim
    | some k =>
      rw [e2] at q
      exact ⟨k, tru_T (g.hK ▸ q1 t e1) e2, q _ ρ1 H1 l ⟨rs1.sub sub, .bl _⟩⟩
theorem snd_neg (g : GX D G X sc) {a : IE} {ea : Expr} {p : Pos} (ha : PE X ea (tF D G W a)) : PE X (.UnaryOp .USub ea p) (tF D G W (.neg a)) := by
  refine (pe_un un_neg ha).of fun σ H Q ⟨O, ρ, s, rs, h⟩ => ?_
  simp only [ev] at h
  refine one_of rs h fun x s1 v1 O' ρ1 H1 sub rs1 l q _ q1 _ => ?_
  cases e1 : x.t with
  | none => rw [e1] at q; exact q.elim
  | some t =>
    rw [e1] at q
    have r1 := q1 t e1
    cases t with
    | int i => cases r1; exact ⟨i, rfl, q _ ρ1 H1 l ⟨rs1.sub sub, .int _⟩⟩
    | _ => exact q.elim
theorem snd_and (g : GX D G X sc) {a b : IE} {ea eb : Expr} {es : List Expr} {p : Pos} (ha : PE X ea (tF D G W a)) (hb : PE X (.BoolOp .And (eb :: es) p) (tF D G W b)) : PE X (.BoolOp .And (ea :: eb :: es) p) (tF D G W (.and a b)) := by
  refine (pe_andT ha hb).of fun σ H Q ⟨O, ρ, s, rs, h⟩ => ?_
  simp only [ev] at h
  refine one_of rs h fun x s1 v1 O' ρ1 H1 sub rs1 l q _ q1 _ => ?_
  cases e1 : x.t with
  | none => rw [e1] at q; exact q.elim
  | some t =>
    rw [e1] at q
    have r1 := q1 t e1
    dsimp only at q
    cases e2 : truth t with
    | none => rw [e2] at q; exact q.elim
    | some k =>
      rw [e2] at q
      refine ⟨k, tru_T (ρ := ρ1) (L := Lv O ρ1 s1.env σ) (g.hK ▸ .v r1) e2, ?_⟩
      cases k with
      | true => exact ⟨O, ρ1, s1, rs1.sub sub, Out.mono q fun r s' f v ρ' H' l' ok => f v ρ' H' (l.trans l') (by
          cases r with
          | v t => exact ok
          | l ts => obtain ⟨p, xs, a, b, c⟩ := ok; exact ⟨p, xs, a, l.none b, c⟩
          | k ts => obtain ⟨p, xs, a, b, c⟩ := ok; exact ⟨p, xs, a, l.none b, c⟩
          | d ts => obtain ⟨p, xs, a, b, c⟩ := ok; exact ⟨p, xs, a, l.none b, c⟩
          | b i => exact ok)⟩
      | false => exact q _ ρ1 H1 l ⟨rs1.sub sub, r1⟩
/-- from a later heap on -/
theorem RtOk.from (h : RtOk D O ρ s σ H0 H v r) (f : ∀ p, H0 p = none → H1 p = none) : RtOk D O ρ s σ H1 H v r := by
  cases r with
  | v t => exact h
  | l ts => obtain ⟨p, xs, a, b, c⟩ := h; exact ⟨p, xs, a, f p b, c⟩
  | k ts => obtain ⟨p, xs, a, b, c⟩ := h; exact ⟨p, xs, a, f p b, c⟩
  | d ts => obtain ⟨p, xs, a, b, c⟩ := h; exact ⟨p, xs, a, f p b, c⟩
  | b i => exact h
theorem snd_or (g : GX D G X sc) {a b : IE} {ea eb : Expr} {es : List Expr} {p : Pos} (ha : PE X ea (tF D G W a)) (hb : PE X (.BoolOp .Or (eb :: es) p) (tF D G W b)) : PE X (.BoolOp .Or (ea :: eb :: es) p) (tF D G W (.or a b)) := by
  refine (pe_orT ha hb).of fun σ H Q ⟨O, ρ, s, rs, h⟩ => ?_
  simp only [ev] at h
  refine one_of rs h fun x s1 v1 O' ρ1 H1 sub rs1 l q _ q1 _ => ?_
  cases e1 : x.t with
  | none => rw [e1] at q; exact q.elim
  | some t =>
    rw [e1] at q
    have r1 := q1 t e1
    dsimp only at q
    cases e2 : truth t with
    | none => rw [e2] at q; exact q.elim
    | some k =>
      rw [e2] at q
      refine ⟨k, tru_T (ρ := ρ1) (L := Lv O ρ1 s1.env σ) (g.hK ▸ .v r1) e2, ?_⟩
      cases k with
      | false => exact ⟨O, ρ1, s1, rs1.sub sub, Out.mono q fun r s' f v ρ' H' l' ok => f v ρ' H' (l.trans l') (ok.from fun p e => l.none e)⟩
      | true => exact q _ ρ1 H1 l ⟨rs1.sub sub, r1⟩
theorem snd_ife (g : GX D G X sc) {c a b : IE} {ec ea eb : Expr} {p : Pos} (hc : PT X ec (tFb D G W c)) (ha : PE X ea (tF D G W a)) (hb : PE X eb (tF D G W b)) : PE X (.IfExp ec ea eb p) (tF D G W (.ife c a b)) := by
  refine (pe_ifExp hc ha hb).of fun σ H Q ⟨O, ρ, s, rs, h⟩ => ?_
  simp only [ev] at h
  refine ⟨O, ρ, s, rs, (Out.bind h).mono fun k s1 h1 ρ1 H1 l1 rs1 => ?_⟩
  have q := h1 ρ1 H1 l1
  cases k with
  | true => exact ⟨O, ρ1, s1, rs1, Out.mono q fun r s' f v ρ' H' l' ok => f v ρ' H' (l1.trans l') (ok.from fun p e => l1.none e)⟩
  | false => exact ⟨O, ρ1, s1, rs1, Out.mono q fun r s' f v ρ' H' l' ok => f v ρ' H' (l1.trans l') (ok.from fun p e => l1.none e)⟩

/-! ### tests -/
theorem snd_test (g : GX D G X sc) {a : IE} {ea : Expr} (ha : PE X ea (tF D G W a)) (he : ∀ s, evB G a s = (ev G a s).bind fun x s1 => match x.res s1 with | some t => R.opt (truth t) s1 | none => .bad)
    (hp : ∀ whole, isTrue ea X.env whole = (do let v ← whole; standAt ea.pos; holding [v] (truthy v))) : PT X ea (tFb D G W a) := by
  refine (pt_truth ha hp).of fun σ H Q ⟨O, ρ, s, rs, h⟩ => ?_
  rw [he] at h
  refine one_of rs h fun x s1 v1 O' ρ1 H1 sub rs1 l q q1 _ _ => ?_
  cases e1 : x.res s1 with
  | none => rw [e1] at q; exact q.elim
  | some t =>
    rw [e1] at q
    obtain ⟨k, e2, q⟩ := Out.opt q
    exact ⟨k, tru_T (g.hK ▸ q1 t e1) e2, q ρ1 H1 l (rs1.sub sub)⟩
theorem snd_tnot {a : IE} {ea : Expr} {p : Pos} (ha : PT X ea (tFb D G W a)) : PT X (.UnaryOp .Not ea p) (tFb D G W (.not a)) := by
  refine (pt_not ha).of fun σ H Q ⟨O, ρ, s, rs, h⟩ => ?_
  simp only [evB] at h
  exact ⟨O, ρ, s, rs, (Out.bind h).mono fun k s1 h1 ρ1 H1 l1 rs1 => h1 ρ1 H1 l1 ρ1 H1 l1 rs1⟩
theorem snd_tand {a b : IE} {ea eb : Expr} {es : List Expr} {p : Pos} (ha : PT X ea (tFb D G W a)) (hb : PW X (.BoolOp .And (eb :: es) p) (tFb D G W b)) : PW X (.BoolOp .And (ea :: eb :: es) p) (tFb D G W (.and a b)) := by
  refine ⟨fun whole pins s0 σ H Q I ⟨O, ρ, s, rs, h⟩ => (pw_and ha hb).run whole pins s0 σ H Q I ?_⟩
  simp only [evB] at h
  refine ⟨O, ρ, s, rs, (Out.bind h).mono fun k s1 h1 ρ1 H1 l1 rs1 => ?_⟩
  have q := h1 ρ1 H1 l1
  cases k with
  | true => exact ⟨O, ρ1, s1, rs1, Out.mono q fun r s' f ρ' H' l' ok => f ρ' H' (l1.trans l') ok⟩
  | false => exact q ρ1 H1 l1 rs1
theorem snd_tor {a b : IE} {ea eb : Expr} {es : List Expr} {p : Pos} (ha : PT X ea (tFb D G W a)) (hb : PW X (.BoolOp .Or (eb :: es) p) (tFb D G W b)) : PW X (.BoolOp .Or (ea :: eb :: es) p) (tFb D G W (.or a b)) := by
  refine ⟨fun whole pins s0 σ H Q I ⟨O, ρ, s, rs, h⟩ => (pw_or ha hb).run whole pins s0 σ H Q I ?_⟩
  simp only [evB] at h
  refine ⟨O, ρ, s, rs, (Out.bind h).mono fun k s1 h1 ρ1 H1 l1 rs1 => ?_⟩
  have q := h1 ρ1 H1 l1
  cases k with
  | false => exact ⟨O, ρ1, s1, rs1, Out.mono q fun r s' f ρ' H' l' ok => f ρ' H' (l1.trans l') ok⟩
  | true => exact q ρ1 H1 l1 rs1
/-- a comparison as a test -/
theorem snd_tbl {a : IE} {ea : Expr} {t : TE} (h : PT X ea (tTest t)) (ht : ∀ σ H Q, tF D G W a σ H Q → t σ H Q) (he : ∀ s, evB G a s = (ev G a s).bind fun x s1 => match x.res s1 with | some t => R.opt (truth t) s1 | none => .bad)
    (hb : ∀ s r s', ev G a s = .ok r s' → ∃ k, r = .v (.bl k)) : PT X ea (tFb D G W a) := by
  refine h.of fun σ H Q ⟨O, ρ, s, rs, h⟩ => ?_
  refine ht σ H _ ⟨O, ρ, s, rs, ?_⟩
  rw [he] at h
  have h' := Out.bind h
  cases e : ev G a s with
  | bad => rw [e] at h'; exact h'.elim
  | err c fs s' => rw [e] at h'; exact h'
  | ok r s' =>
    obtain ⟨k, rfl⟩ := hb s r s' e
    rw [e] at h'
    intro v ρ' H' l ok
    obtain ⟨rs', rv⟩ := ok
    cases rv
    exact ⟨k, rfl, h' ρ' H' l ρ' H' l rs'⟩

/-! ### expressions in a row -/
theorem snd_nil : PA X [] (tFs D G W []) := pa_nil.of fun σ H Q ⟨O, ρ, s, rs, h⟩ => by
  simp only [evs] at h
  exact h [] ρ H Le.refl rs .nil
theorem snd_cons {a : IE} {as : List IE} {ea : Expr} {es : List Expr} (ha : PE X ea (tF D G W a)) (hs : PA X es (tFs D G W as)) (hn : notStar ea = true) : PA X (ea :: es) (tFs D G W (a :: as)) := by
  refine (pa_cons ha hs (starEach_of hn)).of fun σ H Q ⟨O, ρ, s, rs, h⟩ => ?_
  simp only [evs] at h
  refine one_of rs h fun x s1 v1 O' ρ1 H1 sub rs1 l q _ q1 _ => ?_
  cases e1 : x.t with
  | none => rw [e1] at q; exact q.elim
  | some t =>
    rw [e1] at q
    have r1 := q1 t e1
    have rs1' := rs1.sub (D := D) sub
    refine ⟨O, ρ1, s1, rs1', (Out.bind q).mono fun ts s2 h2 vs ρ2 H2 l2 rs2 rv => ?_⟩
    exact h2 ρ2 H2 l2 (v1 :: vs) ρ2 H2 (l.trans l2) rs2 (.cons (r1.le rs1' l2) rv)
theorem snd_tup (g : GX D G X sc) {as : List IE} {es : List Expr} {j : Nat} {p : Pos} (hs : PA X es (tFs D G W as)) : PE X (.Tuple es j p) (tF D G W (.tup as)) := by
  refine (pe_tup hs).of fun σ H Q ⟨O, ρ, s, rs, h⟩ => ?_
  simp only [ev] at h
  refine ⟨O, ρ, s, rs, (Out.bind h).mono fun ts s1 h1 vs ρ1 H1 l1 rs1 rv => ?_⟩
  have q := h1 ρ1 H1 l1
  by_cases hz : ts.length ≤ sizeLine
  · rw [if_pos hz] at q
    refine ⟨by rw [rv.len]; exact hz, fun p hp => ?_⟩
    obtain ⟨l', ok⟩ := OutOk.fin (D := D) (O := O) (fun _ z => z) rs1 l1 (out_tup rs1.mut hp rv)
    exact q _ ρ1 _ (l1.trans l') ok
  · rw [if_neg hz] at q; exact q.elim
theorem snd_lst (g : GX D G X sc) {as : List IE} {es : List Expr} {p : Pos} (hs : PA X es (tFs D G W as)) : PE X (.List es p) (tF D G W (.lst as)) := by
  refine (pe_lst hs).of fun σ H Q ⟨O, ρ, s, rs, h⟩ => ?_
  simp only [ev] at h
  refine ⟨O, ρ, s, rs, (Out.bind h).mono fun ts s1 h1 vs ρ1 H1 l1 rs1 rv => ?_⟩
  have q := h1 ρ1 H1 l1
  by_cases hz : ts.length ≤ sizeLine
  · rw [if_pos hz] at q
    refine ⟨by rw [rv.len]; exact hz, fun p hp => ?_⟩
    obtain ⟨l', ok⟩ := OutOk.fin (D := D) (O := O) (r := .l ts) (fun _ z => z) rs1 l1 ⟨p, vs, rfl, hp, rfl, rv⟩
    exact q _ ρ1 _ (l1.trans l') ok
  · rw [if_neg hz] at q; exact q.elim
end
end L2.TV

set_option maxHeartbeats 1000000
namespace L2.TV
open PySem PySem.Spec PyProof.Rows
section
variable {D : Wd} {G : Cfg} {X : Cx} {sc : Scope} {W : WX'} {O O' O1 : OX} {ρ ρ' ρ0 : List Addr} {env env' env0 : List Slot} {σ σ0 : St} {H H0 H' H1 : Hp} {s s' s1 : S} {v : V} {r : Rt} {K : PySem.W.Frag} {L L' : Addr → Prop}
/-- a new cell of the store -/
theorem RS.newCell {p : Addr} {xs : List V} {ts : List T} (rs : RS D.K D.cls O ρ s σ H) (hp : H p = none) (rv : RpL D.K ρ (Lv O ρ s.env σ) H xs ts) :
    RS D.K D.cls O (ρ ++ [p]) { s with sto := s.sto ++ [.lst ts] } σ (upd H p (.lst xs)) ∧ Le ρ s.env σ H (ρ ++ [p]) s.env σ (upd H p (.lst xs)) ∧ (ρ ++ [p])[s.sto.length]? = some p := by
  have sm : Same H (upd H p (.lst xs)) := Same.upd_new hp
  have np := rs.notin hp
  have no := rs.notown hp
  have le : Le ρ s.env σ H (ρ ++ [p]) s.env σ (upd H p (.lst xs)) := ⟨fun n a h => by
    have hn := (List.getElem?_eq_some_iff.mp h).1
    rw [List.getElem?_append_left hn]; exact h, fun a h => (List.mem_append.mp h).imp id fun h => by rw [List.mem_singleton] at h; rw [h]; exact hp, fun _ h => .inl h, fun a o e _ _ => sm a o e, fun a o e => ⟨o, sm a o e⟩⟩
  have k := le.kpO (O := O)
  have m := rs.mut
  refine ⟨⟨?_, ?_, fun i t e => ?_, fun i x e1 e2 => ?_, rs.inj, fun n c a e1 e2 => ?_, fun a h => ?_, rs.elen⟩, le, by rw [← rs.len]; simp⟩
  · rw [List.nodup_append]
    exact ⟨rs.nd, by simp, fun a h b h' e => by rw [List.mem_singleton] at h'; subst h' e; exact np h⟩
  · simp [rs.len]
  · obtain ⟨v, q1, q2⟩ := rs.slot i t e
    exact ⟨v, q1, q2.kp k m⟩
  · obtain ⟨a, q1, q2, q3, q4⟩ := rs.own i x e1 e2
    refine ⟨a, q1, q2, fun z => (List.mem_append.mp z).elim q3 fun z => ?_, q4.kp k m fun o e => sm _ _ e⟩
    rw [List.mem_singleton] at z
    subst z
    exact no ⟨i, x, e1, e2, q1⟩
  · by_cases hn : n < s.sto.length
    · rw [List.getElem?_append_left hn] at e1
      rw [List.getElem?_append_left (by rw [rs.len]; exact hn)] at e2
      exact (rs.cell n c a e1 e2).kp k m (fun o e => sm _ _ e) fun b e => sm _ _ e
    · have hn' : n = s.sto.length := by
        have := (List.getElem?_eq_some_iff.mp e1).1
        simp at this
        omega
      subst hn'
      have e1' : c = .lst ts := by simpa using e1.symm
      have e2' : a = p := by rw [← rs.len] at e2; simpa using e2.symm
      subst e1' e2'
      exact ⟨xs, upd_same, rv.kp k m⟩
  · obtain ⟨q1, o, q2, q3⟩ := rs.out a h
    refine ⟨fun z => (List.mem_append.mp z).elim q1 fun z => ?_, o, sm _ _ q2, q3⟩
    rw [List.mem_singleton] at z
    subst z
    rw [hp] at q2; cases q2
theorem snd_cel (g : GX D G X sc) {as : List IE} {es : List Expr} {p : Pos} (hs : PA X es (tFs D G W as)) : PE X (.List es p) (tF D G W (.cel as)) := by
  refine (pe_lst hs).of fun σ H Q ⟨O, ρ, s, rs, h⟩ => ?_
  simp only [ev] at h
  refine ⟨O, ρ, s, rs, (Out.bind h).mono fun ts s1 h1 vs ρ1 H1 l1 rs1 rv => ?_⟩
  have q := h1 ρ1 H1 l1
  by_cases hz : ts.length ≤ sizeLine
  · rw [if_pos hz] at q
    refine ⟨by rw [rv.len]; exact hz, fun p hp => ?_⟩
    obtain ⟨rs2, l2, e⟩ := rs1.newCell hp rv
    exact q _ _ _ (l1.trans l2) ⟨rs2, .ref e⟩
  · rw [if_neg hz] at q; exact q.elim
theorem snd_newK {p : Pos} : PE X (.Dict [] [] p) (tF D G W .newK) := pe_dnewK.of fun σ H Q ⟨O, ρ, s, rs, h⟩ p hp => by
  simp only [ev] at h
  obtain ⟨l', ok⟩ := OutOk.fin (D := D) (O := O) (r := .k []) (fun _ z => z) rs Le.refl ⟨p, [], rfl, hp, rfl, rfl, .nil⟩
  exact h _ ρ _ l' ok
theorem snd_newT {p : Pos} : PE X (.Dict [] [] p) (tF D G W .newT) := pe_dnewT.of fun σ H Q ⟨O, ρ, s, rs, h⟩ p hp => by
  simp only [ev] at h
  obtain ⟨l', ok⟩ := OutOk.fin (D := D) (O := O) (r := .d []) (fun _ z => z) rs Le.refl ⟨p, [], rfl, hp, rfl, rfl, .nil⟩
  exact h _ ρ _ l' ok

/-! ### built-in calls -/
inductive BT where
  | b (id : String) | t (T : String)
def BT.val : BT → Value
  | .b id => .builtin id
  | .t T => .type T
theorem snd_fn1 (g : GX D G X sc) {f : Fn} {n : String} {bt : BT} {a : IE} {ea : Expr} {x : Str} {p p' : Pos} (hx : glB sc x n = true) (hn : n ∈ bltN) (hv : bootBuiltins (Str.ofString n) = some bt.val) (hc : CallR X bt.val (rFn1 X.K fun t => fnT f [t]))
    (ha : PE X ea (tF D G W a)) (hs : notStar ea = true) : PE X (.Call (.Name x p) [ea] [] p') (tF D G W (.fn f [a])) := by
  obtain ⟨rfl, gl, hd, hn'⟩ := g.gl hx
  have pa : PA X [ea] (tCons (tF D G W a) tNil) := pa_cons ha pa_nil (starEach_of hs)
  have hse : starEach [ea] X.env = (false, eval ea X.env) :: starEach [] X.env := starEach_of hs
  have key : PE X (.Call (.Name (Str.ofString n) p) [ea] [] p') (tCB (rFn1 X.K fun t => fnT f [t]) (tCons (tF D G W a) tNil)) := by
    cases bt with
    | b id => exact pe_callB hc gl (g.blt n hn) hv pa hn' hd hse
    | t T => exact pe_callTy hc gl (g.blt n hn) hv pa hn' hd hse
  refine key.of fun σ H Q ⟨O, ρ, s, rs, h⟩ => ?_
  simp only [ev] at h
  refine one_of rs h fun x s1 v1 O' ρ1 H1 sub rs1 l q q1 _ _ => ?_
  cases e1 : x.res s1 with
  | none => rw [e1] at q; exact q.elim
  | some t =>
    rw [e1] at q
    obtain ⟨r, e2, q⟩ := Out.opt q
    refine ⟨ρ1, Lv O' ρ1 s1.env σ, v1, t, r, rfl, rs1.mut, g.hK ▸ q1 t e1, e2, fun v H' ok => ?_⟩
    obtain ⟨l', ok'⟩ := OutOk.fin (D := D) sub rs1 l (g.hK ▸ ok)
    exact q v ρ1 H' (l.trans l') ok'
theorem snd_fn2 (g : GX D G X sc) {f : Fn} {n : String} {bt : BT} {a b : IE} {ea eb : Expr} {x : Str} {p p' : Pos} (hx : glB sc x n = true) (hn : n ∈ bltN) (hv : bootBuiltins (Str.ofString n) = some bt.val) (hc : CallR X bt.val (rFn2 X.K fun t u => fnT f [t, u]))
    (ha : PE X ea (tF D G W a)) (hs : notStar ea = true) (hb : PE X eb (tF D G W b)) (hs' : notStar eb = true) : PE X (.Call (.Name x p) [ea, eb] [] p') (tF D G W (.fn f [a, b])) := by
  obtain ⟨rfl, gl, hd, hn'⟩ := g.gl hx
  have pa : PA X [ea, eb] (tCons (tF D G W a) (tCons (tF D G W b) tNil)) := pa_cons ha (pa_cons hb pa_nil (starEach_of hs')) (starEach_of hs)
  have hse : starEach [ea, eb] X.env = (false, eval ea X.env) :: starEach [eb] X.env := starEach_of hs
  have hse2 : starEach [eb] X.env = (false, eval eb X.env) :: starEach [] X.env := starEach_of hs'
  have hpl : (backTo p' (starEach [eb] X.env)).any (·.1) = false := by rw [hse2]; rfl
  have key : PE X (.Call (.Name (Str.ofString n) p) [ea, eb] [] p') (tCB (rFn2 X.K fun t u => fnT f [t, u]) (tCons (tF D G W a) (tCons (tF D G W b) tNil))) := by
    cases bt with
    | b id => exact pe_callB hc gl (g.blt n hn) hv pa hn' hd hse hpl
    | t T => exact pe_callTy hc gl (g.blt n hn) hv pa hn' hd hse hpl
  refine key.of fun σ H Q ⟨O, ρ, s, rs, h⟩ => ?_
  simp only [ev] at h
  refine two_of rs h fun x y s2 v1 v2 O' ρ2 H2 sub rs2 l q q1 q2 _ _ => ?_
  cases e1 : x.res s2 with
  | none => rw [e1] at q; exact q.elim
  | some t =>
    cases e2 : y.res s2 with
    | none => rw [e1, e2] at q; exact q.elim
    | some u =>
      rw [e1, e2] at q
      obtain ⟨r, e, q⟩ := Out.opt q
      refine ⟨ρ2, Lv O' ρ2 s2.env σ, v1, v2, t, u, r, rfl, rs2.mut, g.hK ▸ q1 t e1, g.hK ▸ q2 u e2, e, fun v H' ok => ?_⟩
      obtain ⟨l', ok'⟩ := OutOk.fin (D := D) sub rs2 l (g.hK ▸ ok)
      exact q v ρ2 H' (l.trans l') ok'
/-! ### sorted(set()) -/
theorem sset_fin {l : List T} {r : Rt} {O' : OX} {Q : VK} (e : sortSetT (.lst l) = some r) (rs : RS D.K D.cls O' ρ s σ H) (sub : ∀ a, O a → O' a) (rq : Rq D.K ρ (Lv O' ρ s.env σ) H v (.lst l)) (q : ∀ v H', Le ρ s.env σ H ρ s.env σ H' → RtOk D O ρ s σ H H' v r → Q v H') (hK : X.K = D.K) :
    rSetI X.K X.w [v] H (fun x H1 => rSortedSet X.w [x] H1 Q ∨ rSrtS X.K X.prog X.w [x] H1 Q) ∨ rSetS X.K X.prog X.w [v] H (fun x H1 => rSortedSet X.w [x] H1 Q ∨ rSrtS X.K X.prog X.w [x] H1 Q) := by
  obtain ⟨a, xs, rfl, f, r1⟩ := rq.lst
  -- behind the set
  have core : ∀ {b : Addr} {o : HO} {p : Addr} {ys : List V} {ts : List T}, H b = none → upd H b o p = none → RpL D.K ρ (Lv O' ρ s.env σ) H ys ts → r = .l ts → Q (.ref p) (upd (upd H b o) p (.lst ys)) := fun {b o p ys ts} hb hp ry e => by
    subst e
    have sm : Same H (upd H b o) := Same.upd_new hb
    obtain ⟨l', ok⟩ := OutOk.fin (D := D) (O := O) (r := .l ts) sub (rs.same sm) (Le.same sm) ⟨p, ys, rfl, hp, rfl, ry.same rs.mut sm⟩
    exact q _ _ ((Le.same sm).trans l') ok
  simp only [sortSetT] at e
  cases e1 : allI l with
  | some ns =>
    rw [e1] at e
    dsimp only at e
    split at e
    · rename_i hz
      cases e
      have ey := r1.allI e1
      subst ey
      refine .inl ⟨a, ns, rfl, SqL.of f, hz.2, fun b S hb hS => .inl ⟨b, S, _, rfl, upd_same, hz.1, fun ms p hs hm _ hp => core hb hp (RpL.ints ms) ?_⟩⟩
      have pm : ms.Perm (dd ns) := perm_dd (hs.imp fun h => Int.ne_of_lt h) fun x => (hm x).trans (hS x)
      rw [sortL_of pm (hs.imp fun h => Int.le_of_lt h)]
    · cases e
  | none =>
    rw [e1] at e
    cases e2 : allS l with
    | none => rw [e2] at e; cases e
    | some ks =>
      rw [e2] at e
      dsimp only at e
      split at e
      · rename_i hz
        cases e
        obtain ⟨qs, rfl, rfl, hq⟩ := r1.pks e2
        have hq' : ∀ q ∈ qs, SqT X.K H q.1 (q.2.map V.str) := fun q m => hK ▸ (hq q m).sq
        refine .inr ⟨a, qs, rfl, SqL.of f, hq', hz.1, fun b L hb h1 h2 => .inr ⟨b, L, rfl, upd_same, fun q m => ⟨?_, ?_⟩, fun L' p pm nd pw hp => core hb hp (RpL.ofPks fun q m => hq q (h1 q (pm.mem_iff.mp m))) ?_⟩⟩
        · have := hq' q (h1 q m)
          rcases this with h | h
          · refine .inl ?_
            rcases h with h | ⟨o, h⟩
            · exact .inl (Same.upd_new hb _ _ h)
            · exact .inr ⟨o, Same.upd_new hb _ _ h⟩
          · exact .inr h
        · have := List.all_eq_true.mp hz.2 q.2 (List.mem_map.mpr ⟨q, h1 q m, rfl⟩)
          intro z; rw [z] at this; simp at this
        · have p2 : (L'.map (·.2)).Perm (dd (qs.map (·.2))) := perm_dd nd fun x => by
            constructor
            · intro hx
              obtain ⟨q, m, rfl⟩ := List.mem_map.mp hx
              exact List.mem_map.mpr ⟨q, h1 q (pm.mem_iff.mp m), rfl⟩
            · intro hx
              obtain ⟨q, m, rfl⟩ := List.mem_map.mp hx
              obtain ⟨q', m', e'⟩ := List.mem_map.mp (h2 q m)
              exact List.mem_map.mpr ⟨q', pm.mem_iff.mpr m', e'⟩
          rw [sortK_of p2 pw]
      · cases e
theorem snd_sset (g : GX D G X sc) {a : IE} {ea : Expr} {x y : Str} {p p' pos pos' : Pos} (hx : glB sc x "sorted" = true) (hy : glB sc y "set" = true) (ha : PE X ea (tF D G W a)) (hs : notStar ea = true) :
    PE X (.Call (.Name x p) [.Call (.Name y p') [ea] [] pos'] [] pos) (tF D G W (.fn .sortset [a])) := by
  obtain ⟨rfl, gx, dx, nx⟩ := g.gl hx
  obtain ⟨rfl, gy, dy, ny⟩ := g.gl hy
  have hu : X.A.units + 64 < cLine := by have := g.un; omega
  have p1 : PE X (.Call (.Name (Str.ofString "set") p') [ea] [] pos') _ := pe_callTy (cr_setAny g.calm hu) gy (g.blt "set" (by decide)) (by decide +kernel) (pa_cons ha pa_nil (starEach_of hs)) ny dy (starEach_of hs)
  have hs' : starEach [Expr.Call (.Name (Str.ofString "set") p') [ea] [] pos'] X.env = (false, eval (Expr.Call (.Name (Str.ofString "set") p') [ea] [] pos') X.env) :: starEach [] X.env := starEach_of rfl
  have p2 : PE X (.Call (.Name (Str.ofString "sorted") p) [.Call (.Name (Str.ofString "set") p') [ea] [] pos'] [] pos) _ := pe_callB (cr_srtAny g.calm) gx (g.blt "sorted" (by decide)) (by decide +kernel) (pa_cons p1 pa_nil hs') nx dx hs'
  refine p2.of fun σ H Q ⟨O, ρ, s, rs, h⟩ => ?_
  simp only [ev] at h
  refine one_of rs h fun x s1 v1 O' ρ1 H1 sub rs1 l q q1 _ _ => ?_
  cases e1 : x.res s1 with
  | none => rw [e1] at q; exact q.elim
  | some t =>
    rw [e1] at q
    obtain ⟨r, e2, q'⟩ := Out.opt q
    clear q
    cases t with
    | lst tl => exact sset_fin (D := D) (O := O) e2 rs1 sub (q1 _ e1) (fun v H' l' ok => q' v ρ1 H' (l.trans l') (ok.from fun p e => l.none e)) g.hK
    | _ => cases e2
/-! ### list(range()), tuple(range()) -/
theorem rpl_range (i j : Int) : RpL K ρ L H (rgV i j) (rangeL i j) := by
  unfold rgV rangeL
  induction List.range (j - i).toNat with
  | nil => exact .nil
  | cons n ns ih => exact .cons (.int _) ih
theorem rng_fin {l : Bool} {i j : Int} {O' : OX} {Q : VK} {r : Rt} (e : rngT l i j = some r) (rs : RS D.K D.cls O ρ s σ H) : RgOk i j ∧ ∀ p, H p = none → ∀ (k : ∀ v H', Le ρ s.env σ H ρ s.env σ H' → RtOk D O ρ s σ H H' v r → Q v H'), Q (.ref p) (upd H p (if l then .lst (rgV i j) else .tup (rgV i j))) := by
  unfold rngT at e
  split at e
  · rename_i hz
    refine ⟨hz, fun p hp k => ?_⟩
    cases l with
    | true =>
      cases e
      obtain ⟨l', ok⟩ := OutOk.fin (D := D) (O := O) (r := .l (rangeL i j)) (fun _ z => z) rs Le.refl ⟨p, _, rfl, hp, rfl, rpl_range i j⟩
      exact k _ _ l' ok
    | false =>
      cases e
      obtain ⟨l', ok⟩ := OutOk.fin (D := D) (O := O) (fun _ z => z) rs Le.refl (out_tup rs.mut hp (rpl_range i j))
      exact k _ _ l' ok
  · cases e
theorem snd_rng1 (g : GX D G X sc) {l : Bool} {a : IE} {ea : Expr} {x y : Str} {p p' pos pos' : Pos} (hy : glB sc y (if l then "list" else "tuple") = true) (hx : glB sc x "range" = true) (ha : PE X ea (tF D G W a)) (hs : notStar ea = true) :
    PE X (.Call (.Name y p) [.Call (.Name x p') [ea] [] pos'] [] pos) (tF D G W (.rng l a none)) := by
  obtain ⟨rfl, gx, _, _⟩ := g.gl hx
  have pr := prg_1 (p := p') (pos := pos') gx (g.blt "range" (by decide)) ha (starEach_of hs)
  have rd : ∀ {σ : St} {H : Hp} {Q : VK}, tF D G W (.rng l a none) σ H Q → tRg1 (tF D G W a) σ H fun i j H1 => RgOk i j ∧ ∀ q, H1 q = none → Q (.ref q) (upd H1 q (if l then .lst (rgV i j) else .tup (rgV i j))) := fun {σ H Q} ⟨O, ρ, s, rs, h⟩ => by
    simp only [ev] at h
    refine one_of rs h fun x s1 v1 O' ρ1 H1 sub rs1 lq q _ q1 _ => ?_
    cases e1 : x.t with
    | none => rw [e1] at q; exact q.elim
    | some t =>
      rw [e1] at q
      have r1 := q1 t e1
      cases t with
      | int n =>
        cases r1
        obtain ⟨r, e2, q⟩ := Out.opt q
        obtain ⟨k1, k2⟩ := rng_fin (Q := Q) (O' := O') e2 (rs1.sub sub)
        exact ⟨n, rfl, k1, fun p hp => k2 p hp fun v H' l' ok => q v ρ1 H' (lq.trans l') (ok.from fun p e => lq.none e)⟩
      | _ => exact q.elim
  cases l with
  | true =>
    obtain ⟨rfl, gy, _, _⟩ := g.gl hy
    exact (pe_listRg g.calm gy (g.blt "list" (by decide)) pr (starEach_of rfl)).of fun σ H Q h => rd h
  | false =>
    obtain ⟨rfl, gy, _, _⟩ := g.gl hy
    exact (pe_tupRg g.calm gy (g.blt "tuple" (by decide)) pr (starEach_of rfl)).of fun σ H Q h => rd h
theorem snd_rng2 (g : GX D G X sc) {l : Bool} {a b : IE} {ea eb : Expr} {x y : Str} {p p' pos pos' : Pos} (hy : glB sc y (if l then "list" else "tuple") = true) (hx : glB sc x "range" = true) (ha : PE X ea (tF D G W a)) (hs : notStar ea = true) (hb : PE X eb (tF D G W b)) (hs' : notStar eb = true) :
    PE X (.Call (.Name y p) [.Call (.Name x p') [ea, eb] [] pos'] [] pos) (tF D G W (.rng l a (some b))) := by
  obtain ⟨rfl, gx, _, _⟩ := g.gl hx
  have pr := prg_2 (p := p') (pos := pos') gx (g.blt "range" (by decide)) ha hb (starEach_of hs) (starEach_of hs') (by rw [starEach_of hs']; rfl)
  have rd : ∀ {σ : St} {H : Hp} {Q : VK}, tF D G W (.rng l a (some b)) σ H Q → tRg2 (tF D G W a) (tF D G W b) σ H fun i j H1 => RgOk i j ∧ ∀ q, H1 q = none → Q (.ref q) (upd H1 q (if l then .lst (rgV i j) else .tup (rgV i j))) := fun {σ H Q} ⟨O, ρ, s, rs, h⟩ => by
    simp only [ev] at h
    refine two_of rs h fun x y s2 v1 v2 O' ρ2 H2 sub rs2 lq q _ _ q2 q1 => ?_
    cases e1 : x.t with
    | none => rw [e1] at q; exact q.elim
    | some t =>
      cases e2 : y.t with
      | none => rw [e1, e2] at q; cases t <;> exact q.elim
      | some u =>
        rw [e1, e2] at q
        have r1 := q1 t e1
        have r2 := q2 u e2
        cases t with
        | int i =>
          cases u with
          | int j =>
            cases r1; cases r2
            obtain ⟨r, e3, q⟩ := Out.opt q
            obtain ⟨k1, k2⟩ := rng_fin (Q := Q) (O' := O') e3 (rs2.sub sub)
            exact ⟨i, j, rfl, rfl, k1, fun p hp => k2 p hp fun v H' l' ok => q v ρ2 H' (lq.trans l') (ok.from fun p e => lq.none e)⟩
          | _ => exact q.elim
        | _ => exact q.elim
  cases l with
  | true =>
    obtain ⟨rfl, gy, _, _⟩ := g.gl hy
    exact (pe_listRg g.calm gy (g.blt "list" (by decide)) pr (starEach_of rfl)).of fun σ H Q h => rd h
  | false =>
    obtain ⟨rfl, gy, _, _⟩ := g.gl hy
    exact (pe_tupRg g.calm gy (g.blt "tuple" (by decide)) pr (starEach_of rfl)).of fun σ H Q h => rd h
end
end L2.TV

set_option maxHeartbeats 1000000
namespace L2.TV
open PySem PySem.Spec PyProof.Rows
section
variable {D : Wd} {G : Cfg} {X : Cx} {sc : Scope} {W : WX'} {O O' O1 : OX} {ρ ρ' ρ0 : List Addr} {env env' env0 : List Slot} {σ σ0 : St} {H H0 H' H1 : Hp} {s s' s1 : S} {v : V} {r : Rt} {K : PySem.W.Frag} {L L' : Addr → Prop}
/-! ### slices -/
def tFo (D : Wd) (G : Cfg) (W : WX') (e : Option IE) : TO := fun σ H Q => ∃ O ρ s, RS D.K D.cls O ρ s σ H ∧ Out D W O ρ s.env σ H (evO G e s) fun k s' => ∀ ρ' H', Le ρ s.env σ H ρ' s'.env σ H' → RS D.K D.cls O ρ' s' σ H' → Q k H'
theorem _root_.L2.PO.of {e : Option Expr} {t t' : TO} (h : PO X e t) (f : ∀ σ H Q, t' σ H Q → t σ H Q) : PO X e t' := ⟨fun pins s σ H Q I w => h.run pins s σ H Q I (f σ H Q w)⟩
theorem snd_o0 : PO X none (tFo D G W none) := po_none.of fun σ H Q ⟨O, ρ, s, rs, h⟩ => by
  simp only [evO] at h
  exact h ρ H Le.refl rs
theorem snd_o1 {a : IE} {ea : Expr} (ha : PE X ea (tF D G W a)) : PO X (some ea) (tFo D G W (some a)) := (po_some ha).of fun σ H Q ⟨O, ρ, s, rs, h⟩ => by
  simp only [evO] at h
  refine one_of rs h fun x s1 v1 O' ρ1 H1 sub rs1 l q _ q1 _ => ?_
  cases e1 : x.t with
  | none => rw [e1] at q; exact q.elim
  | some t =>
    rw [e1] at q
    have r1 := q1 t e1
    cases t with
    | int i => cases r1; exact ⟨i, rfl, q ρ1 H1 l (rs1.sub sub)⟩
    | _ => exact q.elim
theorem snd_sl (g : GX D G X sc) {a : IE} {lo hi : Option IE} {ea : Expr} {el eh : Option Expr} {p p' : Pos} (ha : PE X ea (tF D G W a)) (hl : PO X el (tFo D G W lo)) (hh : PO X eh (tFo D G W hi)) :
    PE X (.Subscript ea (.Slice el eh none p) p') (tF D G W (.sl a lo hi)) := by
  refine (pe_slice sl_G ha hl hh).of fun σ H Q ⟨O, ρ, s, rs, h⟩ => ?_
  simp only [ev] at h
  refine ⟨O, ρ, s, rs, (Out.bind h).mono fun x s1 h1 v1 ρ1 H1 l1 ok1 => ?_⟩
  obtain ⟨O1, sub1, rs1, hold1⟩ := ok1.hold
  refine ⟨O1, ρ1, s1, rs1, ((Out.bind (h1 ρ1 H1 l1)).wider sub1).mono fun lo s2 h2 ρ2 H2 l2 rs2 => ?_⟩
  refine ⟨O1, ρ2, s2, rs2, ((Out.bind (h2 ρ2 H2 l2)).wider sub1).mono fun hi s3 h3 ρ3 H3 l3 rs3 => ?_⟩
  have q := h3 ρ3 H3 l3
  cases e1 : x.res s3 with
  | none => rw [e1] at q; exact q.elim
  | some t =>
    rw [e1] at q
    obtain ⟨r, e, q⟩ := Out.opt q
    refine ⟨ρ3, Lv O1 ρ3 s3.env σ, t, r, rs3.mut, g.hK ▸ hold1 (l2.trans l3) rs3 e1, e, fun v H' ok => ?_⟩
    obtain ⟨l', ok'⟩ := OutOk.fin (D := D) sub1 rs3 (l1.trans (l2.trans l3)) (g.hK ▸ ok)
    exact q v ρ3 H' ((l1.trans (l2.trans l3)).trans l') ok'

/-! ### what is walked -/
/-- an iterator that yields the trees ts while the tracked things that are not written stand as they are -/
def WalkT (K : PySem.W.Frag) (ρ : List Addr) (L : Addr → Prop) (H : Hp) (J : It) (ts : List T) : Prop :=
  ∀ ρ' L' H', Kp ρ L H ρ' L' H' → MutL L' H' → (J.stop ts.length H') ∧ ∀ i, i < ts.length → J.go i H' ∧ ∀ x H2, J.yld i H' x H2 → ∃ t, ts[i]? = some t ∧ Same H' H2 ∧ Rp K ρ' L' H2 x t
def tSrc (D : Wd) (G : Cfg) (W : WX') (e : Src) : TI := fun σ H R => ∃ O ρ s, RS D.K D.cls O ρ s σ H ∧ Out D W O ρ s.env σ H (evSrc G e s) fun ts s' => ∀ J ρ' H', Le ρ s.env σ H ρ' s'.env σ H' → RS D.K D.cls O ρ' s' σ H' → WalkT D.K ρ' (Lv O ρ' s'.env σ) H' J ts → R J H'
theorem _root_.L2.PI.of {tg e : Expr} {t t' : TI} (h : PI X tg e t) (f : ∀ σ H Q, t' σ H Q → t σ H Q) : PI X tg e t' := ⟨fun pins s σ H Q I w => h.run pins s σ H Q I (f σ H Q w)⟩
theorem SqL.kp {a : Addr} {xs : List V} (k : Kp ρ L H ρ' L' H') (h : H a = some (.lst xs)) (n : ¬ L a) : SqL K H' a xs := SqL.of (k.kp a _ h n)
theorem walk_lst {a : Addr} {xs : List V} {ts : List T} (m : MutL L H) (h : H a = some (.lst xs)) (n : ¬ L a) (r : RpL K ρ L H xs ts) : WalkT K ρ L H (Itl K a) ts := by
  intro ρ' L' H' k m'
  have q : SqL K H' a xs := SqL.of (k.kp a _ h n)
  have r' := r.kp k m
  have w := walk_list (K := K) (a := a) (xs := xs)
  refine ⟨by rw [← r.len]; exact w.stops H' q, fun i hi => ⟨w.goes i H' (by rw [r.len]; exact hi) q, fun x H2 y => ?_⟩⟩
  obtain ⟨rfl, e⟩ := w.yields i H' x H2 (by rw [r.len]; exact hi) q y
  obtain ⟨t, e', rt⟩ := r'.getV e
  exact ⟨t, e', Same.refl _, rt⟩
theorem walk_tupT {a : Addr} {xs : List V} {ts : List T} (m : MutL L H) (h : SqT K H a xs) (r : RpL K ρ L H xs ts) : WalkT K ρ L H (Itt K a) ts := by
  intro ρ' L' H' k m'
  have q : SqT K H' a xs := SqT.kp k m h
  have r' := r.kp k m
  have w := walk_tup (K := K) (a := a) (xs := xs)
  refine ⟨by rw [← r.len]; exact w.stops H' q, fun i hi => ⟨w.goes i H' (by rw [r.len]; exact hi) q, fun x H2 y => ?_⟩⟩
  obtain ⟨rfl, e⟩ := w.yields i H' x H2 (by rw [r.len]; exact hi) q y
  obtain ⟨t, e', rt⟩ := r'.getV e
  exact ⟨t, e', Same.refl _, rt⟩
theorem walk_rng {lo : Int} {n : Nat} : WalkT K ρ L H (Itr lo n) ((List.range n).map fun k : Nat => T.int (lo + (k : Int))) := by
  intro ρ' L' H' k m'
  have w := walk_range (lo := lo) (n := n)
  refine ⟨by simpa using w.stops H' trivial, fun i hi => ?_⟩
  have hi' : i < n := by simpa using hi
  refine ⟨w.goes i H' hi' trivial, fun x H2 y => ?_⟩
  obtain ⟨rfl, rfl⟩ := w.yields i H' x H2 hi' trivial y
  exact ⟨.int (lo + i), by simp [hi'], Same.refl _, .int _⟩
/-- x is walked, a list or a tuple -/
theorem pi_seq {tg e : Expr} {te : TE} (h : PE X e te) : PI X tg e (fun σ H R => te σ H fun x H1 => ∃ a, x = .ref a ∧ ((∃ xs, SqL X.K H1 a xs ∧ R (Itl X.K a) H1) ∨ ∃ xs, SqT X.K H1 a xs ∧ R (Itt X.K a) H1)) := by
  refine ⟨fun pins s σ H R I w => ?_⟩
  refine thn (h.run pins s σ H _ I w) fun v s1 ⟨x, H1, I1, r1, q1⟩ => ?_
  obtain ⟨a, e, q⟩ := q1
  subst e
  cases r1
  rcases q with ⟨xs, hq, q⟩ | ⟨xs, hq, q⟩
  · obtain ⟨its, rv, p, hz⟩ := I1.list hq
    refine wpAny_pyIter_list p.isList ?_
    refine ⟨s1.heap.objs.size, [s1.heap.objs.size], _, _, H1, rfl, I1.kept (t' := s1.toks) fun b o e => Heap.get?_push_of_some _ e, turn_list a _, ⟨_, Heap.get?_push_size _ rfl, rfl, rfl⟩, fun b hb => ?_, q⟩
    have e : b = s1.heap.objs.size := by simpa using hb
    subst e
    exact I1.fpOk (Nat.le_refl _) (I1.hok.fresh (Nat.le_refl _))
  · obtain ⟨its, rv, p, hz⟩ := I1.tuple hq
    refine wpAny_pyIter_tuple (show s1.heap.IsTuple a its.toArray from p) ?_
    refine ⟨s1.heap.objs.size, [s1.heap.objs.size], _, _, H1, rfl, I1.kept (t' := s1.toks) fun b o e => Heap.get?_push_of_some _ e, turn_tuple a _, ⟨_, Heap.get?_push_size _ rfl, rfl, rfl⟩, fun b hb => ?_, q⟩
    have e : b = s1.heap.objs.size := by simpa using hb
    subst e
    exact I1.fpOk (Nat.le_refl _) (I1.hok.fresh (Nat.le_refl _))
theorem src_e (g : GX D G X sc) {tg : Expr} {a : IE} {ea : Expr} (ha : PE X ea (tF D G W a)) : PI X tg ea (tSrc D G W (.e a)) := by
  refine (pi_seq ha).of fun σ H R ⟨O, ρ, s, rs, h⟩ => ?_
  simp only [evSrc] at h
  refine one_of rs h fun x s1 v1 O' ρ1 H1 sub rs1 l q _ q1 _ => ?_
  cases e1 : x.t with
  | none => rw [e1] at q; exact q.elim
  | some t =>
    rw [e1] at q
    have r1 := q1 t e1
    have rs1' := rs1.sub (D := D) sub
    obtain ⟨ts, e, q⟩ := Out.opt q
    unfold listOf at e
    split at e
    · cases e
      cases r1 with
      | lst f n rv => exact ⟨_, rfl, .inl ⟨_, SqL.of f, g.hK ▸ q _ ρ1 H1 l rs1' (walk_lst rs1'.mut f n rv)⟩⟩
    · cases e
      cases r1 with
      | tup f rv => exact ⟨_, rfl, .inr ⟨_, g.hK ▸ f.sq, g.hK ▸ q _ ρ1 H1 l rs1' (walk_tupT rs1'.mut f.sq rv)⟩⟩
    · cases e
theorem src_range1 (g : GX D G X sc) {tg : Expr} {a : IE} {ea : Expr} {x : Str} {p p' : Pos} (hx : glB sc x "range" = true) (ha : PE X ea (tF D G W a)) (hs : notStar ea = true) : PI X tg (.Call (.Name x p) [ea] [] p') (tSrc D G W (.range1 a)) := by
  obtain ⟨rfl, gl, hd, hn'⟩ := g.gl hx
  refine (pi_range1 gl (g.blt "range" (by decide)) (pa_cons ha pa_nil (starEach_of hs)) (starEach_of hs)).of fun σ H R ⟨O, ρ, s, rs, h⟩ => ?_
  simp only [evSrc] at h
  refine one_of rs h fun x s1 v1 O' ρ1 H1 sub rs1 l q _ q1 _ => ?_
  cases e1 : x.t with
  | none => rw [e1] at q; exact q.elim
  | some t =>
    rw [e1] at q
    have r1 := q1 t e1
    cases t with
    | int i =>
      cases r1
      dsimp only at q
      by_cases hz : ok62 i = true
      · rw [if_pos hz] at q
        have hz' := of_decide_eq_true hz
        refine ⟨i, rfl, hz'.1, hz'.2, q _ ρ1 H1 l (rs1.sub sub) ?_⟩
        have := walk_rng (K := D.K) (ρ := ρ1) (L := Lv O ρ1 s1.env σ) (H := H1) (lo := 0) (n := i.toNat)
        unfold rangeL
        simpa using this
      · rw [if_neg hz] at q; exact q.elim
    | _ => exact q.elim
theorem src_range2 (g : GX D G X sc) {tg : Expr} {a b : IE} {ea eb : Expr} {x : Str} {p p' : Pos} (hx : glB sc x "range" = true) (ha : PE X ea (tF D G W a)) (hs : notStar ea = true) (hb : PE X eb (tF D G W b)) (hs' : notStar eb = true) :
    PI X tg (.Call (.Name x p) [ea, eb] [] p') (tSrc D G W (.range2 a b)) := by
  obtain ⟨rfl, gl, hd, hn'⟩ := g.gl hx
  refine (pi_range2 gl (g.blt "range" (by decide)) (pa_cons ha (pa_cons hb pa_nil (starEach_of hs')) (starEach_of hs)) (by rw [starEach_of hs, starEach_of hs']; rfl) (starEach_of hs')).of fun σ H R ⟨O, ρ, s, rs, h⟩ => ?_
  simp only [evSrc] at h
  refine two_of rs h fun x y s2 v1 v2 O' ρ2 H2 sub rs2 l q _ _ q2 q1 => ?_
  cases e1 : x.t with
  | none => rw [e1] at q; exact q.elim
  | some t =>
    cases e2 : y.t with
    | none => rw [e1, e2] at q; cases t <;> exact q.elim
    | some u =>
      rw [e1, e2] at q
      have r1 := q1 t e1
      have r2 := q2 u e2
      cases t with
      | int i =>
        cases u with
        | int j =>
          cases r1; cases r2
          dsimp only at q
          by_cases hz : (ok62 i && ok62 j) = true
          · rw [if_pos hz] at q
            rw [Bool.and_eq_true] at hz
            have h1 := of_decide_eq_true hz.1
            have h2 := of_decide_eq_true hz.2
            exact ⟨i, j, rfl, ⟨h1.1, h1.2, h2.1, h2.2⟩, q _ ρ2 H2 l (rs2.sub sub) walk_rng⟩
          · rw [if_neg hz] at q; exact q.elim
        | _ => exact q.elim
      | _ => exact q.elim
end
end L2.TV

set_option maxHeartbeats 1000000
namespace L2.TV
open PySem PySem.Spec PyProof.Rows
section
variable {D : Wd} {G : Cfg} {X : Cx} {sc : Scope} {W : WX'} {O O' O1 : OX} {ρ ρ' ρ0 : List Addr} {env env' env0 : List Slot} {σ σ' σ0 : St} {H H0 H' H1 : Hp} {s s' s1 : S} {v : V} {r : Rt} {K : PySem.W.Frag} {L L' : Addr → Prop}
theorem get_set {α : Type} (l : List α) (i j : Nat) (x : α) : (l.set i x)[j]? = if i = j then (if i < l.length then some x else none) else l[j]? := by
  rw [List.getElem?_set]
/-- a slot takes a value -/
theorem RS.setVal {i : Nat} {t : T} (rs : RS D.K D.cls O ρ s σ H) (rv : Rp D.K ρ (Lv O ρ s.env σ) H v t) :
    RS D.K D.cls O ρ { s with env := s.env.set i (.val t) } (σ.set i (some v)) H ∧ Le ρ s.env σ H ρ (s.env.set i (.val t)) (σ.set i (some v)) H := by
  have own : ∀ b, OwnA (s.env.set i (.val t)) (σ.set i (some v)) b → OwnA s.env σ b := fun b ⟨j, y, f1, f2, f3⟩ => by
    rw [get_set] at f1 f3
    by_cases h : i = j
    · rw [if_pos h] at f1
      split at f1
      · cases f1; cases f2
      · cases f1
    · rw [if_neg h] at f1 f3
      exact ⟨j, y, f1, f2, f3⟩
  have sub : ∀ b, Lv O ρ (s.env.set i (.val t)) (σ.set i (some v)) b → Lv O ρ s.env σ b := fun b l => l.imp id (Or.imp id (own b))
  refine ⟨⟨rs.nd, rs.len, fun j u f => ?_, fun j y f1 f2 => ?_, fun j k y z b f1 f2 f3 f4 f5 f6 => ?_, fun n c b f1 f2 => (rs.cell n c b f1 f2).sub sub, rs.out, by show (s.env.set i _).length = _; simp [rs.elen]⟩,
    ⟨fun _ _ h => h, fun _ h => .inl h, fun b h => .inl (own b h), fun _ _ h _ _ => h, fun _ o h => ⟨o, h⟩⟩⟩
  · have f' : (s.env.set i (.val t))[j]? = some (.val u) := f
    rw [get_set] at f'
    by_cases h : i = j
    · rw [if_pos h] at f'
      split at f'
      · rename_i hl
        cases f'
        refine ⟨v, ?_, rv.sub sub⟩
        rw [get_set, if_pos h, if_pos (by rw [← rs.elen]; exact hl)]
      · cases f'
    · rw [if_neg h] at f'
      obtain ⟨w, q1, q2⟩ := rs.slot j u f'
      exact ⟨w, by rw [get_set, if_neg h]; exact q1, q2.sub sub⟩
  · have f' : (s.env.set i (.val t))[j]? = some y := f1
    rw [get_set] at f'
    by_cases h : i = j
    · rw [if_pos h] at f'
      split at f'
      · cases f'; cases f2
      · cases f'
    · rw [if_neg h] at f'
      obtain ⟨b, q1, q2, q3, q4⟩ := rs.own j y f' f2
      exact ⟨b, by rw [get_set, if_neg h]; exact q1, q2, q3, q4.sub sub⟩
  · have g1 : (s.env.set i (.val t))[j]? = some y := f1
    have g2 : (s.env.set i (.val t))[k]? = some z := f2
    rw [get_set] at g1 g2 f5 f6
    by_cases h : i = j
    · rw [if_pos h] at g1
      split at g1
      · cases g1; cases f3
      · cases g1
    · by_cases h' : i = k
      · rw [if_pos h'] at g2
        split at g2
        · cases g2; cases f4
        · cases g2
      · rw [if_neg h] at g1 f5
        rw [if_neg h'] at g2 f6
        exact rs.inj j k y z b g1 g2 f3 f4 f5 f6

/-! ### targets -/
mutual
def tTg (K : PySem.W.Frag) : Tg → TG
  | .name i => gName i
  | .tup l => gTup K l.length (tTgs K l)
def tTgs (K : PySem.W.Frag) : List Tg → TGs
  | [] => gNil
  | g :: gs => gCons (tTg K g) (tTgs K gs)
end
mutual
def isTg (N : List Str) (sc : Scope) : Tg → Expr → Bool
  | .name i, e => match e with
    | .Name x _ => N[i]? == some x && locB sc x
    | _ => false
  | .tup l, e => match e with
    | .Tuple es _ _ => isTgs N sc l es
    | _ => false
def isTgs (N : List Str) (sc : Scope) : List Tg → List Expr → Bool
  | [], [] => true
  | g :: gs, e :: es => isTg N sc g e && isTgs N sc gs es
  | _, _ => false
end
mutual
def Tg.slots : Tg → List Nat
  | .name i => [i]
  | .tup l => Tg.slotsL l
def Tg.slotsL : List Tg → List Nat
  | [] => []
  | g :: gs => g.slots ++ Tg.slotsL gs
end
theorem GX.locOk (g : GX D G X sc) {x : Str} (h : locB sc x = true) : Loc X.env.scope x ∧ (X.fn x = true ∨ X.env.scope.names.lookup x = some .local) := by
  unfold locB at h
  cases e : sc.names.lookup x with
  | none => rw [e] at h; cases h
  | some kd =>
    rw [e] at h
    cases kd with
    | «local» => have := g.loc x _ e (by decide); exact ⟨.inl this, .inr this⟩
    | cell => exact ⟨.inr (g.loc x _ e (by decide)), .inl (g.fn x e)⟩
    | free => cases h
    | globalExplicit => cases h
    | globalImplicit => cases h
theorem assignEach_of {e : Expr} {es : List Expr} {env : Env} (h : notStar e = true) : assignEach (e :: es) env = (false, assign e env) :: assignEach es env := by
  cases e <;> first | rfl | cases h
theorem isTg_star {N : List Str} {sc : Scope} {tg : Tg} {e : Expr} (h : isTg N sc tg e = true) : notStar e = true := by
  cases tg <;> cases e <;> first | rfl | (simp [isTg] at h)
theorem isTgs_each {N : List Str} {sc : Scope} {env : Env} : ∀ (l : List Tg) (es : List Expr), isTgs N sc l es = true → (assignEach es env).length = l.length ∧ (assignEach es env).findIdx? (·.1) = none
  | [], [], _ => ⟨rfl, rfl⟩
  | t :: gs, e :: es, h => by
    simp only [isTgs, Bool.and_eq_true] at h
    rw [assignEach_of (isTg_star h.1)]
    obtain ⟨h1, h2⟩ := isTgs_each (env := env) gs es h.2
    refine ⟨by simp [h1], ?_⟩
    rw [List.findIdx?_cons, if_neg (by simp), h2]
    rfl
  | [], _ :: _, h => by simp [isTgs] at h
  | _ :: _, [], h => by simp [isTgs] at h
mutual
theorem snd_tg (g : GX D G X sc) : ∀ (tg : Tg) (e : Expr), isTg X.N sc tg e = true → PG X e (tTg X.K tg)
  | .name i, e, h => by
    cases e <;> simp only [isTg] at h <;> first | cases h | skip
    rw [Bool.and_eq_true] at h
    obtain ⟨h1, h2⟩ := g.locOk h.2
    simp only [tTg]
    exact pg_name g.nd (by simpa using h.1) h1 h2
  | .tup l, e, h => by
    cases e <;> simp only [isTg] at h <;> first | cases h | skip
    rename_i es k p
    simp only [tTg]
    obtain ⟨h1, h2⟩ := isTgs_each (env := X.env) l es h
    exact pg_tup g.calm (snd_tgs g l es h) h1 h2
theorem snd_tgs (g : GX D G X sc) : ∀ (l : List Tg) (es : List Expr), isTgs X.N sc l es = true → PGs X es (tTgs X.K l)
  | [], [], _ => by simp only [tTgs]; exact pgs_nil
  | t :: gs, e :: es, h => by
    simp only [isTgs, Bool.and_eq_true] at h
    simp only [tTgs]
    exact pgs_cons (snd_tg g t e h.1) (snd_tgs g gs es h.2) (by rw [assignEach_of (isTg_star h.1)]; rfl)
  | [], _ :: _, h => by simp [isTgs] at h
  | _ :: _, [], h => by simp [isTgs] at h
end
/-- a target takes a value -/
def SlotsIn (is own : List Nat) : Prop := ∀ i ∈ is, i ∈ own
/-- the slots but those are kept -/
def EqBut (own : List Nat) (σ σ' : St) : Prop := σ'.length = σ.length ∧ ∀ i : Nat, i ∉ own → σ'[i]? = σ[i]?
theorem EqBut.refl {own : List Nat} : EqBut own σ σ := ⟨rfl, fun _ _ => rfl⟩
theorem EqBut.set {own : List Nat} {i : Nat} {x : Option V} (h : i ∈ own) : EqBut own σ (σ.set i x) := ⟨by simp, fun j hj => by rw [get_set, if_neg fun e => hj (by rw [← e]; exact h)]⟩
theorem EqBut.trans {own : List Nat} {σ'' : St} (a : EqBut own σ σ') (b : EqBut own σ' σ'') : EqBut own σ σ'' := ⟨b.1.trans a.1, fun i h => (b.2 i h).trans (a.2 i h)⟩
theorem wipe_get {own : List Nat} {i : Nat} : (wipe σ own)[i]? = if i ∈ own then (if i < σ.length then some none else none) else σ[i]? := by
  induction own with
  | nil => simp [wipe]
  | cons v vs ih =>
    unfold wipe
    rw [get_set, wipe_length]
    by_cases h : v = i
    · subst h; simp
    · rw [if_neg h, ih]
      have : (i ∈ v :: vs) ↔ i ∈ vs := by simp [Ne.symm h]
      simp only [this]
theorem EqBut.wipe {own : List Nat} (h : EqBut own σ σ') : L2.wipe σ' own = L2.wipe σ own := by
  apply List.ext_getElem?
  intro i
  rw [wipe_get, wipe_get]
  by_cases hi : i ∈ own
  · rw [if_pos hi, if_pos hi, h.1]
  · rw [if_neg hi, if_neg hi, h.2 i hi]
mutual
theorem bind_ok (g : GX D G X sc) : ∀ (tg : Tg) (t : T) (own : List Nat) (s : S) (σ : St) (H : Hp) (v : V) (env' : List Slot) (Q : St → Hp → Prop), SlotsIn tg.slots own → RS D.K D.cls O ρ s σ H → Rp D.K ρ (Lv O ρ s.env σ) H v t → bindTg tg t s.env = some env' →
    (∀ σ', EqBut own σ σ' → RS D.K D.cls O ρ { s with env := env' } σ' H → Le ρ s.env σ H ρ env' σ' H → Q σ' H) → tTg X.K tg v σ H Q
  | .name i, t, own, s, σ, H, v, env', Q, hs, rs, rv, e, q => by
    simp only [bindTg, Option.some.injEq] at e
    subst e
    obtain ⟨r, l⟩ := rs.setVal (i := i) rv
    simp only [tTg]
    exact q _ (EqBut.set (hs i (by simp [Tg.slots]))) r l
  | .tup gs, t, own, s, σ, H, v, env', Q, hs, rs, rv, e, q => by
    simp only [bindTg] at e
    cases t with
    | tup ts =>
      cases rv with
      | tup f rv =>
        simp only [tTg]
        refine ⟨_, _, rfl, g.hK ▸ f.sq, ?_, ?_⟩
        · rw [rv.len]; exact binds_len gs ts s.env env' e
        · exact binds_ok g gs ts own s σ H _ env' Q (by simpa [Tg.slots] using hs) rs rv e q
    | _ => cases e
theorem binds_len : ∀ (gs : List Tg) (ts : List T) (env env' : List Slot), bindTgs gs ts env = some env' → ts.length = gs.length
  | [], [], _, _, _ => rfl
  | g :: gs, t :: ts, env, env', e => by
    simp only [bindTgs] at e
    cases h : bindTg g t env with
    | none => rw [h] at e; cases e
    | some e1 => rw [h] at e; simp [binds_len gs ts e1 env' e]
  | [], _ :: _, _, _, e => by simp [bindTgs] at e
  | _ :: _, [], _, _, e => by simp [bindTgs] at e
theorem binds_ok (g : GX D G X sc) : ∀ (gs : List Tg) (ts : List T) (own : List Nat) (s : S) (σ : St) (H : Hp) (vs : List V) (env' : List Slot) (Q : St → Hp → Prop), SlotsIn (Tg.slotsL gs) own → RS D.K D.cls O ρ s σ H → RpL D.K ρ (Lv O ρ s.env σ) H vs ts → bindTgs gs ts s.env = some env' →
    (∀ σ', EqBut own σ σ' → RS D.K D.cls O ρ { s with env := env' } σ' H → Le ρ s.env σ H ρ env' σ' H → Q σ' H) → tTgs X.K gs vs σ H Q
  | [], [], own, s, σ, H, vs, env', Q, hs, rs, rv, e, q => by
    simp only [bindTgs, Option.some.injEq] at e
    subst e
    cases rv
    simp only [tTgs]
    exact ⟨rfl, q σ EqBut.refl rs Le.refl⟩
  | t :: gs, u :: ts, own, s, σ, H, vs, env', Q, hs, rs, rv, e, q => by
    simp only [bindTgs] at e
    cases h : bindTg t u s.env with
    | none => rw [h] at e; cases e
    | some e1 =>
      rw [h] at e
      cases rv with
      | cons r1 r2 =>
        have hs' : SlotsIn (t.slots ++ Tg.slotsL gs) own := by simpa [Tg.slotsL] using hs
        simp only [tTgs]
        refine ⟨_, _, rfl, bind_ok g t u own s σ H _ e1 _ (fun i m => hs' i (List.mem_append_left _ m)) rs r1 h fun σ1 b1 rs1 l1 => ?_⟩
        exact binds_ok g gs ts own { s with env := e1 } σ1 H _ env' Q (fun i m => hs' i (List.mem_append_right _ m)) rs1 (r2.le rs l1) e fun σ2 b2 rs2 l2 => q σ2 (b1.trans b2) rs2 (l1.trans l2)
  | [], _ :: _, _, _, _, _, _, _, _, _, _, _, e, _ => by simp [bindTgs] at e
  | _ :: _, [], _, _, _, _, _, _, _, _, _, _, e, _ => by simp [bindTgs] at e
end
end
end L2.TV

set_option maxHeartbeats 1000000
/-! List comprehensions of one clause. -/
namespace L2.TV
open PySem PySem.Spec PyProof.Rows
section
variable {D : Wd} {G : Cfg} {X : Cx} {sc : Scope} {W : WX'} {O O' O1 : OX} {ρ ρ' ρ0 ρ1 : List Addr} {env env' env0 : List Slot} {σ σ' σ0 : St} {H H0 H' H1 : Hp} {s s' s1 : S} {v : V} {r : Rt} {K : PySem.W.Frag} {L L' : Addr → Prop}
/-- slots forgotten -/
structure Less (env : List Slot) (σ : St) (env' : List Slot) (σ' : St) : Prop where
  l1 : env'.length = env.length
  l2 : σ'.length = σ.length
  at' : ∀ (i : Nat) (x : Slot), env'[i]? = some x → x = .none ∨ (env[i]? = some x ∧ σ'[i]? = σ[i]?)
theorem Less.own (h : Less env σ env' σ') {b : Addr} (o : OwnA env' σ' b) : OwnA env σ b := by
  obtain ⟨j, y, f1, f2, f3⟩ := o
  rcases h.at' j y f1 with rfl | ⟨g1, g2⟩
  · cases f2
  · exact ⟨j, y, g1, f2, g2 ▸ f3⟩
theorem Less.le (h : Less env σ env' σ') : Le ρ env σ H ρ env' σ' H := ⟨fun _ _ h => h, fun _ h => .inl h, fun _ o => .inl (h.own o), fun _ _ h _ _ => h, fun _ o h => ⟨o, h⟩⟩
theorem RS.less (rs : RS D.K D.cls O ρ s σ H) (h : Less s.env σ env' σ') : RS D.K D.cls O ρ { s with env := env' } σ' H := by
  have sub : ∀ b, Lv O ρ env' σ' b → Lv O ρ s.env σ b := fun b l => l.imp id (Or.imp id h.own)
  refine ⟨rs.nd, rs.len, fun j u f => ?_, fun j y f1 f2 => ?_, fun j k y z b f1 f2 f3 f4 f5 f6 => ?_, fun n c b f1 f2 => (rs.cell n c b f1 f2).sub sub, rs.out, ?_⟩
  · rcases h.at' j _ f with e | ⟨g1, g2⟩
    · cases e
    · obtain ⟨v, q1, q2⟩ := rs.slot j u g1
      exact ⟨v, g2 ▸ q1, q2.sub sub⟩
  · rcases h.at' j _ f1 with rfl | ⟨g1, g2⟩
    · cases f2
    · obtain ⟨b, q1, q2, q3, q4⟩ := rs.own j y g1 f2
      exact ⟨b, g2 ▸ q1, q2, q3, q4.sub sub⟩
  · rcases h.at' j _ f1 with rfl | ⟨g1, g2⟩
    · cases f3
    · rcases h.at' k _ f2 with rfl | ⟨g3, g4⟩
      · cases f4
      · exact rs.inj j k y z b g1 g3 f3 f4 (g2 ▸ f5) (g4 ▸ f6)
  · show env'.length = _
    rw [h.l1, h.l2]; exact rs.elen
theorem wipeE_len (env : List Slot) : ∀ own, (wipeE env own).length = env.length
  | [] => rfl
  | v :: vs => by simp [wipeE, wipeE_len env vs]
theorem wipeE_get {own : List Nat} {i : Nat} : (wipeE env own)[i]? = if i ∈ own then (if i < env.length then some .none else none) else env[i]? := by
  induction own with
  | nil => simp [wipeE]
  | cons v vs ih =>
    unfold wipeE
    rw [get_set, wipeE_len]
    by_cases h : v = i
    · subst h; simp
    · rw [if_neg h, ih]
      have : (i ∈ v :: vs) ↔ i ∈ vs := by simp [Ne.symm h]
      simp only [this]
theorem backE_len (env0 env : List Slot) : ∀ own, (backE env0 env own).length = env.length
  | [] => rfl
  | v :: vs => by simp [backE, backE_len env0 env vs]
theorem backE_get {own : List Nat} {i : Nat} : (backE env0 env own)[i]? = if i ∈ own then (if i < env.length then some (env0.getD i .none) else none) else env[i]? := by
  induction own with
  | nil => simp [backE]
  | cons v vs ih =>
    unfold backE
    rw [get_set, backE_len]
    by_cases h : v = i
    · subst h; simp
    · rw [if_neg h, ih]
      have : (i ∈ v :: vs) ↔ i ∈ vs := by simp [Ne.symm h]
      simp only [this]
theorem less_wipe (own : List Nat) (env : List Slot) (σ : St) : Less env σ (wipeE env own) (wipe σ own) := by
  refine ⟨wipeE_len _ _, wipe_length _ _, fun i x e => ?_⟩
  rw [wipeE_get] at e
  rw [wipe_get]
  by_cases h : i ∈ own
  · rw [if_pos h] at e
    split at e
    · cases e; exact .inl rfl
    · cases e
  · rw [if_neg h] at e ⊢
    exact .inr ⟨e, rfl⟩
/-- a list that this reckoning alone may write takes another content -/
theorem RS.writeO {p : Addr} {o : HO} (rs : RS D.K D.cls O ρ s σ H) (hp : O p) (hm : Mut (some o)) (ho : ∀ b, H p ≠ some (.own b)) : RS D.K D.cls O ρ s σ (upd H p o) := by
  have np := (rs.out p hp).1
  have no : ¬ OwnA s.env σ p := fun ⟨i, x, e1, e2, e3⟩ => by
    obtain ⟨a, f1, f2, _⟩ := rs.own i x e1 e2
    rw [e3] at f1; cases f1
    exact f2 hp
  have k : Kp ρ (Lv O ρ s.env σ) H ρ (Lv O ρ s.env σ) (upd H p o) := ⟨fun _ _ h => h, fun a u e n => by
    rw [upd_ne fun z => n (by subst z; exact .inr (.inl hp))]; exact e, fun _ l => .inl l⟩
  have m := rs.mut
  have ne : ∀ {a : Addr}, a ≠ p → ∀ u, H a = some u → upd H p o a = some u := fun n u e => by rw [upd_ne n]; exact e
  refine ⟨rs.nd, rs.len, fun i t e => ?_, fun i x e1 e2 => ?_, rs.inj, fun n c a e1 e2 => ?_, fun a h => ?_, rs.elen⟩
  · obtain ⟨v, q1, q2⟩ := rs.slot i t e
    exact ⟨v, q1, q2.kp k m⟩
  · obtain ⟨a, q1, q2, q3, q4⟩ := rs.own i x e1 e2
    exact ⟨a, q1, q2, q3, q4.kp k m (ne fun z => q2 (z ▸ hp))⟩
  · refine (rs.cell n c a e1 e2).kp k m (ne fun z => np (z ▸ List.mem_of_getElem? e2)) fun b e => ?_
    rw [upd_ne fun z => ho a (by subst z; exact e)]; exact e
  · obtain ⟨q1, o', q2, q3⟩ := rs.out a h
    by_cases z : a = p
    · subst z; exact ⟨q1, o, upd_same, hm⟩
    · exact ⟨q1, o', by rw [upd_ne z]; exact q2, q3⟩
theorem Le.updNew {p : Addr} {o : HO} (l : Le ρ env σ H ρ' env' σ' H') (hp : H p = Option.none) : Le ρ env σ H ρ' env' σ' (upd H' p o) :=
  ⟨l.pre, l.fr, l.ow, fun a u e n1 n2 => by rw [upd_ne (ne_of_none e hp)]; exact l.kp a u e n1 n2, fun a u e => by
    obtain ⟨u', e'⟩ := l.tr a u e
    exact ⟨u', by rw [upd_ne (ne_of_none e hp)]; exact e'⟩⟩
/-- the trees of a walk through a step of the block -/
theorem kp_block {p : Addr} (l : Le ρ env σ H ρ' env' σ' H') (hp : H p = none) (sub : ∀ b, OwnA env σ b → OwnA env0 σ0 b) : Kp ρ (Lv O ρ env0 σ0) H ρ' (Lv (OX.add O p) ρ' env' σ') H' where
  pre := l.pre
  kp := fun a o h n => l.kp a o h (fun m => n (.inl m)) fun m => n (.inr (.inr (sub a m)))
  lv := fun a h => by
    rcases h with h | (h | h) | h
    · exact (l.fr a h).imp .inl id
    · exact .inl (.inr (.inl h))
    · subst h; exact .inr hp
    · exact (l.ow a h).imp (fun z => .inr (.inr (sub a z))) id

theorem lcTurns_ok {own : List Nat} {tg : Tg} {cond : S → R Bool} {elt : S → R T} {t : T} {ts : List T} {s s2 : S} {acc ys : List T} (h : lcTurns own tg cond elt (t :: ts) s acc = .ok ys s2) :
    ∃ env k s1, bindTg tg t (wipeE s.env own) = some env ∧ cond { s with env := env } = .ok k s1 ∧
      ((k = true ∧ ∃ y s3, elt s1 = .ok y s3 ∧ acc.length < sizeLine ∧ lcTurns own tg cond elt ts s3 (acc ++ [y]) = .ok ys s2) ∨ (k = false ∧ lcTurns own tg cond elt ts s1 acc = .ok ys s2)) := by
  unfold lcTurns at h
  cases e1 : bindTg tg t (wipeE s.env own) with
  | none => rw [e1] at h; cases h
  | some env =>
    rw [e1] at h
    dsimp only at h
    cases e2 : cond { s with env := env } with
    | bad => rw [e2] at h; cases h
    | err c fs s1 => rw [e2] at h; cases h
    | ok k s1 =>
      rw [e2] at h
      dsimp only [R.bind] at h
      refine ⟨env, k, s1, rfl, e2, ?_⟩
      cases k with
      | false => exact .inr ⟨rfl, by simpa using h⟩
      | true =>
        refine .inl ⟨rfl, ?_⟩
        simp only [if_true] at h
        cases e3 : elt s1 with
        | bad => rw [e3] at h; cases h
        | err c fs s3 => rw [e3] at h; cases h
        | ok y s3 =>
          rw [e3] at h
          dsimp only at h
          split at h
          · exact ⟨y, s3, rfl, by assumption, h⟩
          · cases h

/-- nothing may be raised within a block -/
def W0 : WX' := fun _ _ _ _ => False
def tFc (D : Wd) (G : Cfg) (W : WX') (e : Option IE) : TT := fun σ H Q => ∃ O ρ s, RS D.K D.cls O ρ s σ H ∧ Out D W O ρ s.env σ H (evC G e s) fun k s' => ∀ ρ' H', Le ρ s.env σ H ρ' s'.env σ H' → RS D.K D.cls O ρ' s' σ H' → Q k H'
theorem _root_.L2.PTs.of {e : List Expr} {t t' : TT} (h : PTs X e t) (f : ∀ σ H Q, t' σ H Q → t σ H Q) : PTs X e t' := ⟨fun pins s σ H Q I w => h.run pins s σ H Q I (f σ H Q w)⟩
theorem snd_c0 : PTs X [] (tFc D G W none) := pts_nil.of fun σ H Q ⟨O, ρ, s, rs, h⟩ => by
  simp only [evC] at h
  exact h ρ H Le.refl rs
theorem snd_c1 {a : IE} {ea : Expr} (ha : PT X ea (tFb D G W a)) : PTs X [ea] (tFc D G W (some a)) := (pts_one ha).of fun σ H Q ⟨O, ρ, s, rs, h⟩ => by
  simp only [evC] at h
  exact ⟨O, ρ, s, rs, h⟩

theorem Kp.trans {ρ'' : List Addr} {L'' : Addr → Prop} {H'' : Hp} (a : Kp ρ L H ρ' L' H') (b : Kp ρ' L' H' ρ'' L'' H'') (tr : ∀ x o, H x = some o → ∃ o', H' x = some o') : Kp ρ L H ρ'' L'' H'' where
  pre := fun n x h => b.pre n x (a.pre n x h)
  kp := fun x o h n => b.kp x o (a.kp x o h n) fun l => (a.lv x l).elim n fun e => by rw [h] at e; cases e
  lv := fun x l => (b.lv x l).elim (fun l => a.lv x l) fun e => .inr (by
    cases q : H x with
    | none => rfl
    | some o => obtain ⟨o', e'⟩ := tr x o q; rw [e] at e'; cases e')
/-- what this reckoning alone may write stays over a step of the block -/
theorem RS.keepO {ρa ρb : List Addr} {sa : S} {envb : List Slot} {Ha Hb : Hp} {p : Addr} {o : HO} (r : RS D.K D.cls (OX.add O p) ρa sa σ Ha) (l : Le ρa sa.env σ Ha ρb envb σ' Hb) (e : Ha p = some o) : Hb p = some o :=
  l.kp p _ e (r.out p (.inr rfl)).1 fun ⟨j, z, e1, e2, e3⟩ => by
    obtain ⟨a, f1, f2, _⟩ := r.own j z e1 e2
    rw [e3] at f1; cases f1
    exact f2 (.inr rfl)
theorem wipe_wipe {own own1 : List Nat} (h : SlotsIn own1 own) : wipe (wipe σ own1) own = wipe σ own := by
  apply List.ext_getElem?
  intro j
  simp only [wipe_get, wipe_length]
  by_cases hj : j ∈ own
  · simp [hj]
  · have : j ∉ own1 := fun z => hj (h j z)
    simp [hj, this]
theorem wipeE_wipeE {own own1 : List Nat} (h : SlotsIn own1 own) : wipeE (wipeE env own1) own = wipeE env own := by
  apply List.ext_getElem?
  intro j
  simp only [wipeE_get, wipeE_len]
  by_cases hj : j ∈ own
  · simp [hj]
  · have : j ∉ own1 := fun z => hj (h j z)
    simp [hj, this]
/-- a turn's beginning: the target takes the item, the condition is asked -/
theorem turn_ok (g : GX D G X sc) {cond : Option IE} {own : List Nat} {tg : Tg} {t : T} {env : List Slot} {k : Bool} {s3 s4 : S} {x : V} {H3 : Hp} {ρ2 : List Addr} {Kn : Bool → St → Hp → Prop} (hs : SlotsIn tg.slots own) (rs3 : RS D.K D.cls O ρ2 { s3 with env := wipeE s3.env own } (wipe σ own) H3)
    (rx : Rp D.K ρ2 (Lv O ρ2 (wipeE s3.env own) (wipe σ own)) H3 x t) (hb : bindTg tg t (wipeE s3.env own) = some env) (hc : evC G cond { s3 with env := env } = .ok k s4)
    (q : ∀ σ2 ρ4 H4, wipe σ2 own = wipe σ own → RS D.K D.cls O ρ4 s4 σ2 H4 → Le ρ2 (wipeE s3.env own) (wipe σ own) H3 ρ4 s4.env σ2 H4 → Kn k σ2 H4) :
    tTg X.K tg x (wipe σ own) H3 fun σ2 H2 => wipe σ2 own = wipe σ own ∧ tFc D G W0 cond σ2 H2 fun b H4 => Kn b σ2 H4 := by
  refine bind_ok (O := O) (ρ := ρ2) g tg t own { s3 with env := wipeE s3.env own } (wipe σ own) H3 x env _ hs rs3 rx hb fun σ2 eb rs4 l4 => ?_
  have hw2 : wipe σ2 own = wipe σ own := by
    rw [eb.wipe, wipe_wipe fun _ h => h]
  refine ⟨hw2, O, ρ2, _, rs4, ?_⟩
  show Out D W0 _ ρ2 env σ2 H3 (evC G cond { s3 with env := env }) _
  rw [hc]
  exact fun ρ4 H4 l5 rs5 => q σ2 ρ4 H4 hw2 rs5 (l4.trans l5)
/-- the turns of a block, over what a walk gives -/
theorem turns_walk (g : GX D G X sc) {elt : IE} {tg : Tg} {cond : Option IE} {own : List Nat} (hs : SlotsIn tg.slots own) {p : Addr} {J : It} {ts ys accT0 : List T} {s2 : S} {acc0 : List V} {ρb ρw : List Addr} {envb : List Slot} {σb : St} {Hb Hw : Hp} {Lw : Addr → Prop}
    (hp : Hb p = none) (walk : WalkT D.K ρw Lw Hw J ts) (rs0 : RS D.K D.cls (OX.add O p) ρ1 { s1 with env := wipeE s1.env own } (wipe σ own) H1) (l0 : Le ρb envb σb Hb ρ1 (wipeE s1.env own) (wipe σ own) H1)
    (k0 : Kp ρw Lw Hw ρ1 (Lv (OX.add O p) ρ1 (wipeE s1.env own) (wipe σ own)) H1) (t0 : ∀ x o, Hw x = some o → ∃ o', H1 x = some o') (hD0 : H1 p = some (.lst acc0)) (rv0 : RpL D.K ρ1 (Lv (OX.add O p) ρ1 (wipeE s1.env own) (wipe σ own)) H1 acc0 accT0)
    (hlc0 : lcTurns own tg (fun s => evC G cond s) (fun s => (ev G elt s).bind fun y s' => R.opt y.t s') ts s1 accT0 = .ok ys s2) {Qd : Hp → Prop}
    (fin : ∀ ρ' H' acc, RS D.K D.cls (OX.add O p) ρ' { s2 with env := wipeE s2.env own } (wipe σ own) H' → Le ρb envb σb Hb ρ' (wipeE s2.env own) (wipe σ own) H' → Kp ρw Lw Hw ρ' (Lv (OX.add O p) ρ' (wipeE s2.env own) (wipe σ own)) H' → (∀ x o, Hw x = some o → ∃ o', H' x = some o') →
      H' p = some (.lst acc) → RpL D.K ρ' (Lv (OX.add O p) ρ' (wipeE s2.env own) (wipe σ own)) H' acc ys → Qd H') :
    ∃ Wf : Nat → Nat → Hp → Prop, (∃ m, Wf 0 m H1) ∧ ∀ i m H, Wf i m H → (J.stop i H ∧ Qd H) ∨ (J.go i H ∧ ∃ Nx : Hp → Prop, (∀ H', Nx H' → ∃ m', m' < m ∧ Wf (i + 1) m' H') ∧ ∀ x H', J.yld i H x H' → tTg X.K tg x (wipe σ own) H' fun σ2 H2 => wipe σ2 own = wipe σ own ∧ tFc D G W0 cond σ2 H2 fun b H3 =>
      if b = true then tF D G W0 elt σ2 H3 fun y H4 => ∃ acc, H4 p = some (.lst acc) ∧ acc.length < sizeLine ∧ Nx (upd H4 p (.lst (acc ++ [y]))) else Nx H3) := by
  generalize helt : (fun s => (ev G elt s).bind fun y s' => R.opt y.t s') = ef at hlc0
  refine ⟨fun i m H' => m = ts.length - i ∧ i ≤ ts.length ∧ ∃ ρ' s' acc accT, RS D.K D.cls (OX.add O p) ρ' { s' with env := wipeE s'.env own } (wipe σ own) H' ∧ Le ρb envb σb Hb ρ' (wipeE s'.env own) (wipe σ own) H' ∧ Kp ρw Lw Hw ρ' (Lv (OX.add O p) ρ' (wipeE s'.env own) (wipe σ own)) H' ∧ (∀ x o, Hw x = some o → ∃ o', H' x = some o') ∧
    H' p = some (.lst acc) ∧ RpL D.K ρ' (Lv (OX.add O p) ρ' (wipeE s'.env own) (wipe σ own)) H' acc accT ∧ lcTurns own tg (fun s => evC G cond s) ef (ts.drop i) s' accT = .ok ys s2, ⟨ts.length, by simp, Nat.zero_le _, ρ1, s1, acc0, accT0, rs0, l0, k0, t0, hD0, rv0, by simpa using hlc0⟩, ?_⟩
  rintro i m H2 ⟨rfl, hi, ρ2, s3, acc, accT, rs2, l2, k2, t2, hD, rv, hlc⟩
  obtain ⟨wstop, wgo⟩ := walk ρ2 _ H2 k2 rs2.mut
  by_cases hlt : i < ts.length
  · refine .inr ⟨(wgo i hlt).1, ?_⟩
    obtain ⟨t, ht⟩ : ∃ t, ts[i]? = some t := ⟨ts[i], List.getElem?_eq_getElem hlt⟩
    have hdrop : ts.drop i = t :: ts.drop (i + 1) := by
      obtain ⟨h', e⟩ := List.getElem?_eq_some_iff.mp ht
      rw [← e]; exact List.drop_eq_getElem_cons h'
    rw [hdrop] at hlc
    obtain ⟨env, k, s4, hb, hc, hk⟩ := lcTurns_ok hlc
    refine ⟨fun H' => ∃ ρ' s' acc accT, RS D.K D.cls (OX.add O p) ρ' { s' with env := wipeE s'.env own } (wipe σ own) H' ∧ Le ρb envb σb Hb ρ' (wipeE s'.env own) (wipe σ own) H' ∧ Kp ρw Lw Hw ρ' (Lv (OX.add O p) ρ' (wipeE s'.env own) (wipe σ own)) H' ∧ (∀ x o, Hw x = some o → ∃ o', H' x = some o') ∧
      H' p = some (.lst acc) ∧ RpL D.K ρ' (Lv (OX.add O p) ρ' (wipeE s'.env own) (wipe σ own)) H' acc accT ∧ lcTurns own tg (fun s => evC G cond s) ef (ts.drop (i + 1)) s' accT = .ok ys s2, fun H' nx => ⟨ts.length - (i + 1), by omega, rfl, hlt, nx⟩, fun x H3 y => ?_⟩
    obtain ⟨t', ht', sm, rx⟩ := (wgo i hlt).2 x H3 y
    rw [ht] at ht'; cases ht'
    have rs3 := rs2.same sm
    have l3 := l2.trans (Le.same sm)
    have lsm : Le ρ2 (wipeE s3.env own) (wipe σ own) H2 ρ2 (wipeE s3.env own) (wipe σ own) H3 := Le.same sm
    have rv3 := rv.le rs2 lsm
    have hD3 := sm _ _ hD
    refine turn_ok (O := OX.add O p) g hs rs3 rx hb hc fun σ2 ρ4 H4 hw2 rs5 l5 => ?_
    have rv5 := rv3.le rs3 l5
    have hD4 := rs3.keepO l5 hD3
    have kk : ∀ {ρ5 : List Addr} {s5 : S} {H5 : Hp}, Le ρ4 s4.env σ2 H4 ρ5 s5.env σ2 H5 → Kp ρw Lw Hw ρ5 (Lv (OX.add O p) ρ5 (wipeE s5.env own) (wipe σ own)) H5 ∧ (∀ x o, Hw x = some o → ∃ o', H5 x = some o') := fun {ρ5 s5 H5} l6 => by
      have lw := less_wipe own s5.env σ2
      rw [hw2] at lw
      have la := lsm.trans (l5.trans (l6.trans lw.le))
      exact ⟨k2.trans (la.kpO (O := OX.add O p)) t2, fun x o e => by obtain ⟨o1, e1⟩ := t2 x o e; exact la.tr _ _ e1⟩
    rcases hk with ⟨rfl, y, s5, he, hz, hrest⟩ | ⟨rfl, hrest⟩
    · simp only [if_true]
      refine ⟨OX.add O p, ρ4, s4, rs5, ?_⟩
      rw [← helt] at he
      dsimp only at he
      cases e5 : ev G elt s4 with
      | bad => rw [e5] at he; cases he
      | err c fs s' => rw [e5] at he; cases he
      | ok r s' =>
        rw [e5] at he
        dsimp only [R.bind] at he
        cases e6 : r.t with
        | none => rw [e6] at he; cases he
        | some u =>
          rw [e6] at he
          cases he
          intro v ρ5 H5 l6 ok
          obtain ⟨rs6, rvy⟩ := ok.val e6
          have rv6 := rv5.le rs5 l6
          have hD5 := rs5.keepO l6 hD4
          have lw := less_wipe own s5.env σ2
          rw [hw2] at lw
          have rs7 := rs6.less lw
          obtain ⟨kk1, kk2⟩ := kk l6
          refine ⟨acc, hD5, by rw [rv.len]; exact hz, ρ5, s5, acc ++ [v], accT ++ [y], rs7.writeO (.inr rfl) trivial (fun b e => by rw [hD5] at e; cases e), Le.updNew (l3.trans (l5.trans (l6.trans lw.le))) hp, ⟨kk1.pre, fun a o e n => ?_, kk1.lv⟩, fun a o e => ?_, upd_same, ?_, hrest⟩
          · have e' := kk1.kp a o e n
            have na : a ≠ p := fun z => by
              subst z
              exact (kk1.lv a (.inr (.inl (.inr rfl)))).elim n fun z => by rw [e] at z; cases z
            rw [upd_ne na]; exact e'
          · by_cases na : a = p
            · subst na; exact ⟨_, upd_same⟩
            · rw [upd_ne na]; exact kk2 a o e
          · have z' := (rv6.append (.cons rvy .nil)).le rs6 (Le.trans (Le.refl) (lw.le))
            refine z'.kp ⟨fun _ _ h => h, fun a u e n => ?_, fun _ l => .inl l⟩ rs7.mut
            rw [upd_ne fun q => n (.inr (.inl (.inr q)))]; exact e
    · simp only [Bool.false_eq_true, if_false]
      have lw := less_wipe own s4.env σ2
      rw [hw2] at lw
      obtain ⟨kk1, kk2⟩ := kk (Le.refl (ρ := ρ4) (env := s4.env) (σ := σ2) (H := H4))
      exact ⟨ρ4, s4, acc, accT, rs5.less lw, l3.trans (l5.trans lw.le), kk1, kk2, hD4, rv5.le rs5 lw.le, hrest⟩
  · have hi' : i = ts.length := by omega
    subst hi'
    refine .inl ⟨wstop, ?_⟩
    rw [List.drop_length] at hlc
    unfold lcTurns at hlc
    cases hlc
    exact fin ρ2 H2 acc rs2 l2 k2 t2 hD rv
/-- back in the frame, behind a block -/
theorem back_ok {own : List Nat} {p : Addr} {s2 : S} {ρ2 : List Addr} {H2 : Hp} (nown : ∀ i ∈ own, (s1.env.getD i .none).isOwn = false) (rs1 : RS D.K D.cls O ρ1 s1 σ H1) (hp : H1 p = none)
    (rs2 : RS D.K D.cls (OX.add O p) ρ2 { s2 with env := wipeE s2.env own } (wipe σ own) H2) (l2 : Le ρ1 (wipeE s1.env own) (wipe σ own) H1 ρ2 (wipeE s2.env own) (wipe σ own) H2) :
    RS D.K D.cls (OX.add O p) ρ2 { s2 with env := backE s1.env s2.env own } σ H2 ∧ Le ρ1 s1.env σ H1 ρ2 (backE s1.env s2.env own) σ H2 ∧ (∀ b, Lv (OX.add O p) ρ2 (backE s1.env s2.env own) σ b → Lv (OX.add O p) ρ2 (wipeE s2.env own) (wipe σ own) b) := by
  have less1 := less_wipe own s1.env σ
  have kb : Kp ρ1 (Lv O ρ1 s1.env σ) H1 ρ2 (Lv (OX.add O p) ρ2 (wipeE s2.env own) (wipe σ own)) H2 := kp_block l2 hp fun b => less1.own
  have ow : ∀ b, OwnA (backE s1.env s2.env own) σ b → OwnA (wipeE s2.env own) (wipe σ own) b := fun b ⟨j, z, e1, e2, e3⟩ => by
    rw [backE_get] at e1
    by_cases hj : j ∈ own
    · rw [if_pos hj] at e1
      split at e1
      · cases e1
        rw [nown j hj] at e2; cases e2
      · cases e1
    · rw [if_neg hj] at e1
      exact ⟨j, z, by rw [wipeE_get, if_neg hj]; exact e1, e2, by rw [wipe_get, if_neg hj]; exact e3⟩
  have sub : ∀ b, Lv (OX.add O p) ρ2 (backE s1.env s2.env own) σ b → Lv (OX.add O p) ρ2 (wipeE s2.env own) (wipe σ own) b := fun b l => l.imp id (Or.imp id (ow b))
  have le1 : Le ρ1 s1.env σ H1 ρ2 (backE s1.env s2.env own) σ H2 := ⟨l2.pre, l2.fr, fun a o => (l2.ow a (ow a o)).imp less1.own id, fun a o e n1 n2 => l2.kp a o e n1 fun z => n2 (less1.own z), l2.tr⟩
  refine ⟨?_, le1, sub⟩
  refine ⟨rs2.nd, rs2.len, fun j u f => ?_, fun j y f1 f2 => ?_, fun j k y z b f1 f2 f3 f4 f5 f6 => ?_, fun n c b f1 f2 => (rs2.cell n c b f1 f2).sub sub, rs2.out, ?_⟩
  · have f' : (backE s1.env s2.env own)[j]? = some (.val u) := f
    rw [backE_get] at f'
    by_cases hj : j ∈ own
    · rw [if_pos hj] at f'
      split at f'
      · rename_i hlen
        have f2 : s1.env[j]? = some (.val u) := by
          rw [List.getD_eq_getElem?_getD] at f'
          cases e : s1.env[j]? with
          | none => rw [e] at f'; cases f'
          | some z => rw [e] at f'; exact f'
        obtain ⟨v, g1, g2⟩ := rs1.slot j u f2
        exact ⟨v, g1, (g2.kp kb rs1.mut).sub sub⟩
      · cases f'
    · rw [if_neg hj] at f'
      obtain ⟨v, g1, g2⟩ := rs2.slot j u (by show (wipeE s2.env own)[j]? = _; rw [wipeE_get, if_neg hj]; exact f')
      rw [wipe_get, if_neg hj] at g1
      exact ⟨v, g1, g2.sub sub⟩
  · have f' : (backE s1.env s2.env own)[j]? = some y := f1
    rw [backE_get] at f'
    by_cases hj : j ∈ own
    · rw [if_pos hj] at f'
      split at f'
      · cases f'; rw [nown j hj] at f2; cases f2
      · cases f'
    · rw [if_neg hj] at f'
      obtain ⟨b, g1, g2, g3, g4⟩ := rs2.own j y (by show (wipeE s2.env own)[j]? = _; rw [wipeE_get, if_neg hj]; exact f') f2
      rw [wipe_get, if_neg hj] at g1
      exact ⟨b, g1, g2, g3, g4.sub sub⟩
  · have a1 : (backE s1.env s2.env own)[j]? = some y := f1
    have a2 : (backE s1.env s2.env own)[k]? = some z := f2
    rw [backE_get] at a1 a2
    by_cases hj : j ∈ own
    · rw [if_pos hj] at a1
      split at a1
      · cases a1; rw [nown j hj] at f3; cases f3
      · cases a1
    · by_cases hk : k ∈ own
      · rw [if_pos hk] at a2
        split at a2
        · cases a2; rw [nown k hk] at f4; cases f4
        · cases a2
      · rw [if_neg hj] at a1
        rw [if_neg hk] at a2
        exact rs2.inj j k y z b (by show (wipeE s2.env own)[j]? = _; rw [wipeE_get, if_neg hj]; exact a1) (by show (wipeE s2.env own)[k]? = _; rw [wipeE_get, if_neg hk]; exact a2) f3 f4 (by rw [wipe_get, if_neg hj]; exact f5) (by rw [wipe_get, if_neg hk]; exact f6)
  · show (backE s1.env s2.env own).length = _
    rw [backE_len]
    have := rs2.elen
    rw [wipe_length] at this
    have h' : (wipeE s2.env own).length = σ.length := this
    rw [wipeE_len] at h'
    exact h'
theorem tLc_of (g : GX D G X sc) {elt : IE} {tg : Tg} {src : Src} {cond : Option IE} {own : List Nat} (hs : SlotsIn tg.slots own) {Q : VK} (h : tF D G W (.lc elt tg src cond own) σ H Q) :
    tLc (tSrc D G W src) (tTg X.K tg) (tFc D G W0 cond) (tF D G W0 elt) own σ H Q := by
  obtain ⟨O, ρ, s, rs, h⟩ := h
  simp only [ev] at h
  refine ⟨O, ρ, s, rs, (Out.bind h).mono fun ts s1 h1 J ρ1 H1 l1 rs1 walk p hp => ?_⟩
  have q := h1 ρ1 H1 l1
  by_cases hno : (own.any fun i => (s1.env.getD i .none).isOwn) = true
  · rw [if_pos hno] at q; exact q.elim
  rw [if_neg hno] at q
  have nown : ∀ i ∈ own, (s1.env.getD i .none).isOwn = false := fun i hi => by
    cases e : (s1.env.getD i .none).isOwn with
    | false => rfl
    | true => exact (hno (List.any_eq_true.mpr ⟨i, hi, e⟩)).elim
  cases hl : lcTurns own tg (fun s => evC G cond s) (fun s => (ev G elt s).bind fun y s' => R.opt y.t s') ts s1 [] with
  | bad => rw [hl] at q; exact q.elim
  | err c fs s2 => rw [hl] at q; exact q.elim
  | ok ys s2 =>
  rw [hl] at q
  dsimp only [R.quiet, R.bind] at q
  have nOp : ¬ O p := fun z => by
    obtain ⟨_, o, e, _⟩ := rs1.out p z
    rw [hp] at e; cases e
  have less1 := less_wipe own s1.env σ
  have rsw := (rs1.less less1).fresh (o := .lst []) hp trivial
  have lw0 : Le ρ1 (wipeE s1.env own) (wipe σ own) H1 ρ1 (wipeE s1.env own) (wipe σ own) (upd H1 p (.lst [])) := Le.updNew Le.refl hp
  refine turns_walk g hs (ρb := ρ1) (envb := wipeE s1.env own) (σb := wipe σ own) hp walk rsw lw0 (kp_block lw0 hp fun b => less1.own) lw0.tr upd_same .nil hl fun ρ2 H2 acc rs2 l2 _ _ hD rv => ?_
  obtain ⟨a1, a2, a3⟩ := back_ok nown rs1 hp rs2 l2
  exact q (.ref p) ρ2 H2 (l1.trans a2) ⟨p, acc, rfl, l1.none hp, nOp, a1, hD, rv.sub a3⟩
end
end L2.TV

set_option maxHeartbeats 1000000
/-! List comprehensions of two clauses. -/
namespace L2.TV
open PySem PySem.Spec PyProof.Rows
section
variable {D : Wd} {G : Cfg} {X : Cx} {sc : Scope} {W : WX'} {O O' O1 : OX} {ρ ρ' ρ0 ρ1 : List Addr} {env env' env0 : List Slot} {σ σ' σ0 : St} {H H0 H' H1 : Hp} {s s' s1 : S} {v : V} {r : Rt} {K : PySem.W.Frag} {L L' : Addr → Prop}
theorem lc2Turns_ok {own own1 : List Nat} {tg tg1 : Tg} {cond cond1 : S → R Bool} {src1 : S → R (List T)} {elt : S → R T} {t : T} {ts : List T} {s s2 : S} {acc ys : List T} (h : lc2Turns own own1 tg tg1 cond src1 cond1 elt (t :: ts) s acc = .ok ys s2) :
    ∃ env k s1, bindTg tg t (wipeE s.env own) = some env ∧ cond { s with env := env } = .ok k s1 ∧
      ((k = true ∧ ∃ us s3 acc' s4, src1 s1 = .ok us s3 ∧ lcTurns own1 tg1 cond1 elt us s3 acc = .ok acc' s4 ∧ lc2Turns own own1 tg tg1 cond src1 cond1 elt ts s4 acc' = .ok ys s2) ∨ (k = false ∧ lc2Turns own own1 tg tg1 cond src1 cond1 elt ts s1 acc = .ok ys s2)) := by
  unfold lc2Turns at h
  cases e1 : bindTg tg t (wipeE s.env own) with
  | none => rw [e1] at h; cases h
  | some env =>
    rw [e1] at h
    dsimp only at h
    cases e2 : cond { s with env := env } with
    | bad => rw [e2] at h; cases h
    | err c fs s1 => rw [e2] at h; cases h
    | ok k s1 =>
      rw [e2] at h
      dsimp only [R.bind] at h
      refine ⟨env, k, s1, rfl, e2, ?_⟩
      cases k with
      | false => exact .inr ⟨rfl, by simpa using h⟩
      | true =>
        refine .inl ⟨rfl, ?_⟩
        simp only [if_true] at h
        cases e3 : src1 s1 with
        | bad => rw [e3] at h; cases h
        | err c fs s3 => rw [e3] at h; cases h
        | ok us s3 =>
          rw [e3] at h
          dsimp only at h
          cases e4 : lcTurns own1 tg1 cond1 elt us s3 acc with
          | bad => rw [e4] at h; cases h
          | err c fs s4 => rw [e4] at h; cases h
          | ok acc' s4 => rw [e4] at h; exact ⟨us, s3, acc', s4, rfl, e4, h⟩
theorem tLc2_of (g : GX D G X sc) {elt : IE} {tg tg1 : Tg} {src src1 : Src} {cond cond1 : Option IE} {own own1 : List Nat} (hs : SlotsIn tg.slots own) (hs1 : SlotsIn tg1.slots own1) (ho : SlotsIn own1 own) {Q : VK} (h : tF D G W (.lc2 elt tg src cond tg1 src1 cond1 own own1) σ H Q) :
    tLc2 (tSrc D G W src) (tTg X.K tg) (tFc D G W0 cond) (tSrc D G W0 src1) (tTg X.K tg1) (tFc D G W0 cond1) (tF D G W0 elt) own own1 σ H Q := by
  obtain ⟨O, ρ, s, rs, h⟩ := h
  simp only [ev] at h
  refine ⟨O, ρ, s, rs, (Out.bind h).mono fun ts s1 h1 J ρ1 H1 l1 rs1 walk p hp => ?_⟩
  have q := h1 ρ1 H1 l1
  by_cases hno : (own.any fun i => (s1.env.getD i .none).isOwn) = true
  · rw [if_pos hno] at q; exact q.elim
  rw [if_neg hno] at q
  have nown : ∀ i ∈ own, (s1.env.getD i .none).isOwn = false := fun i hi => by
    cases e : (s1.env.getD i .none).isOwn with
    | false => rfl
    | true => exact (hno (List.any_eq_true.mpr ⟨i, hi, e⟩)).elim
  generalize hL : lc2Turns own own1 tg tg1 (fun s => evC G cond s) (fun s => evSrc G src1 s) (fun s => evC G cond1 s) (fun s => (ev G elt s).bind fun y s' => R.opt y.t s') = LT at q
  cases hl : LT ts s1 [] with
  | bad => rw [hl] at q; exact q.elim
  | err c fs s2 => rw [hl] at q; exact q.elim
  | ok ys s2 =>
  rw [hl] at q
  dsimp only [R.quiet, R.bind] at q
  have nOp : ¬ O p := fun z => by
    obtain ⟨_, o, e, _⟩ := rs1.out p z
    rw [hp] at e; cases e
  have less1 := less_wipe own s1.env σ
  have rsw := (rs1.less less1).fresh (o := .lst []) hp trivial
  have lw0 : Le ρ1 (wipeE s1.env own) (wipe σ own) H1 ρ1 (wipeE s1.env own) (wipe σ own) (upd H1 p (.lst [])) := Le.updNew Le.refl hp
  refine ⟨fun i m H' => m = ts.length - i ∧ i ≤ ts.length ∧ ∃ ρ' s' acc accT, RS D.K D.cls (OX.add O p) ρ' { s' with env := wipeE s'.env own } (wipe σ own) H' ∧ Le ρ1 (wipeE s1.env own) (wipe σ own) H1 ρ' (wipeE s'.env own) (wipe σ own) H' ∧
    H' p = some (.lst acc) ∧ RpL D.K ρ' (Lv (OX.add O p) ρ' (wipeE s'.env own) (wipe σ own)) H' acc accT ∧ LT (ts.drop i) s' accT = .ok ys s2, ⟨ts.length, by simp, Nat.zero_le _, ρ1, s1, [], [], rsw, lw0, upd_same, .nil, by simpa using hl⟩, ?_⟩
  rintro i m H2 ⟨rfl, hi, ρ2, s3, acc, accT, rs2, l2, hD, rv, hlc⟩
  have kb : Kp ρ1 (Lv O ρ1 s1.env σ) H1 ρ2 (Lv (OX.add O p) ρ2 (wipeE s3.env own) (wipe σ own)) H2 := kp_block l2 hp fun b => less1.own
  obtain ⟨wstop, wgo⟩ := walk ρ2 _ H2 kb rs2.mut
  by_cases hlt : i < ts.length
  · refine .inr ⟨(wgo i hlt).1, ?_⟩
    obtain ⟨t, ht⟩ : ∃ t, ts[i]? = some t := ⟨ts[i], List.getElem?_eq_getElem hlt⟩
    have hdrop : ts.drop i = t :: ts.drop (i + 1) := by
      obtain ⟨h', e⟩ := List.getElem?_eq_some_iff.mp ht
      rw [← e]; exact List.drop_eq_getElem_cons h'
    rw [hdrop, ← hL] at hlc
    obtain ⟨env, k, s4, hb, hc, hk⟩ := lc2Turns_ok hlc
    refine ⟨fun H' => ∃ ρ' s' acc accT, RS D.K D.cls (OX.add O p) ρ' { s' with env := wipeE s'.env own } (wipe σ own) H' ∧ Le ρ1 (wipeE s1.env own) (wipe σ own) H1 ρ' (wipeE s'.env own) (wipe σ own) H' ∧
      H' p = some (.lst acc) ∧ RpL D.K ρ' (Lv (OX.add O p) ρ' (wipeE s'.env own) (wipe σ own)) H' acc accT ∧ LT (ts.drop (i + 1)) s' accT = .ok ys s2, fun H' nx => ⟨ts.length - (i + 1), by omega, rfl, hlt, nx⟩, fun x H3 y => ?_⟩
    obtain ⟨t', ht', sm, rx⟩ := (wgo i hlt).2 x H3 y
    rw [ht] at ht'; cases ht'
    have rs3 := rs2.same sm
    have l3 := l2.trans (Le.same sm)
    have lsm : Le ρ2 (wipeE s3.env own) (wipe σ own) H2 ρ2 (wipeE s3.env own) (wipe σ own) H3 := Le.same sm
    have rv3 := rv.le rs2 lsm
    have hD3 := sm _ _ hD
    refine turn_ok (O := OX.add O p) g hs rs3 rx hb hc fun σ2 ρ4 H4 hw2 rs5 l5 => ?_
    have rv5 := rv3.le rs3 l5
    have hD4 := rs3.keepO l5 hD3
    rcases hk with ⟨rfl, us, s5, acc', s6, he, hin, hrest⟩ | ⟨rfl, hrest⟩
    · simp only [if_true]
      refine ⟨OX.add O p, ρ4, s4, rs5, ?_⟩
      show Out D W0 _ ρ4 s4.env σ2 H4 (evSrc G src1 s4) _
      have he' : evSrc G src1 s4 = .ok us s5 := he
      rw [he']
      intro J1 ρ5 H5 l6 rs6 walk1
      have rv6 := rv5.le rs5 l6
      have hD5 := rs5.keepO l6 hD4
      have lw := less_wipe own1 s5.env σ2
      have rs7 := rs6.less lw
      refine turns_walk g hs1 (O := O) (p := p) (ρb := ρ1) (envb := wipeE s1.env own) (σb := wipe σ own) (Hb := H1) hp walk1 rs7 (l3.trans (l5.trans (l6.trans lw.le))) (lw.le.kpO (O := OX.add O p)) (fun x o e => ⟨o, e⟩) hD5 (rv6.le rs6 lw.le) hin fun ρ6 H6 acc6 r6 la _ _ hD6 rv8 => ?_
      -- the inner clause is through
      have lw6 := less_wipe own (wipeE s6.env own1) (wipe σ2 own1)
      rw [wipe_wipe ho, wipeE_wipeE ho, hw2] at lw6
      exact ⟨ρ6, s6, acc6, acc', r6.less lw6, la.trans lw6.le, hD6, rv8.le r6 lw6.le, hL ▸ hrest⟩
    · simp only [Bool.false_eq_true, if_false]
      have lw := less_wipe own s4.env σ2
      rw [hw2] at lw
      exact ⟨ρ4, s4, acc, accT, rs5.less lw, l3.trans (l5.trans lw.le), hD4, rv5.le rs5 lw.le, hL ▸ hrest⟩
  · have hi' : i = ts.length := by omega
    subst hi'
    refine .inl ⟨wstop, ?_⟩
    rw [List.drop_length, ← hL] at hlc
    unfold lc2Turns at hlc
    cases hlc
    obtain ⟨a1, a2, a3⟩ := back_ok nown rs1 hp rs2 l2
    exact q (.ref p) ρ2 H2 (l1.trans a2) ⟨p, acc, rfl, l1.none hp, nOp, a1, hD, rv.sub a3⟩
end
end L2.TV

set_option maxHeartbeats 1000000
namespace L2.TV
open PySem PySem.Spec PyProof.Rows
section
variable {D : Wd} {G : Cfg} {X : Cx} {sc : Scope} {W : WX'}
/-- the context of a comprehension's block -/
theorem GX.blk (g : GX D G X sc) {scope : Scope} {own : List (Str × Nat)} (ok : BlkOk X.N X.env.scope scope own) (s : Shared) (H : Hp) (C : Addr) (cl : List (Str × Addr)) (fp : List Addr) : GX D G (X.blk s H scope (compEnvC scope cl C X.env) fp) scope where
  hK := g.hK
  nd := g.nd
  calm := g.calm
  gu := g.gu
  un := g.un
  kind := ok.kind
  loc := fun x kd h1 h2 => lookup_relS_keep h2 h1
  fre := fun x h => by
    have key : ∀ {names : List (Str × NameKind)}, names.lookup x = some .free →
      (names.map fun (n, k) => if (k == NameKind.free && X.env.scope.kind == .function && X.env.scope.names.lookup n == some .cell) then (n, NameKind.cell) else (n, k)).lookup x = some .cell ∨
      (names.map fun (n, k) => if (k == NameKind.free && X.env.scope.kind == .function && X.env.scope.names.lookup n == some .cell) then (n, NameKind.cell) else (n, k)).lookup x = some .free := by
      intro names
      induction names with
      | nil => intro h; simp at h
      | cons p r ih =>
        obtain ⟨n, k₀⟩ := p
        intro h
        show List.lookup x ((if (k₀ == NameKind.free && X.env.scope.kind == .function && X.env.scope.names.lookup n == some .cell) = true then (n, NameKind.cell) else (n, k₀)) :: (r.map _)) = some .cell ∨
          List.lookup x ((if (k₀ == NameKind.free && X.env.scope.kind == .function && X.env.scope.names.lookup n == some .cell) = true then (n, NameKind.cell) else (n, k₀)) :: (r.map _)) = some .free
        cases hx : x == n with
        | true =>
          simp only [List.lookup_cons, hx] at h
          cases h
          by_cases hc : (NameKind.free == NameKind.free && X.env.scope.kind == .function && X.env.scope.names.lookup n == some .cell) = true
          · rw [if_pos hc]; simp [List.lookup_cons, hx]
          · rw [if_neg hc]; simp [List.lookup_cons, hx]
        | false =>
          simp only [List.lookup_cons, hx] at h
          by_cases hc : (k₀ == NameKind.free && X.env.scope.kind == .function && X.env.scope.names.lookup n == some .cell) = true
          · rw [if_pos hc]; simp only [List.lookup_cons, hx]; exact ih h
          · rw [if_neg hc]; simp only [List.lookup_cons, hx]; exact ih h
    exact key h
  fn := fun x h => by
    show (scope.names.lookup x == some NameKind.cell) = true
    rw [h]; rfl
  blt := g.blt
  sm := g.sm
  fnk := g.fnk
  cst := g.cst
  tab := g.tab
theorem blkC_of (g : GX D G X sc) {scope : Scope} {own : List (Str × Nat)} (h : blkC X.N sc scope own = true) : BlkOk X.N X.env.scope scope own := by
  have b := blkOk_by h
  refine ⟨b.kind, b.uniq, b.ix, fun y hy e => ?_, b.own⟩
  rcases b.free y hy e with k | k
  · exact .inl (g.loc _ _ k (by decide))
  · exact g.fre _ k
def foldPlain : Expr → Bool
  | .List _ _ => false
  | .Set _ _ _ => false
  | _ => true
theorem fold_of {iter : Expr} {env : Env} {x : Value} (h : foldPlain iter = true) : foldedSetIterable iter env x = pure x := by
  cases iter <;> first | rfl | cases h
theorem snd_lc (g : GX D G X sc) {elt : IE} {tg : Tg} {src : Src} {cond : Option IE} {own : List (Str × Nat)} {eelt etg eiter : Expr} {ifs : List Expr} {scope : Scope} {pos : Pos} (hi : PI X etg eiter (tSrc D G W src)) (hb : blkC X.N sc scope own = true)
    (hg : ∀ {X' : Cx}, X'.N = X.N → GX D G X' scope → PG X' etg (tTg X'.K tg)) (ht : ∀ {X' : Cx}, X'.N = X.N → GX D G X' scope → PTs X' ifs (tFc D G W0 cond)) (he : ∀ {X' : Cx}, X'.N = X.N → GX D G X' scope → PE X' eelt (tF D G W0 elt))
    (hf : foldPlain eiter = true) (hs : SlotsIn tg.slots (own.map (·.2))) : PE X (.ListComp eelt [⟨etg, eiter, ifs, 0⟩] scope pos) (tF D G W (.lc elt tg src cond (own.map (·.2)))) := by
  have ok := blkC_of g hb
  exact (pe_lc g.calm g.nd hi ok (fun s H C cl fp => hg (X' := X.blk s H scope (compEnvC scope cl C X.env) fp) rfl (g.blk ok s H C cl fp)) (fun s H C cl fp => ht (X' := X.blk s H scope (compEnvC scope cl C X.env) fp) rfl (g.blk ok s H C cl fp)) (fun s H C cl fp => he (X' := X.blk s H scope (compEnvC scope cl C X.env) fp) rfl (g.blk ok s H C cl fp)) fun x => fold_of hf).of fun σ H Q h => tLc_of g hs h
theorem snd_lc2 (g : GX D G X sc) {elt : IE} {tg tg1 : Tg} {src src1 : Src} {cond cond1 : Option IE} {own : List (Str × Nat)} {own1 : List Nat} {eelt etg eiter etg1 eiter1 : Expr} {ifs ifs1 : List Expr} {scope : Scope} {pos : Pos} (hi : PI X etg eiter (tSrc D G W src)) (hb : blkC X.N sc scope own = true)
    (hg : ∀ {X' : Cx}, X'.N = X.N → GX D G X' scope → PG X' etg (tTg X'.K tg)) (ht : ∀ {X' : Cx}, X'.N = X.N → GX D G X' scope → PTs X' ifs (tFc D G W0 cond)) (he : ∀ {X' : Cx}, X'.N = X.N → GX D G X' scope → PE X' eelt (tF D G W0 elt))
    (hi1 : ∀ {X' : Cx}, X'.N = X.N → GX D G X' scope → PI X' etg1 eiter1 (tSrc D G W0 src1)) (hg1 : ∀ {X' : Cx}, X'.N = X.N → GX D G X' scope → PG X' etg1 (tTg X'.K tg1)) (ht1 : ∀ {X' : Cx}, X'.N = X.N → GX D G X' scope → PTs X' ifs1 (tFc D G W0 cond1))
    (hf : foldPlain eiter = true) (hf1 : foldPlain eiter1 = true) (hs : SlotsIn tg.slots (own.map (·.2))) (hs1 : SlotsIn tg1.slots own1) (ho : SlotsIn own1 (own.map (·.2))) :
    PE X (.ListComp eelt [⟨etg, eiter, ifs, 0⟩, ⟨etg1, eiter1, ifs1, 0⟩] scope pos) (tF D G W (.lc2 elt tg src cond tg1 src1 cond1 (own.map (·.2)) own1)) := by
  have ok := blkC_of g hb
  have gb := fun (s : Shared) (H : Hp) (C : Addr) (cl : List (Str × Addr)) (fp : List Addr) => g.blk ok s H C cl fp
  exact (pe_lc2 g.calm g.nd hi ok ho (fun s H C cl fp => hg (X' := X.blk s H scope (compEnvC scope cl C X.env) fp) rfl (gb s H C cl fp)) (fun s H C cl fp => ht (X' := X.blk s H scope (compEnvC scope cl C X.env) fp) rfl (gb s H C cl fp)) 
    (fun s H C cl fp => hi1 (X' := X.blk s H scope (compEnvC scope cl C X.env) fp) rfl (gb s H C cl fp)) (fun s H C cl fp => hg1 (X' := X.blk s H scope (compEnvC scope cl C X.env) fp) rfl (gb s H C cl fp)) (fun s H C cl fp => ht1 (X' := X.blk s H scope (compEnvC scope cl C X.env) fp) rfl (gb s H C cl fp)) (fun s H C cl fp => he (X' := X.blk s H scope (compEnvC scope cl C X.env) fp) rfl (gb s H C cl fp)) (fun x => fold_of hf) (fun env x => fold_of hf1)).of fun σ H Q h => tLc2_of g hs hs1 ho h
end
end L2.TV

/-! enumerate over a tuple. -/
namespace L2.TV
open PySem PySem.Spec PyProof.Rows
set_option maxHeartbeats 1000000 in
theorem meets_enum1 {v : Value} {o : Obj} {Hh : Heap → Prop} (B : Begins v o Hh) :
    Meets (Builtin.«enumerate.__new__» ⟨[.type "enumerate", v], []⟩) (fun _ R s => Hh s.heap ∧
      R (.ok (.ret (.ref (s.heap.push o).objs.size))) { s with heap := (s.heap.push o).push { cls := .type "enumerate", data := .fields #[.none, .bool false, .ref s.heap.objs.size, rawInt 0, .none, .none] } }) :=
  .of_wp fun prog w A R s h => by
    obtain ⟨hp, g, d, tk, os⟩ := s; obtain ⟨h1, h⟩ := h
    have hsub := sub_enumerate
    have q1 : ∀ {A' : Around} {E : Value → Shared → Prop} {Q : Value → Shared → Prop}, Q (.ref hp.objs.size) ⟨hp.push o, g, d, tk, os⟩ → wpAny (model prog w) A' (pyIter v) Q E ⟨hp, g, d, tk, os⟩ :=
      fun q => B.iter prog w _ _ ⟨hp, g, d, tk, os⟩ _ h1 q
    wp_walk using q1
    refine wpAny_stack_any fun st => wpAny_pure ?_
    split
    · rename_i c _ _ _ _ _
      cases (c == Value.type "enumerate")
      · wp_walk using q1
        exact ⟨_, rfl, h⟩
      · wp_walk using q1
        exact ⟨_, rfl, h⟩
    · wp_walk using q1
      exact ⟨_, rfl, h⟩
/-- no more items -/
theorem wpAny_bindDone {prog : Program} {w : World} {A : Around} {E : Value → Shared → Prop} {s : Shared} {e it a : Addr} {i : Nat} {items : Array Value} {old : Value} {Q : Option Value → Shared → Prop} (he : IsEnum s.heap e it i old) (hit : s.heap.IsTupleIter it a i) (p : s.heap.IsTuple a items) (hh : A.handled = none) (hx : items.size ≤ i)
    (hQ : ∀ h', Heap.ExtBut it s.heap h' → Q none { s with heap := h' }) : wpAny (model prog w) A (pyNext (.ref e)) Q E s := by
  have hT : s.TypeIs (.ref e) "enumerate" := ⟨_, he, rfl⟩
  unfold pyNext
  refine wpAny_bind (wpAny_attempt (wpAny_callSpecial?_slot (name := Str.ofString "__next__") hT F.slot_enumerate_next
    (wpAny_call_entry F.slot_enumerate_next hT F.entry_enumerate_next ?_ (F.args_enumerate_next_1 _))))
  show wpAny _ _ (field (.ref e) 2 >>= _) _ _ _
  refine wpAny_bind (wpAny_field he rfl (x := .ref it) rfl ?_)
  refine wpAny_bind (wpAny_nextOf_tuple_end hh hit p (by simp; omega) fun h' x he' hx' => ?_)
  obtain ⟨o, ho, hc⟩ := hx'
  refine wpAny_bind (wpAny_isInstance (T := "StopIteration") (b := true) ⟨o, ho, hc⟩ isSubtype_stop ?_)
  exact wpAny_pure (hQ _ he')
/-- the tuple at a, each item in a new pair -/
def IteT (K : PySem.W.Frag) (a : Addr) : It :=
  ⟨fun i H => ∃ (xs : List V) (x : V), SqT K H a xs ∧ xs[i]? = some x, fun i H v H' => ∃ T x, v = .ref T ∧ H T = none ∧ H' = upd H T (.tup [.int (i : Nat), x]) ∧ ∀ xs, SqT K H a xs → xs[i]? = some x, fun i H => ∃ xs : List V, SqT K H a xs ∧ xs.length ≤ i⟩
theorem turn_enumT {P : Program} {w : World} {K : PySem.W.Frag} {elts : List Expr} {kk : Nat} {tpos : Pos} (a e it : Addr) :
    Turn P w K (.Tuple elts kk tpos) (IteT K a) [e, it] e (fun i h => (∃ old, IsEnum h e it ((i : Nat) : Int) old) ∧ h.IsTupleIter it a i ∧ e ≠ it) where
  mem := by simp
  obj := fun i h st b hb => by
    obtain ⟨⟨old, he⟩, ⟨o, ho, hc, hd⟩, _⟩ := st
    have e' : b = e ∨ b = it := by simpa using hb
    rcases e' with z | z
    · rw [z]; exact ⟨_, he, fun v q => nomatch q⟩
    · rw [z]; exact ⟨o, ho, fun v q => by rw [hd] at q; cases q⟩
  keep := fun i h h' st k => let ⟨⟨old, he⟩, hi, hne⟩ := st; ⟨⟨old, k e (by simp) _ he⟩, hi.at fun o q => k it (by simp) o q, hne⟩
  item := by
    intro X hP hw hK hc i pins s σ H E I hf st hg
    subst hP hw hK
    obtain ⟨⟨old, he⟩, hit, hne⟩ := st
    obtain ⟨xs, x, hq, hx⟩ := hg
    obtain ⟨its, rv, p, hz⟩ := I.tuple hq
    obtain ⟨u, hu, ru⟩ := rv.get hx
    have p' : s.heap.IsTuple a its.toArray := p
    have hel : e < s.heap.objs.size := Heap.lt_size he
    have hil : it < s.heap.objs.size := by obtain ⟨_, q, _⟩ := hit; exact Heap.lt_size q
    have nai : a ≠ it := fun z => by
      subst z
      obtain ⟨o, ho, hc', _⟩ := id p
      obtain ⟨o2, ho2, hc2, _⟩ := id hit
      rw [ho] at ho2; cases ho2
      rw [hc'] at hc2
      injection hc2 with z
      exact absurd z (by decide)
    have nae : a ≠ e := fun z => by
      subst z
      obtain ⟨o, ho, hc', _⟩ := id p
      have he' := he
      unfold IsEnum at he'
      rw [ho] at he'; cases he'
      injection hc' with z
      exact absurd z (by decide)
    have D := Draws.tuple (prog := X.prog) (w := X.w) (A := X.A.in1) (I.ok.hd hc) it a nai its.toArray
    have hlt : i < its.toArray.size := by
      have := (List.getElem?_eq_some_iff.mp hu).1
      simpa using this
    refine wpAny_pyNext_enum_itemD D he ⟨hit, p'⟩ hlt hne (by simp [hne, Ne.symm nae]) fun x' h' tk hx' ho hst hT hsz hk => ?_
    have hxu : x' = u := by
      have z : its.toArray[i]? = some u := by simpa using hu
      rw [z] at hx'; cases hx'; rfl
    subst hxu
    refine ⟨_, rfl, wpAny_letOwnedTupleGo_enum (s := { s with heap := h', toks := tk + 1 }) ho fun h'' he' sb => ?_⟩
    have hT2 : h''.get? s.heap.objs.size = some { cls := .type "tuple", data := .seq #[.int i tk, x'] } := (sb.2 _ (Nat.ne_of_gt hel)).trans hT
    have new : ObjOk X.prog X.w (upd H s.heap.objs.size (.tup [.int (i : Nat), x])) h'' s.heap.objs.size (.tup [.int (i : Nat), x]) :=
      ⟨by show 2 ≤ sizeLine; decide, [.int i tk, x'], .cons ⟨_, rfl⟩ (.cons ru .nil), ⟨_, hT2, rfl, _, rfl⟩⟩
    have I1 : Inv X pins σ (upd H s.heap.objs.size (.tup [.int (i : Nat), x])) { s with heap := h'', toks := tk + 1 } :=
      I.turnedNew (ch := [e, it]) (fun b ob hb q => (sb.2 b (fun z => hb (by simp [z]))).trans (hk b ob (fun z => hb (by simp [z])) (fun z => hb (by simp [z])) q)) hf (Nat.le_refl _) new
    refine ⟨.ref s.heap.objs.size, _, I1, rfl, ⟨_, x, rfl, I.hok.fresh (Nat.le_refl _), rfl, fun ys hy => by rw [I.tuple_inj hy hq]; exact hx⟩, ⟨⟨x', ?_⟩, hst.1.at fun o q => (sb.2 it (Ne.symm hne)).trans q, hne⟩, fun b hb => ?_⟩
    · have e1 : ((i + 1 : Nat) : Int) = (i : Int) + 1 := by omega
      rw [e1]; exact he'
    · have hb' : b < s.heap.objs.size := by
        have e' : b = e ∨ b = it := by simpa using hb
        rcases e' with z | z
        · rw [z]; exact hel
        · rw [z]; exact hil
      rw [upd_ne (Nat.ne_of_lt hb')]
      exact (hf b hb).1
  done := by
    intro X hP hw hK hc i pins s σ H E I hf st hg
    subst hP hw hK
    obtain ⟨⟨old, he⟩, hit, hne⟩ := st
    obtain ⟨xs, hq, hx⟩ := hg
    obtain ⟨its, rv, p, hz⟩ := I.tuple hq
    have p' : s.heap.IsTuple a its.toArray := p
    obtain ⟨f0, f1, f2, f3, f4, f5⟩ := hf it (by simp)
    have hl := rv.length
    refine wpAny_bindDone he hit p' (I.ok.hd hc) (by simp; omega) fun h' eb => ⟨rfl, I.turned (t' := s.toks) (fun b o hb q => eb b o hb q) f0 f1 f3 f4 f5⟩
  self := fun A i s Q E st h => let ⟨⟨_, he⟩, _⟩ := st; wpAny_pyIter_enum he h
end L2.TV

set_option maxHeartbeats 1000000
namespace L2.TV
open PySem PySem.Spec PyProof.Rows
theorem call_enum1 {prog : Program} {w : World} {A : Around} {E : Value → Shared → Prop} {s : Shared} {v : Value} {o : Obj} {Hh : Heap → Prop} {Q : Value → Shared → Prop} (B : Begins v o Hh) (h1 : Hh s.heap)
    (h : ∀ h', IsEnum h' (s.heap.objs.size + 1) s.heap.objs.size 0 .none → h'.get? s.heap.objs.size = some o → h'.objs.size = s.heap.objs.size + 2 → (∀ b o, s.heap.get? b = some o → h'.get? b = some o) → Q (.ref (s.heap.objs.size + 1)) { s with heap := h' }) :
    wpAny (model prog w) A (call (.type "enumerate") [v]) Q E s := by
  refine callType_new F.called_enumerate (by decide) (F.typeCall_enumerate_1 _) (F.newCall_enumerate_1 _) (fun obj => F.args_object_init_2 obj _) F.entry_enumerate_new (meets_enum1 B) ⟨h1, ?_⟩
  have hz : (s.heap.push o).objs.size = s.heap.objs.size + 1 := Heap.size_push ..
  show _ ∧ _
  rw [hz]
  have he : IsEnum ((s.heap.push o).push { cls := .type "enumerate", data := .fields #[.none, .bool false, .ref s.heap.objs.size, rawInt 0, .none, .none] }) (s.heap.objs.size + 1) s.heap.objs.size 0 .none := by
    have := Heap.get?_push_size (s.heap.push o) (o := { cls := .type "enumerate", data := .fields #[.none, .bool false, .ref s.heap.objs.size, rawInt 0, .none, .none] }) rfl
    rw [hz] at this; exact this
  exact ⟨⟨_, he, rfl⟩, h _ he (Heap.get?_push_of_some _ (Heap.get?_push_size _ B.free)) (by rw [Heap.size_push, hz]) fun b o x => Heap.get?_push_of_some _ (Heap.get?_push_of_some _ x)⟩
def iEnumS (K : PySem.W.Frag) (te : TE) : TI := fun σ H R => te σ H fun v H1 => ∃ a, v = .ref a ∧ ((∃ xs, SqL K H1 a xs ∧ R (Ite K a) H1) ∨ ∃ xs, SqT K H1 a xs ∧ R (IteT K a) H1)
theorem pi_enumS {X : Cx} {e : Expr} {te : TE} {p pos tpos : Pos} {elts : List Expr} {kk : Nat} (hg : Gl X "enumerate") (hm : X.mg "enumerate" = none) (ha : PE X e te) (hs : notStar e = true) :
    PI X (.Tuple elts kk tpos) (.Call (.Name "enumerate" p) [e] [] pos) (iEnumS X.K te) := by
  refine ⟨fun pins s σ H R I h => ?_⟩
  have pa : PA X [e] (tCons te tNil) := pa_cons ha pa_nil (starEach_of hs)
  refine Call_ (ld_blt I hg hm boot_enumerate (PyProof.Rows.callWith_type1 (thn (pa.run pos pins s σ H (fun vs H1 => ∃ a, vs = [.ref a] ∧ ((∃ xs, SqL X.K H1 a xs ∧ R (Ite X.K a) H1) ∨ ∃ xs, SqT X.K H1 a xs ∧ R (IteT X.K a) H1)) I ?_) fun us s1 ⟨vs, H1, I1, r1, q1⟩ => ?_) (starEach_of hs) rfl))
  · have mono : te σ H (fun v H1 => ∃ a, v = .ref a ∧ ((∃ xs, SqL X.K H1 a xs ∧ R (Ite X.K a) H1) ∨ ∃ xs, SqT X.K H1 a xs ∧ R (IteT X.K a) H1)) := h
    show te σ H fun x H1 => ∃ a, [x] = [V.ref a] ∧ _
    have eq : (fun (x : V) (H1 : Hp) => ∃ a, [x] = [V.ref a] ∧ ((∃ xs, SqL X.K H1 a xs ∧ R (Ite X.K a) H1) ∨ ∃ xs, SqT X.K H1 a xs ∧ R (IteT X.K a) H1)) = fun v H1 => ∃ a, v = .ref a ∧ ((∃ xs, SqL X.K H1 a xs ∧ R (Ite X.K a) H1) ∨ ∃ xs, SqT X.K H1 a xs ∧ R (IteT X.K a) H1) := by
      funext x H1
      simp
    rw [eq]
    exact mono
  · obtain ⟨a, ex, q⟩ := q1
    subst ex
    cases r1 with
    | cons r rr =>
      cases rr
      cases r
      have fpk : ∀ b ∈ [s1.heap.objs.size + 1, s1.heap.objs.size], FpOk X pins H1 b := fun b hb => by
        have e' : b = s1.heap.objs.size + 1 ∨ b = s1.heap.objs.size := by simpa using hb
        have hle : s1.heap.objs.size ≤ b := by
          rcases e' with z | z
          · rw [z]; exact Nat.le_add_right _ _
          · rw [z]; exact Nat.le_refl _
        exact I1.fpOk hle (I1.hok.fresh hle)
      rcases q with ⟨xs, hq, q⟩ | ⟨xs, hq, q⟩
      · obtain ⟨its, rv, p', hz⟩ := I1.list hq
        refine call_enum1 (begins_list a its.toArray) p'.isList fun h' he hit hsz hk => wpAny_pyIter_enum he ?_
        have I2 : Inv X pins σ H1 { s1 with heap := h' } := I1.kept (t' := s1.toks) hk
        exact ⟨s1.heap.objs.size + 1, [s1.heap.objs.size + 1, s1.heap.objs.size], _, _, H1, rfl, I2, turn_enum a (s1.heap.objs.size + 1) s1.heap.objs.size, ⟨⟨.none, he⟩, ⟨_, hit, rfl, rfl⟩, Nat.succ_ne_self _⟩, fpk, q⟩
      · obtain ⟨its, rv, p', hz⟩ := I1.tuple hq
        refine call_enum1 (begins_tuple a its.toArray) p' fun h' he hit hsz hk => wpAny_pyIter_enum he ?_
        have I2 : Inv X pins σ H1 { s1 with heap := h' } := I1.kept (t' := s1.toks) hk
        exact ⟨s1.heap.objs.size + 1, [s1.heap.objs.size + 1, s1.heap.objs.size], _, _, H1, rfl, I2, turn_enumT a (s1.heap.objs.size + 1) s1.heap.objs.size, ⟨⟨.none, he⟩, ⟨_, hit, rfl, rfl⟩, Nat.succ_ne_self _⟩, fpk, q⟩
end L2.TV

set_option maxHeartbeats 1000000
namespace L2.TV
open PySem PySem.Spec PyProof.Rows
section
variable {D : Wd} {G : Cfg} {X : Cx} {sc : Scope} {W : WX'} {O O' O1 : OX} {ρ ρ' ρ0 : List Addr} {σ σ0 : St} {H H0 H' H1 : Hp} {s s' s1 : S} {v : V} {K : PySem.W.Frag} {L L' : Addr → Prop}
theorem enumL_get {ts : List T} {i : Nat} {t : T} (h : ts[i]? = some t) : (enumL ts)[i]? = some (T.tup [.int (i : Nat), t]) := by
  unfold enumL
  rw [List.getElem?_map, List.getElem?_zipIdx, h]
  simp
theorem enumL_len {ts : List T} : (enumL ts).length = ts.length := by simp [enumL]
theorem pair_new {T : Addr} {x : V} {t : TV.T} {n : Int} (m : MutL L H) (h : H T = none) (r : Rp K ρ L H x t) : Same H (upd H T (.tup [.int n, x])) ∧ Rp K ρ L (upd H T (.tup [.int n, x])) (.ref T) (.tup [.int n, t]) := by
  have sm : Same H (upd H T (.tup [.int n, x])) := Same.upd_new h
  exact ⟨sm, .tup (.new upd_same) (.cons (.int n) (.cons (r.same m sm) .nil))⟩
theorem walk_enumL {a : Addr} {xs : List V} {ts : List T} (m : MutL L H) (h : H a = some (.lst xs)) (n : ¬ L a) (r : RpL K ρ L H xs ts) (inj : ∀ {H' : Hp} {ys : List V}, SqL K H' a ys → True) : WalkT K ρ L H (Ite K a) (enumL ts) := by
  intro ρ' L' H' k m'
  have q : SqL K H' a xs := SqL.of (k.kp a _ h n)
  have r' := r.kp k m
  refine ⟨⟨xs, q, by rw [enumL_len, r.len]; exact Nat.le_refl _⟩, fun i hi => ?_⟩
  rw [enumL_len] at hi
  have hi' : i < xs.length := by rw [r.len]; exact hi
  refine ⟨⟨xs, xs[i], q, List.getElem?_eq_getElem hi'⟩, fun x H2 y => ?_⟩
  obtain ⟨T, z, rfl, hT, rfl, hz⟩ := y
  obtain ⟨t, e1, e2⟩ := r'.getV (hz xs q)
  obtain ⟨sm, rp⟩ := pair_new (n := ((i : Nat) : Int)) m' hT e2
  exact ⟨_, enumL_get e1, sm, rp⟩
theorem walk_enumT {a : Addr} {xs : List V} {ts : List T} (m : MutL L H) (h : SqT K H a xs) (r : RpL K ρ L H xs ts) : WalkT K ρ L H (IteT K a) (enumL ts) := by
  intro ρ' L' H' k m'
  have q : SqT K H' a xs := SqT.kp k m h
  have r' := r.kp k m
  refine ⟨⟨xs, q, by rw [enumL_len, r.len]; exact Nat.le_refl _⟩, fun i hi => ?_⟩
  rw [enumL_len] at hi
  have hi' : i < xs.length := by rw [r.len]; exact hi
  refine ⟨⟨xs, xs[i], q, List.getElem?_eq_getElem hi'⟩, fun x H2 y => ?_⟩
  obtain ⟨T, z, rfl, hT, rfl, hz⟩ := y
  obtain ⟨t, e1, e2⟩ := r'.getV (hz xs q)
  obtain ⟨sm, rp⟩ := pair_new (n := ((i : Nat) : Int)) m' hT e2
  exact ⟨_, enumL_get e1, sm, rp⟩
theorem src_enum (g : GX D G X sc) {elts : List Expr} {kk : Nat} {tpos : Pos} {a : IE} {ea : Expr} {x : Str} {p p' : Pos} (hx : glB sc x "enumerate" = true) (ha : PE X ea (tF D G W a)) (hs : notStar ea = true) :
    PI X (.Tuple elts kk tpos) (.Call (.Name x p) [ea] [] p') (tSrc D G W (.enum a)) := by
  obtain ⟨rfl, gl, hd, hn'⟩ := g.gl hx
  refine (pi_enumS gl (g.blt "enumerate" (by decide)) ha hs).of fun σ H R ⟨O, ρ, s, rs, h⟩ => ?_
  simp only [evSrc] at h
  refine one_of rs h fun x s1 v1 O' ρ1 H1 sub rs1 l q _ q1 _ => ?_
  cases e1 : x.t with
  | none => rw [e1] at q; exact q.elim
  | some t =>
    rw [e1] at q
    have r1 := q1 t e1
    have rs1' := rs1.sub (D := D) sub
    obtain ⟨ts, e, q⟩ := Out.opt q
    rw [Option.map_eq_some_iff] at e
    obtain ⟨us, e, rfl⟩ := e
    unfold listOf at e
    split at e
    · cases e
      cases r1 with
      | lst f n rv => exact ⟨_, rfl, .inl ⟨_, SqL.of f, g.hK ▸ q _ ρ1 H1 l rs1' (walk_enumL rs1'.mut f n rv fun _ => trivial)⟩⟩
    · cases e
      cases r1 with
      | tup f rv => exact ⟨_, rfl, .inr ⟨_, g.hK ▸ f.sq, g.hK ▸ q _ ρ1 H1 l rs1' (walk_enumT rs1'.mut f.sq rv)⟩⟩
    · cases e
end
end L2.TV

set_option maxHeartbeats 1000000
/-! Calls. -/
namespace L2.TV
open PySem PySem.Spec PyProof.Rows
section
variable {D : Wd} {G : Cfg} {X : Cx} {sc : Scope} {W : WX'} {O O' O1 : OX} {ρ ρ' ρ0 ρ1 : List Addr} {env env' env0 : List Slot} {σ σ' σ0 : St} {H H0 H' H1 : Hp} {s s' s1 : S} {v : V} {r : Rt} {K : PySem.W.Frag} {L L' : Addr → Prop}
/-- outcomes in a row: what is new among them is apart; Of: what may be written in the end -/
def RtsOk (D : Wd) (ρ : List Addr) (s : S) (σ : St) (H0 H : Hp) (Of : OX) : OX → List V → List Rt → Prop
  | O, [], [] => RS D.K D.cls Of ρ s σ H ∧ Of = O
  | O, v :: vs, .v t :: xs => Rp D.K ρ (Lv Of ρ s.env σ) H v t ∧ RtsOk D ρ s σ H0 H Of O vs xs
  | O, v :: vs, .l ts :: xs => ∃ p l, v = .ref p ∧ H0 p = none ∧ ¬ O p ∧ H p = some (.lst l) ∧ RpL D.K ρ (Lv Of ρ s.env σ) H l ts ∧ RtsOk D ρ s σ H0 H Of (OX.add O p) vs xs
  | O, v :: vs, .k ts :: xs => ∃ p kvs, v = .ref p ∧ H0 p = none ∧ ¬ O p ∧ H p = some (.dK kvs) ∧ kvs.map (·.1) = ts.map (·.1) ∧ RpL D.K ρ (Lv Of ρ s.env σ) H (kvs.map (·.2)) (ts.map (·.2)) ∧ RtsOk D ρ s σ H0 H Of (OX.add O p) vs xs
  | O, v :: vs, .d ts :: xs => ∃ p kvs, v = .ref p ∧ H0 p = none ∧ ¬ O p ∧ H p = some (.dT kvs) ∧ kvs.map (·.1) = ts.map (·.1) ∧ RpL D.K ρ (Lv Of ρ s.env σ) H (kvs.map (·.2)) (ts.map (·.2)) ∧ RtsOk D ρ s σ H0 H Of (OX.add O p) vs xs
  | O, v :: vs, .b i :: xs => σ[i]? = some (some v) ∧ RtsOk D ρ s σ H0 H Of O vs xs
  | _, _, _ => False
/-- by cases of the rows -/
theorem RtsOk.rec' {Of : OX} {M : OX → List V → List Rt → Prop} (nil : ∀ O, RS D.K D.cls Of ρ s σ H → Of = O → M O [] [])
    (v : ∀ O v t vs xs, Rp D.K ρ (Lv Of ρ s.env σ) H v t → RtsOk D ρ s σ H0 H Of O vs xs → M O vs xs → M O (v :: vs) (.v t :: xs))
    (l : ∀ O p l ts vs xs, H0 p = none → ¬ O p → H p = some (.lst l) → RpL D.K ρ (Lv Of ρ s.env σ) H l ts → RtsOk D ρ s σ H0 H Of (OX.add O p) vs xs → M (OX.add O p) vs xs → M O (.ref p :: vs) (.l ts :: xs))
    (k : ∀ O p kvs ts vs xs, H0 p = none → ¬ O p → H p = some (.dK kvs) → kvs.map (·.1) = ts.map (·.1) → RpL D.K ρ (Lv Of ρ s.env σ) H (kvs.map (·.2)) (ts.map (·.2)) → RtsOk D ρ s σ H0 H Of (OX.add O p) vs xs → M (OX.add O p) vs xs → M O (.ref p :: vs) (.k ts :: xs))
    (d : ∀ O p kvs ts vs xs, H0 p = none → ¬ O p → H p = some (.dT kvs) → kvs.map (·.1) = ts.map (·.1) → RpL D.K ρ (Lv Of ρ s.env σ) H (kvs.map (·.2)) (ts.map (·.2)) → RtsOk D ρ s σ H0 H Of (OX.add O p) vs xs → M (OX.add O p) vs xs → M O (.ref p :: vs) (.d ts :: xs))
    (b : ∀ O v i vs xs, σ[i]? = some (some v) → RtsOk D ρ s σ H0 H Of O vs xs → M O vs xs → M O (v :: vs) (.b i :: xs)) :
    ∀ (xs : List Rt) (O : OX) (vs : List V), RtsOk D ρ s σ H0 H Of O vs xs → M O vs xs := by
  intro xs
  induction xs with
  | nil =>
    intro O vs h
    cases vs with
    | nil => exact nil O h.1 h.2
    | cons _ _ => exact h.elim
  | cons x xs ih =>
    intro O vs h
    cases vs with
    | nil => cases x <;> exact h.elim
    | cons w vs =>
      cases x with
      | v t => exact v _ _ _ _ _ h.1 h.2 (ih O vs h.2)
      | b i => exact b _ _ _ _ _ h.1 h.2 (ih O vs h.2)
      | l ts =>
        obtain ⟨p, l', rfl, a1, a2, a3, a4, h⟩ := h
        exact l _ _ _ _ _ _ a1 a2 a3 a4 h (ih _ vs h)
      | k ts =>
        obtain ⟨p, l', rfl, a1, a2, a3, a4, a5, h⟩ := h
        exact k _ _ _ _ _ _ a1 a2 a3 a4 a5 h (ih _ vs h)
      | d ts =>
        obtain ⟨p, l', rfl, a1, a2, a3, a4, a5, h⟩ := h
        exact d _ _ _ _ _ _ a1 a2 a3 a4 a5 h (ih _ vs h)
theorem RtsOk.rsF {Of : OX} {vs : List V} {xs : List Rt} (h : RtsOk D ρ s σ H0 H Of O vs xs) : RS D.K D.cls Of ρ s σ H :=
  RtsOk.rec' (M := fun _ _ _ => RS D.K D.cls Of ρ s σ H) (fun _ r _ => r) (fun _ _ _ _ _ _ _ r => r) (fun _ _ _ _ _ _ _ _ _ _ _ r => r) (fun _ _ _ _ _ _ _ _ _ _ _ _ r => r) (fun _ _ _ _ _ _ _ _ _ _ _ _ r => r) (fun _ _ _ _ _ _ _ r => r) _ _ _ h
theorem RtsOk.sub {Of : OX} {vs : List V} {xs : List Rt} (h : RtsOk D ρ s σ H0 H Of O vs xs) : ∀ a, O a → Of a :=
  RtsOk.rec' (M := fun O _ _ => ∀ a, O a → Of a) (fun _ _ e a z => by subst e; exact z) (fun _ _ _ _ _ _ _ r => r) (fun _ _ _ _ _ _ _ _ _ _ _ r a z => r a (.inl z)) (fun _ _ _ _ _ _ _ _ _ _ _ _ r a z => r a (.inl z)) (fun _ _ _ _ _ _ _ _ _ _ _ _ r a z => r a (.inl z)) (fun _ _ _ _ _ _ _ r => r) _ _ _ h
theorem RtsOk.rs {Of : OX} {vs : List V} {xs : List Rt} (h : RtsOk D ρ s σ H0 H Of O vs xs) : RS D.K D.cls O ρ s σ H := h.rsF.sub h.sub
theorem RtsOk.new {Of : OX} {vs : List V} {xs : List Rt} (h : RtsOk D ρ s σ H0 H Of O vs xs) : ∀ a, Of a → O a ∨ H0 a = none :=
  RtsOk.rec' (M := fun O _ _ => ∀ a, Of a → O a ∨ H0 a = none) (fun _ _ e a z => .inl (by subst e; exact z)) (fun _ _ _ _ _ _ _ r => r)
    (fun _ _ _ _ _ _ h0 _ _ _ _ r a z => (r a z).elim (fun y => y.imp id fun y => by subst y; exact h0) .inr) (fun _ _ _ _ _ _ h0 _ _ _ _ _ r a z => (r a z).elim (fun y => y.imp id fun y => by subst y; exact h0) .inr)
    (fun _ _ _ _ _ _ h0 _ _ _ _ _ r a z => (r a z).elim (fun y => y.imp id fun y => by subst y; exact h0) .inr) (fun _ _ _ _ _ _ _ r => r) _ _ _ h
theorem RtsOk.from {Of : OX} (f : ∀ p, H0 p = none → H1 p = none) {vs : List V} {xs : List Rt} (h : RtsOk D ρ s σ H0 H Of O vs xs) : RtsOk D ρ s σ H1 H Of O vs xs :=
  RtsOk.rec' (M := fun O vs xs => RtsOk D ρ s σ H1 H Of O vs xs) (fun _ r e => ⟨r, e⟩) (fun _ _ _ _ _ a _ r => ⟨a, r⟩) (fun _ p l _ _ _ a1 a2 a3 a4 _ r => ⟨p, l, rfl, f _ a1, a2, a3, a4, r⟩)
    (fun _ p l _ _ _ a1 a2 a3 a4 a5 _ r => ⟨p, l, rfl, f _ a1, a2, a3, a4, a5, r⟩) (fun _ p l _ _ _ a1 a2 a3 a4 a5 _ r => ⟨p, l, rfl, f _ a1, a2, a3, a4, a5, r⟩) (fun _ _ _ _ _ a _ r => ⟨a, r⟩) _ _ _ h
def tFl (D : Wd) (G : Cfg) (W : WX') (es : List IE) : TA := fun σ H Q => ∃ O ρ s, RS D.K D.cls O ρ s σ H ∧ Out D W O ρ s.env σ H (evL G es s) fun xs s' => ∀ vs ρ' H' Of, Le ρ s.env σ H ρ' s'.env σ H' → RtsOk D ρ' s' σ H H' Of O vs xs → Q vs H'
/-- the step of a row of outcomes -/
theorem cons_step {a : IE} {as : List IE} {Q : List V → Hp → Prop} (h : tFl D G W (a :: as) σ H Q) : tF D G W a σ H fun x H1 => tFl D G W as σ H1 fun xs H2 => Q (x :: xs) H2 := by
  obtain ⟨O, ρ, s, rs, h⟩ := h
  simp only [evL] at h
  refine ⟨O, ρ, s, rs, (Out.bind h).mono fun x s1 h1 v1 ρ1 H1 l1 ok1 => ?_⟩
  have q := h1 ρ1 H1 l1
  have keep : ∀ {p : Addr} {o : HO} {ρ2 : List Addr} {s2 : S} {H2 : Hp}, ¬ O p → RS D.K D.cls (OX.add O p) ρ1 s1 σ H1 → H1 p = some o → Le ρ1 s1.env σ H1 ρ2 s2.env σ H2 → H2 p = some o := fun {p o ρ2 s2 H2} no q e l =>
    l.kp p o e (q.out p (.inr rfl)).1 fun m => q.fresh_not no (.inr (.inr m))
  have kp : ∀ {Oa Of : OX} {ρ2 : List Addr} {s2 : S} {H2 : Hp} {vs : List V} {xs : List Rt}, Le ρ1 s1.env σ H1 ρ2 s2.env σ H2 → RtsOk D ρ2 s2 σ H1 H2 Of Oa vs xs → Kp ρ1 (Lv Oa ρ1 s1.env σ) H1 ρ2 (Lv Of ρ2 s2.env σ) H2 := fun {Oa Of ρ2 s2 H2 vs xs} l r =>
    ⟨l.pre, fun a o e n => l.kp a o e (fun m => n (.inl m)) fun m => n (.inr (.inr m)), fun a z => by
      rcases z with z | z | z
      · exact (l.fr a z).imp .inl id
      · exact (r.new a z).imp (fun y => .inr (.inl y)) id
      · exact (l.ow a z).imp (fun y => .inr (.inr y)) id⟩
  cases x with
  | v t => exact ⟨O, ρ1, s1, ok1.1, (Out.bind q).mono fun xs s2 h2 vs ρ2 H2 Of l2 rok => h2 ρ2 H2 l2 (v1 :: vs) ρ2 H2 Of (l1.trans l2) ⟨ok1.2.kp (kp l2 rok) ok1.1.mut, rok.from fun p e => l1.none e⟩⟩
  | b i => exact ⟨O, ρ1, s1, ok1.1, (Out.bind q).mono fun xs s2 h2 vs ρ2 H2 Of l2 rok => h2 ρ2 H2 l2 (v1 :: vs) ρ2 H2 Of (l1.trans l2) ⟨ok1.2, rok.from fun p e => l1.none e⟩⟩
  | l ts =>
    obtain ⟨p, l, rfl, n0, no, rs1, e1, r1⟩ := ok1
    exact ⟨OX.add O p, ρ1, s1, rs1, ((Out.bind q).wider fun a z => .inl z).mono fun xs s2 h2 vs ρ2 H2 Of l2 rok => h2 ρ2 H2 l2 (.ref p :: vs) ρ2 H2 Of (l1.trans l2) ⟨p, l, rfl, n0, no, keep no rs1 e1 l2, r1.kp (kp l2 rok) rs1.mut, rok.from fun p e => l1.none e⟩⟩
  | k ts =>
    obtain ⟨p, l, rfl, n0, no, rs1, e1, i1, r1⟩ := ok1
    exact ⟨OX.add O p, ρ1, s1, rs1, ((Out.bind q).wider fun a z => .inl z).mono fun xs s2 h2 vs ρ2 H2 Of l2 rok => h2 ρ2 H2 l2 (.ref p :: vs) ρ2 H2 Of (l1.trans l2) ⟨p, l, rfl, n0, no, keep no rs1 e1 l2, i1, r1.kp (kp l2 rok) rs1.mut, rok.from fun p e => l1.none e⟩⟩
  | d ts =>
    obtain ⟨p, l, rfl, n0, no, rs1, e1, i1, r1⟩ := ok1
    exact ⟨OX.add O p, ρ1, s1, rs1, ((Out.bind q).wider fun a z => .inl z).mono fun xs s2 h2 vs ρ2 H2 Of l2 rok => h2 ρ2 H2 l2 (.ref p :: vs) ρ2 H2 Of (l1.trans l2) ⟨p, l, rfl, n0, no, keep no rs1 e1 l2, i1, r1.kp (kp l2 rok) rs1.mut, rok.from fun p e => l1.none e⟩⟩

/-! ### into a callee, and back -/
mutual
theorem Rp.flat : ∀ {v : V} {t : T}, t.flat = true → Rp K ρ L H v t → Rp K ρ L' H v t
  | _, _, _, .non => .non
  | _, _, _, .bl b => .bl b
  | _, _, _, .int i => .int i
  | _, _, _, .str x => .str x
  | _, _, h, .tup q r => .tup q (RpL.flat (by simpa [T.flat] using h) r)
  | _, _, h, .lst _ _ _ => by simp [T.flat] at h
  | _, _, h, .dk _ _ _ _ => by simp [T.flat] at h
  | _, _, h, .dt _ _ _ _ => by simp [T.flat] at h
  | _, _, _, .scr q => .scr q
  | _, _, _, .ref q => .ref q
theorem RpL.flat : ∀ {vs : List V} {ts : List T}, T.flats ts = true → RpL K ρ L H vs ts → RpL K ρ L' H vs ts
  | _, _, _, .nil => .nil
  | _, _, h, .cons r q => by
    simp only [T.flats, Bool.and_eq_true] at h
    exact .cons (Rp.flat h.1 r) (RpL.flat h.2 q)
end
theorem CellOk.flat {cls : Str → Option Addr} {a : Addr} {c : Cell} (h : c.flat = true) (q : CellOk K cls ρ L H a c) : CellOk K cls ρ L' H a c := by
  cases c with
  | lst l => obtain ⟨xs, q, r⟩ := q; exact ⟨xs, q, r.flat h⟩
  | ins c fs => obtain ⟨C, dx, gs, q0, q, q1, i, r⟩ := q; exact ⟨C, dx, gs, q0, q, q1, i, r.flat h⟩
theorem Le.outer (l : Le ρ [] [] H ρ' [] [] H') : Le ρ env σ H ρ' env σ H' := ⟨l.pre, l.fr, fun a o => .inl o, fun a o e n _ => l.kp a o e n (fun ⟨i, x, e, _⟩ => by simp at e), l.tr⟩
theorem no_own {a : Addr} : ¬ OwnA [] [] a := fun ⟨i, x, e, _⟩ => by simp at e
/-- the callee's view -/
theorem RS.enter {O2 : OX} (rs : RS D.K D.cls O ρ s σ H) (hX : ∀ a, O2 a → O a ∨ OwnA s.env σ a) : RS D.K D.cls O2 ρ ⟨[], s.sto⟩ [] H where
  nd := rs.nd
  len := rs.len
  slot := fun i t e => by simp at e
  own := fun i x e _ => by simp at e
  inj := fun i j x y a e _ _ _ _ _ => by simp at e
  cell := fun n c a e1 e2 => (rs.cell n c a e1 e2).sub fun b l => by
    rcases l with l | l | l
    · exact .inl l
    · exact .inr (hX b l)
    · exact (no_own l).elim
  out := fun a h => by
    rcases hX a h with z | ⟨i, x, e1, e2, e3⟩
    · exact rs.out a z
    · obtain ⟨b, q1, q2, q3, _⟩ := rs.own i x e1 e2
      rw [e3] at q1; cases q1
      obtain ⟨o, e, m⟩ := rs.mut a (.inr (.inr ⟨i, x, e1, e2, e3⟩))
      exact ⟨q3, o, e, m⟩
  elen := rfl
theorem RS.leave {O2 : OX} {sto : List Cell} (rs : RS D.K D.cls O ρ s σ H) (hO : ∀ a, O a → O2 a) (rs' : RS D.K D.cls O2 ρ' ⟨[], sto⟩ [] H') (l : Le ρ [] [] H ρ' [] [] H')
    (hf : sto.all Cell.flat = true ∨ ∀ a, OwnA s.env σ a → O2 a) : RS D.K D.cls O ρ' { s with sto := sto } σ H' := by
  have l' : Le ρ s.env σ H ρ' s.env σ H' := l.outer
  have kpo : ∀ a o, H a = some o → a ∉ ρ → H' a = some o := fun a o e n => l.kp a o e n no_own
  refine ⟨rs'.nd, rs'.len, fun i t e => ?_, fun i x e1 e2 => ?_, rs.inj, fun n c a e1 e2 => ?_, fun a h => rs'.out a (hO a h), rs.elen⟩
  · obtain ⟨v, q1, q2⟩ := rs.slot i t e
    exact ⟨v, q1, q2.le rs l'⟩
  · obtain ⟨a, q1, q2, q3, q4⟩ := rs.own i x e1 e2
    obtain ⟨o, e, _⟩ := rs.mut a (.inr (.inr ⟨i, x, e1, e2, q1⟩))
    refine ⟨a, q1, q2, fun m => (l.fr a m).elim q3 fun z => (by rw [e] at z; cases z), ?_⟩
    exact OwnOk.kp l'.kpO rs.mut (fun o e => kpo a o e q3) q4
  · have q := rs'.cell n c a e1 e2
    rcases hf with hf | hf
    · exact q.flat (List.all_eq_true.mp hf c (List.mem_of_getElem? e1))
    · refine q.sub fun b z => ?_
      rcases z with z | z | z
      · exact .inl z
      · exact .inr (.inl (hO b z))
      · exact .inr (.inl (hf b z))
theorem Rp.leave {O2 : OX} {t : T} (hO : ∀ a, O a → O2 a) (hf : t.flat = true ∨ ∀ a, OwnA env σ a → O2 a) (r : Rp K ρ' (Lv O2 ρ' [] []) H' v t) : Rp K ρ' (Lv O ρ' env σ) H' v t := by
  rcases hf with hf | hf
  · exact r.flat hf
  · refine r.sub fun b z => ?_
    rcases z with z | z | z
    · exact .inl z
    · exact .inr (.inl (hO b z))
    · exact .inr (.inl (hf b z))
theorem RpL.leave {O2 : OX} {vs : List V} {ts : List T} (hO : ∀ a, O a → O2 a) (hf : T.flats ts = true ∨ ∀ a, OwnA env σ a → O2 a) (r : RpL K ρ' (Lv O2 ρ' [] []) H' vs ts) : RpL K ρ' (Lv O ρ' env σ) H' vs ts := by
  rcases hf with hf | hf
  · exact r.flat hf
  · refine r.sub fun b z => ?_
    rcases z with z | z | z
    · exact .inl z
    · exact .inr (.inl (hO b z))
    · exact .inr (.inl (hf b z))
/-- what the callee may write: what those around may, and the own things that are not lent -/
def lendO (O : OX) (env : List Slot) (σ : St) (xs : List Rt) : OX := fun a => O a ∨ (OwnA env σ a ∧ ∀ i, Rt.b i ∈ xs → σ[i]? ≠ some (some (.ref a)))
theorem args_ok {xs0 : List Rt} {O0 Of : OX} {vs : List V} {xs : List Rt} (h : RtsOk D ρ s σ H0 H Of O vs xs) : ∀ (ts : List T), (∀ a, O0 a → O a) → (∀ x ∈ xs, x ∈ xs0) → resL s xs = some ts → RpL D.K ρ (Lv (lendO O0 s.env σ xs0) ρ [] []) H vs ts := by
  have rs := h.rsF
  have sub : (∀ a, O0 a → Of a) → ∀ a, Lv (lendO O0 s.env σ xs0) ρ [] [] a → Lv Of ρ s.env σ a := fun hd a l => by
    rcases l with l | (l | l) | l
    · exact .inl l
    · exact .inr (.inl (hd a l))
    · exact .inr (.inr l.1)
    · exact (no_own l).elim
  have fresh : ∀ {p : Addr}, ¬ O0 p → Of p → ¬ Lv (lendO O0 s.env σ xs0) ρ [] [] p := fun {p} no q l => by
    rcases l with l | (l | l) | l
    · exact (rs.out p q).1 l
    · exact no l
    · obtain ⟨i, y, f1, f2, f3⟩ := l.1
      obtain ⟨a, g1, g2, _⟩ := rs.own i y f1 f2
      rw [f3] at g1; cases g1
      exact g2 q
    · exact no_own l
  have key : ∀ {x : Rt} {xs : List Rt} {ts : List T}, resL s (x :: xs) = some ts → ∃ t us, x.res s = some t ∧ resL s xs = some us ∧ ts = t :: us := fun {x xs ts} e => by
    simp only [resL] at e
    cases e1 : x.res s with
    | none => rw [e1] at e; cases e
    | some t => cases e2 : resL s xs with
      | none => rw [e1, e2] at e; cases e
      | some us => rw [e1, e2] at e; cases e; exact ⟨t, us, rfl, rfl, rfl⟩
  refine RtsOk.rec' (M := fun O vs xs => ∀ (ts : List T), (∀ a, O0 a → O a) → (∀ x ∈ xs, x ∈ xs0) → resL s xs = some ts → RpL D.K ρ (Lv (lendO O0 s.env σ xs0) ρ [] []) H vs ts) ?_ ?_ ?_ ?_ ?_ ?_ _ _ _ h
  · intro O _ _ ts _ _ e
    simp only [resL, Option.some.injEq] at e
    subst e
    exact .nil
  · intro O v t vs xs r1 r2 ih ts hO hx e
    obtain ⟨t', us, e1, e2, rfl⟩ := key e
    cases e1
    exact .cons (r1.sub (sub fun a z => r2.sub a (hO a z))) (ih us hO (fun y hy => hx y (List.mem_cons_of_mem _ hy)) e2)
  · intro O p l l' vs xs h0 no e4 r4 r2 ih ts hO hx e
    obtain ⟨t', us, e1, e2, rfl⟩ := key e
    cases e1
    exact .cons (.lst e4 (fresh (fun z => no (hO p z)) (r2.sub p (.inr rfl))) (r4.sub (sub fun a z => r2.sub a (.inl (hO a z))))) (ih us (fun a z => .inl (hO a z)) (fun y hy => hx y (List.mem_cons_of_mem _ hy)) e2)
  · intro O p l l' vs xs h0 no e4 i4 r4 r2 ih ts hO hx e
    obtain ⟨t', us, e1, e2, rfl⟩ := key e
    cases e1
    exact .cons (.dk (.inl e4) (fresh (fun z => no (hO p z)) (r2.sub p (.inr rfl))) i4 (r4.sub (sub fun a z => r2.sub a (.inl (hO a z))))) (ih us (fun a z => .inl (hO a z)) (fun y hy => hx y (List.mem_cons_of_mem _ hy)) e2)
  · intro O p l l' vs xs h0 no e4 i4 r4 r2 ih ts hO hx e
    obtain ⟨t', us, e1, e2, rfl⟩ := key e
    cases e1
    exact .cons (.dt e4 (fresh (fun z => no (hO p z)) (r2.sub p (.inr rfl))) i4 (r4.sub (sub fun a z => r2.sub a (.inl (hO a z))))) (ih us (fun a z => .inl (hO a z)) (fun y hy => hx y (List.mem_cons_of_mem _ hy)) e2)
  · intro O v i vs xs hv r2 ih ts hO hx e
    obtain ⟨t', us, e1, e2, rfl⟩ := key e
    refine .cons ?_ (ih us hO (fun y hy => hx y (List.mem_cons_of_mem _ hy)) e2)
    have hOf : ∀ a, O0 a → Of a := fun a z => r2.sub a (hO a z)
    have nl : ∀ {a : Addr}, σ[i]? = some (some (.ref a)) → ¬ Of a → a ∉ ρ → ¬ Lv (lendO O0 s.env σ xs0) ρ [] [] a := fun {a} g1 g2 g3 l => by
      rcases l with l | (l | l) | l
      · exact g3 l
      · exact g2 (hOf a l)
      · exact l.2 i (hx _ List.mem_cons_self) g1
      · exact no_own l
    simp only [Rt.res] at e1
    cases h1 : s.env[i]? with
    | none => rw [h1] at e1; cases e1
    | some y =>
      rw [h1] at e1
      cases y with
      | none => cases e1
      | val u =>
        cases e1
        obtain ⟨v', g1, g2⟩ := rs.slot i _ h1
        rw [hv] at g1; cases g1
        exact g2.sub (sub hOf)
      | own l =>
        cases e1
        obtain ⟨a, g1, g2, g3, xs', g4, g5⟩ := rs.own i _ h1 rfl
        rw [hv] at g1; cases g1
        exact .lst g4 (nl hv g2 g3) (g5.sub (sub hOf))
      | ownK l =>
        cases e1
        obtain ⟨a, g1, g2, g3, xs', g4, i4, g5⟩ := rs.own i _ h1 rfl
        rw [hv] at g1; cases g1
        exact .dk (.inl g4) (nl hv g2 g3) i4 (g5.sub (sub hOf))
      | ownT l =>
        cases e1
        obtain ⟨a, g1, g2, g3, xs', g4, i4, g5⟩ := rs.own i _ h1 rfl
        rw [hv] at g1; cases g1
        exact .dt g4 (nl hv g2 g3) i4 (g5.sub (sub hOf))
end
end L2.TV

set_option maxHeartbeats 1000000
/-! Calls of the text's own defs. -/
namespace L2.TV
open PySem PySem.Spec PyProof.Rows
section
variable {D : Wd} {G : Cfg} {X : Cx} {sc : Scope} {W : WX'} {O O' O1 : OX} {ρ ρ' ρ0 ρ1 : List Addr} {env env' env0 : List Slot} {σ σ' σ0 : St} {H H0 H' H1 : Hp} {s s' s1 : S} {v : V} {r : Rt} {K : PySem.W.Frag} {L L' : Addr → Prop} {pins : List (Addr × Obj)}
theorem vals_pickO {is : Option (List Nat)} {xs : List V} {us : List Value} (r : Vals xs us) : Vals (pickO is xs) (pickO is us) := by
  cases is with
  | none => exact r
  | some is => exact Vals.pick r
theorem rpl_pickO {is : Option (List Nat)} {xs : List V} {ts : List T} (r : RpL K ρ L H xs ts) : RpL K ρ L H (pickO is xs) (pickO is ts) := by
  cases is with
  | none => exact r
  | some is => exact RpL.pick r
theorem lent_all {xs : List Rt} (h : xs.any Rt.lent = false) (a : Addr) (o : OwnA env σ a) : lendO O env σ xs a := .inr ⟨o, fun i m => by
  have := List.any_eq_false.mp h _ m
  simp [Rt.lent] at this⟩
theorem run_call (g : GX D G X sc) (tk : Takes X W) {sh : Shared} (I : Inv X pins σ H sh) {f : String} {is : Option (List Nat)} {xs : List Rt} {vs : List V} {us : List Value} {kw : List (Str × Value)} {pos : List Value} {Q : VK} {Of : OX} (rv : Vals vs us) (rok : RtsOk D ρ s σ H0 H Of O vs xs)
    (o : Out D W O ρ s.env σ H (callR G f is xs s) fun r s' => ∀ v ρ' H', Le ρ s.env σ H ρ' s'.env σ H' → RtOk D O ρ' s' σ H0 H' v r → Q v H')
    (hb : ∀ ps fd, G.params f = some ps → Plain fd ps → (pickO is us).length = ps.length → BindsTo sh fd ⟨pos, kw⟩ (ps.zip (pickO is us))) {u : Value} (hm : X.mg (Str.ofString f) = some u) :
    wpAny (model X.prog X.w) X.A (call u pos kw) (EP X pins σ Q) X.xe sh := by
  unfold callR at o
  cases e1 : resL s xs with
  | none => rw [e1] at o; exact o.elim
  | some ts =>
  cases e2 : G.params f with
  | none => rw [e1, e2] at o; exact o.elim
  | some ps =>
  rw [e1, e2] at o
  dsimp only at o
  by_cases hl : (pickO is ts).length = ps.length
  case neg => rw [if_neg hl] at o; exact o.elim
  rw [if_pos hl] at o
  obtain ⟨k, a, fd, F, hr, hma, hk, pl⟩ := g.fnk f ps e2
  rw [hma] at hm; cases hm
  have rs := rok.rs
  have ra := rpl_pickO (is := is) (args_ok (xs0 := xs) (O0 := O) rok ts (fun _ z => z) (fun _ z => z) e1)
  have rp := vals_pickO (is := is) rv
  have hlv : (pickO is vs).length = ps.length := by rw [ra.len]; exact hl
  have rs2 : RS D.K D.cls (lendO O s.env σ xs) ρ ⟨[], s.sto⟩ [] H := rs.enter fun a z => z.imp id (·.1)
  have hO : ∀ a, O a → lendO O s.env σ xs a := fun a z => .inl z
  have sp : spF D (G.call f) ps.length (pickO is vs) H Q (fun cv d H' => W cv d σ H') := by
    refine ⟨lendO O s.env σ xs, ρ, s.sto, pickO is ts, hlv, rs2, ra, ?_⟩
    cases e3 : G.call f (pickO is ts) s.sto with
    | bad => rw [e3] at o; exact o.elim
    | ok t sto =>
      rw [e3] at o
      unfold backR at o
      dsimp only at o ⊢
      intro v ρ' H' l rs' rt
      split at o
      · exact o.elim
      · rename_i hc
        have hf : (sto.all Cell.flat = true ∧ t.flat = true) ∨ ∀ a, OwnA s.env σ a → lendO O s.env σ xs a := by
          cases hle : xs.any Rt.lent with
          | false => exact .inr (lent_all hle)
          | true =>
            rw [hle] at hc
            simp only [Bool.true_and, Bool.not_eq_true', Bool.not_eq_false, Bool.and_eq_true] at hc
            exact .inl ⟨hc.2, hc.1⟩
        exact o v ρ' H' l.outer ⟨rs.leave hO rs' l (hf.imp (·.1) id), rt.leave hO (hf.imp (·.2) id)⟩
    | err c fs sto =>
      rw [e3] at o
      unfold backR at o
      dsimp only at o ⊢
      intro ρ' H' cv d l x
      split at o
      · exact o.elim
      · rename_i hc
        have hf : (sto.all Cell.flat = true ∧ T.flats (fs.map (·.2)) = true) ∨ ∀ a, OwnA s.env σ a → lendO O s.env σ xs a := by
          cases hle : xs.any Rt.lent with
          | false => exact .inr (lent_all hle)
          | true =>
            rw [hle] at hc
            simp only [Bool.true_and, Bool.not_eq_true', Bool.not_eq_false, Bool.and_eq_true] at hc
            exact .inl ⟨hc.2, hc.1⟩
        obtain ⟨rs', C, f1, f2, f3⟩ := x
        exact o ρ' H' cv d l.outer ⟨rs.leave hO rs' l (hf.imp (·.1) id), C, f1, f2, f3.imp id fun ⟨x, gs, a1, a2, a3, a4⟩ => ⟨x, gs, a1, a2, a3, a4.leave hO (hf.imp (·.2) id)⟩⟩
  refine wpAny_call (codeAny_mono (F.go X.A X.stack sh H ⟨pos, kw⟩ (pickO is us) (pickO is vs) Q (fun cv d H' => W cv d σ H') hr g.gu I.env0 (hb ps fd e2 pl (by rw [← rp.length]; exact hlv)) rp sp) fun r s' hq => ?_)
  cases r with
  | error e => exact tk e s' (XE.of_call I (fun _ _ _ h => h) hq)
  | ok fl =>
    cases fl with
    | ret u => exact I.after hq
    | next => exact False.elim hq
    | brk => exact False.elim hq
    | cont => exact False.elim hq
/-- by place -/
theorem binds_pos {sh : Shared} {fd : FuncData} {ps : List Str} {us : List Value} (pl : Plain fd ps) (nd : ps.Nodup) (h : us.length = ps.length) : BindsTo sh fd ⟨us, []⟩ (ps.zip us) := by
  have hk : kwOk ps us.length [] = true := by
    simp only [kwOk, Bool.and_eq_true, decide_eq_true_eq, List.all_eq_true, List.append_nil]
    rw [h, List.take_length]
    refine ⟨⟨⟨nd, Nat.le_refl _⟩, fun x hx => by simp at hx⟩, fun n hn => by simpa using hn⟩
  have q := pl.to (us := us) (ws := []) (ks := []) hk rfl
  have e : kwArgs ps [] us [] = us := by
    unfold kwArgs
    rw [List.zip_nil_left, List.append_nil]
    have : ∀ (ps : List Str) (us : List Value), ps.Nodup → us.length = ps.length → (ps.filterMap fun n => (ps.zip us).lookup n) = us := by
      intro ps us nd h
      apply List.ext_getElem?
      intro i
      have hs : ∀ p ∈ ps, p ∈ (ps.zip us).map (·.1) := fun p hp => by rw [zip_keys ps us (Nat.le_of_eq h), h, List.take_length]; exact hp
      have key : ∀ (l : List Str), (∀ p ∈ l, p ∈ ps) → (l.filterMap fun n => (ps.zip us).lookup n)[i]? = (l[i]?).bind fun n => (ps.zip us).lookup n := by
        intro l
        induction l generalizing i with
        | nil => intro _; simp
        | cons a l ih =>
          intro hl
          obtain ⟨v, e⟩ := lookup_of_key (hs a (hl a List.mem_cons_self))
          rw [List.filterMap_cons, e]
          cases i with
          | zero => simp [e]
          | succ i => simpa using ih i fun p hp => hl p (List.mem_cons_of_mem _ hp)
      rw [key ps fun p hp => hp]
      by_cases hi : i < ps.length
      · rw [List.getElem?_eq_getElem hi]
        show (ps.zip us).lookup ps[i] = us[i]?
        rw [lookup_idx, zip_keys ps us (Nat.le_of_eq h), h, List.take_length]
        have e2 : ((ps.zip us).map (·.2)) = us := by rw [List.map_snd_zip]; exact Nat.le_of_eq h
        rw [e2, nd.idxOf_getElem]
      · rw [List.getElem?_eq_none (by omega), List.getElem?_eq_none (by omega)]
        rfl
    exact this ps us nd h
  rw [e] at q
  exact .of_eq q
end
end L2.TV

set_option maxHeartbeats 1000000
namespace L2.TV
open PySem PySem.Spec PyProof.Rows
section
variable {D : Wd} {G : Cfg} {X : Cx} {sc : Scope} {W : WX'} {O O' O1 : OX} {ρ ρ' ρ0 ρ1 : List Addr} {σ σ' σ0 : St} {H H0 H' H1 : Hp} {s s' s1 : S}
theorem starPl_of {es : List Expr} {env : Env} {pos : Pos} (h : es.all notStar = true) : (backTo pos (starEach es env)).any (·.1) = false := by
  induction es with
  | nil => rfl
  | cons e es ih =>
    rw [List.all_cons, Bool.and_eq_true] at h
    rw [starEach_of h.1]
    have := ih h.2
    simpa [backTo] using this
theorem Out.opc {α : Type} {env : List Slot} {σ : St} {H : Hp} {r : R α} {P : α → S → Prop} (h : Out D W O ρ env σ H r P) (hb : ∀ a s, r = .ok a s → False) (he : ∀ c fs s, r = .err c fs s → False) : False := by
  cases r with
  | ok a s => exact hb a s rfl
  | err c fs s => exact he c fs s rfl
  | bad => exact h
/-- the name of a def that may be called -/
def callN_ok (pm : String → Option (List Str)) (sc : Scope) (x : Str) (f : String) : Bool := glB sc x f && (match pm f with | some ps => decide ps.Nodup | none => false)
theorem callN_of (g : GX D G X sc) {x : Str} {f : String} (h : callN_ok G.params sc x f = true) : ∃ ps u, G.params f = some ps ∧ ps.Nodup ∧ x = Str.ofString f ∧ Gl X x ∧ (x == ("__debug__" : Str)) = false ∧ X.mg x = some u ∧ PySem.W.keepIn X.K u = true := by
  unfold callN_ok at h
  rw [Bool.and_eq_true] at h
  obtain ⟨rfl, gl, hd, _⟩ := g.gl h.1
  cases e : G.params f with
  | none => rw [e] at h; cases h.2
  | some ps =>
    rw [e] at h
    obtain ⟨k, a, fd, _, _, hma, hk, _⟩ := g.fnk f ps e
    exact ⟨ps, _, rfl, of_decide_eq_true h.2, rfl, gl, hd, hma, hk⟩
theorem snd_call (g : GX D G X sc) (tk : Takes X W) {f : String} {as : List IE} {e : Expr} {es : List Expr} {x : Str} {p pos : Pos} (hx : callN_ok G.params sc x f = true) (ha : PA X (e :: es) (tFl D G W as)) (hs : (e :: es).all notStar = true) :
    PE X (.Call (.Name x p) (e :: es) [] pos) (tF D G W (.call f as)) := by
  obtain ⟨ps, u, hp, nd, rfl, hg, hdb, hm, hk⟩ := callN_of g hx
  rw [List.all_cons, Bool.and_eq_true] at hs
  refine ⟨fun pins s σ H Q I ⟨O, ρ, st, rs, h⟩ => ?_⟩
  simp only [ev] at h
  refine wpAny_Call_Name_kw (ld_glob I hg hm ?_ hdb)
  refine PySem.W.callWith_K (h₀ := X.base) I.ok.mod.kin hk (thn (ha.run pos pins s σ H (fun vs H1 => ∃ ρ1 s1 xs Of, RtsOk D ρ1 s1 σ H H1 Of O vs xs ∧ Out D W O ρ1 s1.env σ H1 (callR G f none xs s1) fun r s' => ∀ v ρ' H', Le ρ1 s1.env σ H1 ρ' s'.env σ H' → RtOk D O ρ' s' σ H H' v r → Q v H') I ?_) fun us s1 ⟨vs, H1, I1, r, ρ1, st1, xs, Of, rok, q⟩ => ⟨I1.kIn, ?_⟩) (starEach_of hs.1) (starPl_of hs.2)
  · refine ⟨O, ρ, st, rs, (Out.bind h).mono fun xs s2 h2 vs ρ2 H2 Of l2 rok => ⟨ρ2, s2, xs, Of, rok, (h2 ρ2 H2 l2).mono fun r s' f v ρ' H' l' ok => f v ρ' H' (l2.trans l') ok⟩⟩
  · exact run_call g tk I1 (us := us) (is := none) r rok q (fun ps' fd e pl hl => by rw [hp] at e; cases e; exact binds_pos pl nd hl) hm
theorem snd_call0 (g : GX D G X sc) (tk : Takes X W) {f : String} {x : Str} {p pos : Pos} (hx : callN_ok G.params sc x f = true) : PE X (.Call (.Name x p) [] [] pos) (tF D G W (.call f [])) := by
  obtain ⟨ps, u, hp, nd, rfl, hg, hdb, hm, hk⟩ := callN_of g hx
  refine ⟨fun pins s σ H Q I ⟨O, ρ, st, rs, h⟩ => ?_⟩
  simp only [ev, evL] at h
  refine wpAny_Call_Name_kw (ld_glob I hg hm ?_ hdb)
  refine PySem.W.callWith_K0 I.kIn hk ?_
  exact run_call g tk I (us := []) (vs := []) (xs := []) (is := none) (kw := []) (pos := []) (H0 := H) (ρ := ρ) (O := O) (Of := O) (s := st) .nil ⟨rs, rfl⟩ h (fun ps' fd e pl hl => by rw [hp] at e; cases e; exact binds_pos pl nd hl) hm

/-! ### keywords -/
def kwNames : List Keyword → Option (List Str)
  | [] => some []
  | k :: ks => match k.arg, kwNames ks with
    | some n, some ns => some (n :: ns)
    | _, _ => none
theorem _root_.L2.PK.of {e : List Keyword} {t t' : TA} (h : PK X e t) (f : ∀ σ H Q, t' σ H Q → t σ H Q) : PK X e t' := ⟨fun pos pins s σ H Q I w => h.run pos pins s σ H Q I (f σ H Q w)⟩
/-- outcomes in a row, one by one -/
def nestT (D : Wd) (G : Cfg) (W : WX') : List IE → TA
  | [] => tNil
  | a :: as => tCons (tF D G W a) (nestT D G W as)
theorem nest_app : ∀ {as bs : List IE} {σ : St} {H : Hp} {Q : List V → Hp → Prop}, tFl D G W (as ++ bs) σ H Q → nestT D G W as σ H fun vs H1 => tFl D G W bs σ H1 fun ws H2 => Q (vs ++ ws) H2
  | [], bs, σ, H, Q, h => h
  | a :: as, bs, σ, H, Q, h => by
    obtain ⟨O, ρ, s, rs, o⟩ := cons_step h
    exact ⟨O, ρ, s, rs, o.mono fun r s' f v ρ' H' l ok => nest_app (f v ρ' H' l ok)⟩
theorem nest_all {as : List IE} {σ : St} {H : Hp} {Q : List V → Hp → Prop} (h : tFl D G W as σ H Q) : nestT D G W as σ H Q := by
  have key : ∀ {as : List IE} {σ : St} {H : Hp} {Q : List V → Hp → Prop}, tFl D G W as σ H Q → nestT D G W as σ H Q := by
    intro as
    induction as with
    | nil =>
      intro σ H Q ⟨O, ρ, s, rs, o⟩
      simp only [evL] at o
      exact o [] ρ H O Le.refl ⟨rs, rfl⟩
    | cons a as ih =>
      intro σ H Q h
      obtain ⟨O, ρ, s, rs, o⟩ := cons_step h
      exact ⟨O, ρ, s, rs, o.mono fun r s' f v ρ' H' l ok => ih (f v ρ' H' l ok)⟩
  exact key h
theorem snd_nilN : PA X [] (nestT D G W []) := pa_nil
theorem snd_consN {a : IE} {as : List IE} {ea : Expr} {es : List Expr} (ha : PE X ea (tF D G W a)) (hs : PA X es (nestT D G W as)) (hn : notStar ea = true) : PA X (ea :: es) (nestT D G W (a :: as)) := pa_cons ha hs (starEach_of hn)
theorem PA.ofN {as : List IE} {es : List Expr} (h : PA X es (nestT D G W as)) : PA X es (tFl D G W as) := h.of fun σ H Q => nest_all
theorem snd_knil : PK X [] (nestT D G W []) := pk_nil
theorem snd_kcons {a : IE} {as : List IE} {e : Expr} {kws : List Keyword} {nm : Option Str} {kpos : Pos} (ha : PE X e (tF D G W a)) (hs : PK X kws (nestT D G W as)) : PK X (⟨nm, e, kpos⟩ :: kws) (nestT D G W (a :: as)) := pk_cons ha hs
theorem kw_all {kws : List Keyword} {ks : List Str} {env : Env} {pos : Pos} (h : kwNames kws = some ks) : (backToKw pos (keywordEach kws env)).all (·.1.isSome) = true ∧ (backToKw pos (keywordEach kws env)).filterMap (·.1) = ks ∧ (backToKw pos (keywordEach kws env)).any (·.1.isNone) = false := by
  induction kws generalizing ks with
  | nil => simp only [kwNames, Option.some.injEq] at h; subst h; exact ⟨rfl, rfl, rfl⟩
  | cons k kws ih =>
    obtain ⟨nm, e, kp⟩ := k
    simp only [kwNames] at h
    cases nm with
    | none => simp at h
    | some n =>
      cases e2 : kwNames kws with
      | none => rw [e2] at h; simp at h
      | some ns =>
        rw [e2] at h
        simp only [Option.some.injEq] at h
        subst h
        obtain ⟨h1, h2, h3⟩ := ih e2
        have e3 : backToKw pos (keywordEach (⟨some n, e, kp⟩ :: kws) env) = (some n, (do let v ← eval e env; standAt pos; pure v)) :: backToKw pos (keywordEach kws env) := rfl
        rw [e3]
        exact ⟨by simpa using h1, by simp [h2], by simpa using h3⟩
theorem pick_to {sh : Shared} {fd : FuncData} {ps ks : List Str} {us ws : List Value} (pl : Plain fd ps) (hk : kwOk ps us.length ks = true) (hw : ws.length = ks.length) : BindsTo sh fd ⟨us, ks.zip ws⟩ (ps.zip (pick (kwIx ps us.length ks) (us ++ ws))) := by
  have h2 : us.length ≤ ps.length := by
    simp only [kwOk, Bool.and_eq_true, decide_eq_true_eq] at hk
    exact hk.1.1.2
  rw [← kwArgs_pick h2 hw]
  exact .of_eq (pl.to hk hw)
def kwCall (pm : String → Option (List Str)) (sc : Scope) (x : Str) (f : String) (np : Nat) (kws : List Keyword) (is : List Nat) : Bool := glB sc x f && (match pm f, kwNames kws with
  | some ps, some ks => kwOk ps np ks && decide (is = kwIx ps np ks)
  | _, _ => false)
theorem kwCall_of (g : GX D G X sc) {x : Str} {f : String} {np : Nat} {kws : List Keyword} {is : List Nat} (h : kwCall G.params sc x f np kws is = true) :
    ∃ ps ks u, G.params f = some ps ∧ kwNames kws = some ks ∧ kwOk ps np ks = true ∧ is = kwIx ps np ks ∧ x = Str.ofString f ∧ Gl X x ∧ (x == ("__debug__" : Str)) = false ∧ X.mg x = some u ∧ PySem.W.keepIn X.K u = true := by
  unfold kwCall at h
  rw [Bool.and_eq_true] at h
  obtain ⟨rfl, gl, hd, _⟩ := g.gl h.1
  cases e : G.params f with
  | none => rw [e] at h; cases h.2
  | some ps =>
    cases e2 : kwNames kws with
    | none => rw [e, e2] at h; cases h.2
    | some ks =>
      rw [e, e2] at h
      have h2 := h.2
      dsimp only at h2
      rw [Bool.and_eq_true, decide_eq_true_eq] at h2
      obtain ⟨k, a, fd, _, _, hma, hk, _⟩ := g.fnk f ps e
      exact ⟨ps, ks, _, rfl, rfl, h2.1, h2.2, rfl, gl, hd, hma, hk⟩
theorem nest_len : ∀ {as : List IE} {σ : St} {H : Hp} {Q : List V → Hp → Prop}, nestT D G W as σ H Q → nestT D G W as σ H fun vs H1 => vs.length = as.length ∧ Q vs H1
  | [], _, _, _, h => ⟨rfl, h⟩
  | a :: as, σ, H, Q, h => by
    obtain ⟨O, ρ, s, rs, o⟩ := h
    exact ⟨O, ρ, s, rs, o.mono fun r s' f v ρ' H' l ok => by
      have := nest_len (f v ρ' H' l ok)
      have mono : ∀ {as : List IE} {σ : St} {H : Hp} {Q Q' : List V → Hp → Prop}, (∀ vs H, Q vs H → Q' vs H) → nestT D G W as σ H Q → nestT D G W as σ H Q' := by
        intro as
        induction as with
        | nil => intro σ H Q Q' f h; exact f _ _ h
        | cons b bs ih =>
          intro σ H Q Q' f h
          obtain ⟨O, ρ, s, rs, o⟩ := h
          exact ⟨O, ρ, s, rs, o.mono fun r s' g v ρ' H' l ok => ih (fun vs H => f _ _) (g v ρ' H' l ok)⟩
      exact mono (fun vs H1 z => ⟨by simp [z.1], z.2⟩) this⟩
theorem snd_callK (g : GX D G X sc) (tk : Takes X W) {f : String} {as bs : List IE} {e : Expr} {es : List Expr} {kws : List Keyword} {is : List Nat} {x : Str} {p pos : Pos} (hx : kwCall G.params sc x f as.length kws is = true) (ha : PA X (e :: es) (nestT D G W as)) (hk' : PK X kws (nestT D G W bs)) (hbl : bs.length = kws.length)
    (hs : (e :: es).all notStar = true) : PE X (.Call (.Name x p) (e :: es) kws pos) (tF D G W (.callK f (as ++ bs) is)) := by
  obtain ⟨ps, ks, u, hp, hks, hko, rfl, rfl, hg, hdb, hm, hk⟩ := kwCall_of g hx
  have hs' := hs
  rw [List.all_cons, Bool.and_eq_true] at hs
  obtain ⟨k1, k2, k3⟩ := kw_all (env := X.env) (pos := pos) hks
  have hkl : ks.length = kws.length := by
    have : ∀ (kws : List Keyword) (ks : List Str), kwNames kws = some ks → ks.length = kws.length := by
      intro kws
      induction kws with
      | nil => intro ks h; simp only [kwNames, Option.some.injEq] at h; subst h; rfl
      | cons k kws ih =>
        intro ks h
        simp only [kwNames] at h
        cases e1 : k.arg with
        | none => rw [e1] at h; simp at h
        | some n => cases e2 : kwNames kws with
          | none => rw [e1, e2] at h; simp at h
          | some ns => rw [e1, e2] at h; simp only [Option.some.injEq] at h; subst h; simp [ih ns e2]
    exact this kws ks hks
  refine ⟨fun pins s σ H Q I ⟨O, ρ, st, rs, h⟩ => ?_⟩
  simp only [ev] at h
  refine wpAny_Call_Name_kw (ld_glob I hg hm ?_ hdb)
  have start : tFl D G W (as ++ bs) σ H (fun vs H1 => ∃ ρ1 s1 xs Of, RtsOk D ρ1 s1 σ H H1 Of O vs xs ∧ Out D W O ρ1 s1.env σ H1 (callR G f (some (kwIx ps as.length ks)) xs s1) fun r s' => ∀ v ρ' H', Le ρ1 s1.env σ H1 ρ' s'.env σ H' → RtOk D O ρ' s' σ H H' v r → Q v H') :=
    ⟨O, ρ, st, rs, (Out.bind h).mono fun xs s2 h2 vs ρ2 H2 Of l2 rok => ⟨ρ2, s2, xs, Of, rok, (h2 ρ2 H2 l2).mono fun r s' f v ρ' H' l' ok => f v ρ' H' (l2.trans l') ok⟩⟩
  have n1 := nest_len (nest_app start)
  refine PySem.W.callWith_KW (h₀ := X.base) I.ok.mod.kin hk k1 (thn (ha.run pos pins s σ H _ I n1) fun us s1 ⟨vs, H1, I1, r, hvl, q⟩ => ?_) (by rw [k3, starEach_of hs.1]; show ((false || (backTo pos (starEach es X.env)).any (·.1)) || false) = false; rw [starPl_of hs.2]; rfl) (starEach_of hs.1)
  refine thn (hk'.run pos pins s1 σ H1 _ I1 (nest_len (nest_all q))) fun ws s2 ⟨zs, H2, I2, rz, hzl, ρ2, st2, xs, Of, rok, o⟩ => ⟨I2.kIn, ?_⟩
  rw [k2]
  have hul : us.length = as.length := by rw [← r.length]; exact hvl
  have hwl : ws.length = ks.length := by rw [← rz.length, hzl, hbl, hkl]
  refine run_call g tk I2 (vs := vs ++ zs) (us := us ++ ws) (kw := ks.zip ws) (pos := us) (is := some (kwIx ps as.length ks)) (r.append rz) rok o (fun ps' fd e pl hl => ?_) hm
  rw [hp] at e; cases e
  rw [← hul] at hko ⊢
  exact pick_to pl hko hwl
theorem snd_callK0 (g : GX D G X sc) (tk : Takes X W) {f : String} {bs : List IE} {kws : List Keyword} {is : List Nat} {x : Str} {p pos : Pos} (hx : kwCall G.params sc x f 0 kws is = true) (hk' : PK X kws (nestT D G W bs)) (hbl : bs.length = kws.length) : PE X (.Call (.Name x p) [] kws pos) (tF D G W (.callK f bs is)) := by
  obtain ⟨ps, ks, u, hp, hks, hko, rfl, rfl, hg, hdb, hm, hk⟩ := kwCall_of g hx
  obtain ⟨k1, k2, k3⟩ := kw_all (env := X.env) (pos := pos) hks
  have hkl : ks.length = kws.length := by
    have : ∀ (kws : List Keyword) (ks : List Str), kwNames kws = some ks → ks.length = kws.length := by
      intro kws
      induction kws with
      | nil => intro ks h; simp only [kwNames, Option.some.injEq] at h; subst h; rfl
      | cons k kws ih =>
        intro ks h
        simp only [kwNames] at h
        cases e1 : k.arg with
        | none => rw [e1] at h; simp at h
        | some n => cases e2 : kwNames kws with
          | none => rw [e1, e2] at h; simp at h
          | some ns => rw [e1, e2] at h; simp only [Option.some.injEq] at h; subst h; simp [ih ns e2]
    exact this kws ks hks
  refine ⟨fun pins s σ H Q I ⟨O, ρ, st, rs, h⟩ => ?_⟩
  simp only [ev] at h
  refine wpAny_Call_Name_kw (ld_glob I hg hm ?_ hdb)
  have start : tFl D G W bs σ H (fun vs H1 => ∃ ρ1 s1 xs Of, RtsOk D ρ1 s1 σ H H1 Of O vs xs ∧ Out D W O ρ1 s1.env σ H1 (callR G f (some (kwIx ps 0 ks)) xs s1) fun r s' => ∀ v ρ' H', Le ρ1 s1.env σ H1 ρ' s'.env σ H' → RtOk D O ρ' s' σ H H' v r → Q v H') :=
    ⟨O, ρ, st, rs, (Out.bind h).mono fun xs s2 h2 vs ρ2 H2 Of l2 rok => ⟨ρ2, s2, xs, Of, rok, (h2 ρ2 H2 l2).mono fun r s' f v ρ' H' l' ok => f v ρ' H' (l2.trans l') ok⟩⟩
  refine PySem.W.callWith_KW0 (h₀ := X.base) I.ok.mod.kin hk k1 (thn (hk'.run pos pins s σ H _ I (nest_len (nest_all start))) fun ws s2 ⟨zs, H2, I2, rz, hzl, ρ2, st2, xs, Of, rok, o⟩ => ⟨I2.kIn, ?_⟩) (by rw [k3]; rfl)
  rw [k2]
  have hwl : ws.length = ks.length := by rw [← rz.length, hzl, hbl, hkl]
  refine run_call g tk I2 (vs := zs) (us := ws) (kw := ks.zip ws) (pos := []) (is := some (kwIx ps 0 ks)) rz rok o (fun ps' fd e pl hl => ?_) hm
  rw [hp] at e; cases e
  exact pick_to (us := []) pl hko hwl
end
end L2.TV

set_option maxHeartbeats 1000000
/-! Statements: what they leave, and the stores. -/
namespace L2.TV
open PySem PySem.Spec PyProof.Rows
section
variable {D : Wd} {G : Cfg} {X : Cx} {sc : Scope} {W : WX'} {O O' O1 O2 : OX} {ρ ρ' ρ0 ρ1 : List Addr} {env env' env0 : List Slot} {σ σ' σ0 : St} {H H0 H' H1 : Hp} {s s' s1 : S} {v : V} {r : Rt} {K : PySem.W.Frag} {L L' : Addr → Prop} {p : Addr} {i : Nat}
theorem RS.setOwn {y : Slot} (rs : RS D.K D.cls O1 ρ s σ H) (h2 : ∀ a, O2 a → O1 a ∧ a ≠ p) (hp : O1 p) (hy : y.isOwn = true) (ok : OwnOk D.K ρ (Lv O1 ρ s.env σ) H p y) :
    RS D.K D.cls O2 ρ (setE s i y) (σ.set i (some (.ref p))) H ∧ ∀ a, Lv O2 ρ (s.env.set i y) (σ.set i (some (.ref p))) a → Lv O1 ρ s.env σ a := by
  have own : ∀ b, OwnA (s.env.set i y) (σ.set i (some (.ref p))) b → b = p ∨ OwnA s.env σ b := fun b ⟨j, z, f1, f2, f3⟩ => by
    rw [get_set] at f1 f3
    by_cases h : i = j
    · rw [if_pos h] at f1 f3
      split at f3
      · cases f3; exact .inl rfl
      · cases f3
    · rw [if_neg h] at f1 f3
      exact .inr ⟨j, z, f1, f2, f3⟩
  have sub : ∀ a, Lv O2 ρ (s.env.set i y) (σ.set i (some (.ref p))) a → Lv O1 ρ s.env σ a := fun a l => by
    rcases l with l | l | l
    · exact .inl l
    · exact .inr (.inl (h2 a l).1)
    · rcases own a l with z | z
      · subst z; exact .inr (.inl hp)
      · exact .inr (.inr z)
  refine ⟨⟨rs.nd, rs.len, fun j u f => ?_, fun j z f1 f2 => ?_, fun j k x z b f1 f2 f3 f4 f5 f6 => ?_, fun n c b f1 f2 => (rs.cell n c b f1 f2).sub sub, fun a h => rs.out a (h2 a h).1, by show (s.env.set i _).length = _; simp [rs.elen]⟩, sub⟩
  · have f' : (s.env.set i y)[j]? = some (.val u) := f
    rw [get_set] at f'
    by_cases h : i = j
    · rw [if_pos h] at f'
      split at f'
      · cases f'; cases hy
      · cases f'
    · rw [if_neg h] at f'
      obtain ⟨w, q1, q2⟩ := rs.slot j u f'
      exact ⟨w, by rw [get_set, if_neg h]; exact q1, q2.sub sub⟩
  · have f' : (s.env.set i y)[j]? = some z := f1
    rw [get_set] at f'
    by_cases h : i = j
    · rw [if_pos h] at f'
      split at f'
      · rename_i hl
        cases f'
        refine ⟨p, by rw [get_set, if_pos h, if_pos (by rw [← rs.elen]; exact hl)], fun z => (h2 p z).2 rfl, (rs.out p hp).1, ok.sub sub⟩
      · cases f'
    · rw [if_neg h] at f'
      obtain ⟨b, q1, q2, q3, q4⟩ := rs.own j z f' f2
      exact ⟨b, by rw [get_set, if_neg h]; exact q1, fun w => q2 (h2 b w).1, q3, q4.sub sub⟩
  · have g1 : (s.env.set i y)[j]? = some x := f1
    have g2 : (s.env.set i y)[k]? = some z := f2
    rw [get_set] at g1 g2 f5 f6
    have no : ∀ {j : Nat} {x : Slot}, s.env[j]? = some x → x.isOwn = true → σ[j]? = some (some (.ref p)) → False := fun {j x} a b c => by
      obtain ⟨b', q1, q2, _⟩ := rs.own j x a b
      rw [c] at q1; cases q1
      exact q2 hp
    by_cases h : i = j
    · rw [if_pos h] at g1 f5
      by_cases h' : i = k
      · exact h.symm.trans h'
      · rw [if_neg h'] at g2 f6
        split at f5
        · cases f5
          exact (no g2 f4 f6).elim
        · cases f5
    · rw [if_neg h] at g1 f5
      by_cases h' : i = k
      · rw [if_pos h'] at g2 f6
        split at f6
        · cases f6
          exact (no g1 f3 f5).elim
        · cases f6
      · rw [if_neg h'] at g2 f6
        exact rs.inj j k x z b g1 g2 f3 f4 f5 f6
theorem Le.setOwn {y : Slot} (l : Le ρ0 env0 σ0 H0 ρ env σ H) (hp : H0 p = Option.none) : Le ρ0 env0 σ0 H0 ρ (env.set i y) (σ.set i (some (.ref p))) H :=
  ⟨l.pre, l.fr, fun b ⟨j, z, f1, f2, f3⟩ => by
    rw [get_set] at f1 f3
    by_cases h : i = j
    · rw [if_pos h] at f1 f3
      split at f3
      · cases f3; exact .inr hp
      · cases f3
    · rw [if_neg h] at f1 f3
      exact l.ow b ⟨j, z, f1, f2, f3⟩, l.kp, l.tr⟩
/-- a slot takes an outcome -/
theorem RtOk.set {y : Slot} (ok : RtOk D O ρ1 s1 σ H0 H1 v r) (e : r.slot = some y) (l : Le ρ env0 σ0 H0 ρ1 s1.env σ H1) : RS D.K D.cls O ρ1 (setE s1 i y) (σ.set i (some v)) H1 ∧ Le ρ env0 σ0 H0 ρ1 (setE s1 i y).env (σ.set i (some v)) H1 := by
  have ne : ∀ {p : Addr}, ¬ O p → ∀ a, O a → OX.add O p a ∧ a ≠ p := fun {p} no a z => ⟨.inl z, fun w => no (by subst w; exact z)⟩
  cases r with
  | v t =>
    cases e
    obtain ⟨a, b⟩ := ok.1.setVal (i := i) ok.2
    exact ⟨a, l.trans b⟩
  | l ts =>
    cases e
    obtain ⟨p, xs, rfl, n0, no, rs, e1, r1⟩ := ok
    exact ⟨(rs.setOwn (ne no) (.inr rfl) (y := .own ts) rfl ⟨xs, e1, r1⟩).1, l.setOwn n0⟩
  | k ts =>
    cases e
    obtain ⟨p, xs, rfl, n0, no, rs, e1, i1, r1⟩ := ok
    exact ⟨(rs.setOwn (ne no) (.inr rfl) (y := .ownK ts) rfl ⟨xs, e1, i1, r1⟩).1, l.setOwn n0⟩
  | d ts =>
    cases e
    obtain ⟨p, xs, rfl, n0, no, rs, e1, i1, r1⟩ := ok
    exact ⟨(rs.setOwn (ne no) (.inr rfl) (y := .ownT ts) rfl ⟨xs, e1, i1, r1⟩).1, l.setOwn n0⟩
  | b i => cases e

/-! ### what a statement leaves -/
def Fin (D : Wd) (W : WX') (O : OX) (E : Ends) (ρ : List Addr) (env : List Slot) (σ : St) (H : Hp) (r : R Fl) : Prop := match r with
  | .ok .nx s' => ∀ ρ' σ' H', Le ρ env σ H ρ' s'.env σ' H' → RS D.K D.cls O ρ' s' σ' H' → E.nx σ' H'
  | .ok .bk s' => ∀ ρ' σ' H', Le ρ env σ H ρ' s'.env σ' H' → RS D.K D.cls O ρ' s' σ' H' → E.bk σ' H'
  | .ok .ct s' => ∀ ρ' σ' H', Le ρ env σ H ρ' s'.env σ' H' → RS D.K D.cls O ρ' s' σ' H' → E.ct σ' H'
  | .ok (.ret t) s' => ∀ v ρ' σ' H', Le ρ env σ H ρ' s'.env σ' H' → RS D.K D.cls O ρ' s' σ' H' → Rp D.K ρ' (Lv O ρ' s'.env σ') H' v t → E.rt v H'
  | .err c fs s' => ∀ ρ' σ' H' cv d, Le ρ env σ H ρ' s'.env σ' H' → XOk D O ρ' s' σ' H' c fs cv d → W cv d σ' H'
  | .bad => False
theorem Fin.from {E : Ends} {r : R Fl} (h : Fin D W O E ρ env σ H r) (l : Le ρ env σ H ρ1 env' σ' H1) : Fin D W O E ρ1 env' σ' H1 r := by
  cases r with
  | bad => exact h
  | err c fs s => exact fun ρ' σ' H' cv d l' x => h ρ' σ' H' cv d (l.trans l') x
  | ok f s => cases f with
    | nx => exact fun ρ' σ' H' l' x => h ρ' σ' H' (l.trans l') x
    | bk => exact fun ρ' σ' H' l' x => h ρ' σ' H' (l.trans l') x
    | ct => exact fun ρ' σ' H' l' x => h ρ' σ' H' (l.trans l') x
    | ret t => exact fun v ρ' σ' H' l' x y => h v ρ' σ' H' (l.trans l') x y
theorem Fin.bind {α : Type} {E : Ends} {r : R α} {f : α → S → R Fl} (h : Fin D W O E ρ env σ H (r.bind f)) : Out D W O ρ env σ H r fun a s1 => ∀ ρ1 H1, Le ρ env σ H ρ1 s1.env σ H1 → Fin D W O E ρ1 s1.env σ H1 (f a s1) := by
  cases r with
  | bad => exact h
  | err c fs s => exact fun ρ' H' cv d l x => h ρ' σ H' cv d l x
  | ok a s => exact fun ρ1 H1 l => Fin.from h l
theorem Fin.bind0 {α : Type} {E : Ends} {r : R α} {f : α → S → R Fl} (h : Fin D W O E ρ env σ H (r.bind f)) : Out D W O ρ env σ H r fun a s1 => Fin D W O E ρ env σ H (f a s1) := by
  cases r with
  | bad => exact h
  | err c fs s => exact fun ρ' H' cv d l x => h ρ' σ H' cv d l x
  | ok a s => exact h
theorem Fin.nx {E : Ends} {s' : S} (h : Fin D W O E ρ env σ H (.ok .nx s')) {ρ' σ' H'} (l : Le ρ env σ H ρ' s'.env σ' H') (r : RS D.K D.cls O ρ' s' σ' H') : E.nx σ' H' := h ρ' σ' H' l r
/-- in a row -/
theorem Fin.seq {E : Ends} {r : R Fl} {f : S → R Fl} {nx : St → Hp → Prop} (h : Fin D W O E ρ env σ H (r.bind fun fl s1 => match fl with | .nx => f s1 | _ => .ok fl s1))
    (hn : ∀ ρ1 s1 σ1 H1, RS D.K D.cls O ρ1 s1 σ1 H1 → Fin D W O E ρ1 s1.env σ1 H1 (f s1) → nx σ1 H1) : Fin D W O { E with nx := nx } ρ env σ H r := by
  cases r with
  | bad => exact h
  | err c fs s => exact h
  | ok fl s1 => cases fl with
    | nx => exact fun ρ1 σ1 H1 l r => hn ρ1 s1 σ1 H1 r (Fin.from h l)
    | bk => exact h
    | ct => exact h
    | ret t => exact h
def tS (D : Wd) (G : Cfg) (W : WX') (st : IS) : TS := fun E σ H => ∃ O ρ s, RS D.K D.cls O ρ s σ H ∧ Fin D W O E ρ s.env σ H (ex G st s)
def tSs (D : Wd) (G : Cfg) (W : WX') (sts : List IS) : TS := fun E σ H => ∃ O ρ s, RS D.K D.cls O ρ s σ H ∧ Fin D W O E ρ s.env σ H (exs G sts s)
theorem _root_.L2.PS.of {e : Stmt} {t t' : TS} (h : PS X e t) (f : ∀ E σ H, t' E σ H → t E σ H) : PS X e t' := ⟨fun pins s σ H E I w => h.run pins s σ H E I (f E σ H w)⟩
theorem _root_.L2.PSs.of {e : List Stmt} {t t' : TS} (h : PSs X e t) (f : ∀ E σ H, t' E σ H → t E σ H) : PSs X e t' := ⟨fun pins s σ H E I w => h.run pins s σ H E I (f E σ H w)⟩
theorem snd_snil : PSs X [] (tSs D G W []) := pss_nil.of fun E σ H ⟨O, ρ, s, rs, h⟩ => by
  simp only [exs] at h
  exact h.nx Le.refl rs
theorem snd_scons {a : IS} {as : List IS} {st : Stmt} {sts : List Stmt} (ha : PS X st (tS D G W a)) (hs : PSs X sts (tSs D G W as)) : PSs X (st :: sts) (tSs D G W (a :: as)) := (pss_cons ha hs).of fun E σ H ⟨O, ρ, s, rs, h⟩ => by
  simp only [exs] at h
  exact ⟨O, ρ, s, rs, Fin.seq (E := E) (f := fun s1 => exs G as s1) h fun ρ1 s1 σ1 H1 r f => ⟨O, ρ1, s1, r, f⟩⟩
theorem snd_pass {q : Pos} : PS X (.Pass q) (tS D G W .pass) := ps_pass.of fun E σ H ⟨O, ρ, s, rs, h⟩ => by
  simp only [ex] at h
  exact h.nx Le.refl rs
theorem snd_brk {q : Pos} : PS X (.Break q) (tS D G W .brk) := ps_break.of fun E σ H ⟨O, ρ, s, rs, h⟩ => by
  simp only [ex] at h
  exact h ρ σ H Le.refl rs
theorem snd_cont {q : Pos} : PS X (.Continue q) (tS D G W .cont) := ps_continue.of fun E σ H ⟨O, ρ, s, rs, h⟩ => by
  simp only [ex] at h
  exact h ρ σ H Le.refl rs
theorem snd_ret {e : IE} {ee : Expr} {q : Pos} (he : PE X ee (tF D G W e)) : PS X (.Return (some ee) q) (tS D G W (.ret e)) := (ps_ret he).of fun E σ H ⟨O, ρ, s, rs, h⟩ => by
  simp only [ex] at h
  refine ⟨O, ρ, s, rs, (Fin.bind h).mono fun x s1 h1 v ρ1 H1 l ok => ?_⟩
  have q := h1 ρ1 H1 l
  cases e1 : x.t with
  | none => rw [e1] at q; exact q.elim
  | some t =>
    rw [e1] at q
    obtain ⟨r1, r2⟩ := ok.val e1
    exact q v ρ1 σ H1 Le.refl r1 r2
theorem swaps_expr {e : Expr} {l : Nat} {env : Env} (h : notStar e = true) : True := trivial
def isCompE : Expr → Bool
  | .ListComp _ _ _ _ => true
  | .SetComp _ _ _ _ => true
  | .DictComp _ _ _ _ _ => true
  | _ => false
theorem swap_no {e : Expr} {t : Option Expr} {l : Nat} {env : Env} (h : isCompE e = false) : swapsWith e t l env = pure false := by
  cases e <;> first | rfl | cases h
theorem snd_expr {e : IE} {ee : Expr} {q : Pos} (he : PE X ee (tF D G W e)) (hc : isCompE ee = false) : PS X (.Expr ee q) (tS D G W (.expr e)) := (ps_expr he (swap_no hc)).of fun E σ H ⟨O, ρ, s, rs, h⟩ => by
  simp only [ex] at h
  exact ⟨O, ρ, s, rs, (Fin.bind h).mono fun x s1 h1 v ρ1 H1 l ok => (h1 ρ1 H1 l).nx Le.refl ok.rs⟩
theorem snd_doc {x : Str} {j : Nat} {q q' : Pos} : PS X (.Expr (.Constant (.str x) j q) q') (tS D G W .pass) := ps_doc.of fun E σ H ⟨O, ρ, s, rs, h⟩ => by
  simp only [ex] at h
  exact h.nx Le.refl rs
theorem snd_ite {c : IE} {a b : List IS} {ec : Expr} {sa sb : List Stmt} {q : Pos} (hc : PT X ec (tFb D G W c)) (ha : PSs X sa (tSs D G W a)) (hb : PSs X sb (tSs D G W b)) : PS X (.If ec sa sb q) (tS D G W (.ite c a b)) := (ps_if hc ha hb).of fun E σ H ⟨O, ρ, s, rs, h⟩ => by
  simp only [ex] at h
  refine ⟨O, ρ, s, rs, (Fin.bind h).mono fun k s1 h1 ρ1 H1 l rs1 => ?_⟩
  have q := h1 ρ1 H1 l
  cases k with
  | true => exact ⟨O, ρ1, s1, rs1, q⟩
  | false => exact ⟨O, ρ1, s1, rs1, q⟩
theorem asgv_of {e : IE} {E : Ends} (h : tS D G W (.setv i e) E σ H) : tF D G W e σ H fun x H1 => E.nx (σ.set i (some x)) H1 := by
  obtain ⟨O, ρ, s, rs, h⟩ := h
  simp only [ex] at h
  refine ⟨O, ρ, s, rs, (Fin.bind0 h).mono fun x s1 q v ρ1 H1 l ok => ?_⟩
  cases e1 : x.t with
  | none => rw [e1] at q; exact q.elim
  | some t =>
    rw [e1] at q
    obtain ⟨r1, r2⟩ := ok.val e1
    obtain ⟨r3, l3⟩ := r1.setVal (i := i) r2
    exact q.nx (l.trans l3) r3
/-- name = e: the reading of the store -/
theorem asg_of {e : IE} {E : Ends} (h : tS D G W (.set i e) E σ H) : tF D G W e σ H fun x H1 => E.nx (σ.set i (some x)) H1 := by
  obtain ⟨O, ρ, s, rs, h⟩ := h
  simp only [ex] at h
  refine ⟨O, ρ, s, rs, (Fin.bind0 h).mono fun x s1 q v ρ1 H1 l ok => ?_⟩
  unfold setR at q
  cases e1 : x.slot with
  | none => rw [e1] at q; exact q.elim
  | some y =>
    rw [e1] at q
    obtain ⟨r1, l1⟩ := ok.set (i := i) e1 l
    exact q.nx l1 r1
end
end L2.TV

set_option maxHeartbeats 1000000
/-! Stores: one name, a tuple of names, names side by side. -/
namespace L2.TV
open PySem PySem.Spec PyProof.Rows
section
variable {D : Wd} {G : Cfg} {X : Cx} {sc : Scope} {W : WX'} {O O' O1 O2 : OX} {ρ ρ' ρ0 ρ1 : List Addr} {env env' env0 : List Slot} {σ σ' σ0 : St} {H H0 H' H1 : Hp} {s s' s1 : S} {v : V} {r : Rt} {K : PySem.W.Frag} {L L' : Addr → Prop} {i : Nat}
def nameB (N : List Str) (sc : Scope) (i : Nat) (x : Str) : Bool := N[i]? == some x && locB sc x
theorem nameB_of (g : GX D G X sc) {x : Str} (h : nameB X.N sc i x = true) : X.N[i]? = some x ∧ Loc X.env.scope x ∧ (X.fn x = true ∨ X.env.scope.names.lookup x = some .local) := by
  unfold nameB at h
  rw [Bool.and_eq_true] at h
  exact ⟨by simpa using h.1, g.locOk h.2⟩
theorem snd_set (g : GX D G X sc) {x : Str} {p q : Pos} {e : IE} {ee : Expr} (hx : nameB X.N sc i x = true) (he : PE X ee (tF D G W e)) (hc : isCompE ee = false) : PS X (.Assign [.Name x p] ee q) (tS D G W (.set i e)) := by
  obtain ⟨h1, h2, h3⟩ := nameB_of g hx
  exact (ps_set g.nd h1 h2 he (swap_no hc) h3).of fun E σ H h => asg_of h
theorem snd_setv (g : GX D G X sc) {x : Str} {p q : Pos} {e : IE} {ee : Expr} (hx : nameB X.N sc i x = true) (he : PE X ee (tF D G W e)) (hc : isCompE ee = false) : PS X (.Assign [.Name x p] ee q) (tS D G W (.setv i e)) := by
  obtain ⟨h1, h2, h3⟩ := nameB_of g hx
  exact (ps_set g.nd h1 h2 he (swap_no hc) h3).of fun E σ H h => asgv_of h
def swapLc (sc scope : Scope) (x : Str) (p pos : Pos) : Bool := sc.names.lookup x == some .local && p.line == pos.line && !(scope.names.any fun (n, k) => n == x && (k == .local || k == .cell))
theorem snd_setLc (g : GX D G X sc) {x : Str} {p q : Pos} (hx : nameB X.N sc i x = true) {elt : IE} {tg : Tg} {src : Src} {cond : Option IE} {own : List (Str × Nat)} {eelt etg eiter : Expr} {ifs : List Expr} {scope : Scope} {pos : Pos} (hi : PI X etg eiter (tSrc D G W src)) (hb : blkC X.N sc scope own = true)
    (hg : ∀ {X' : Cx}, X'.N = X.N → GX D G X' scope → PG X' etg (tTg X'.K tg)) (ht : ∀ {X' : Cx}, X'.N = X.N → GX D G X' scope → Takes X' W0 → PTs X' ifs (tFc D G W0 cond)) (he : ∀ {X' : Cx}, X'.N = X.N → GX D G X' scope → Takes X' W0 → PE X' eelt (tF D G W0 elt))
    (hf : foldPlain eiter = true) (hs : SlotsIn tg.slots (own.map (·.2))) : PS X (.Assign [.Name x p] (.ListComp eelt [⟨etg, eiter, ifs, 0⟩] scope pos) q) (fun E σ H => tF D G W (.lc elt tg src cond (own.map (·.2))) σ H fun x H1 => E.nx (σ.set i (some x)) H1) := by
  obtain ⟨h1, h2, h3⟩ := nameB_of g hx
  have hg' : ∀ {X' : Cx}, X'.N = X.N → GX D G X' scope → PTs X' ifs (tFc D G W0 cond) := fun {X'} e g' => ht e g' takes0
  have he' : ∀ {X' : Cx}, X'.N = X.N → GX D G X' scope → PE X' eelt (tF D G W0 elt) := fun {X'} e g' => he e g' takes0
  have ok := blkC_of g hb
  have kx : X.env.scope.names.lookup x = sc.names.lookup x := by
    unfold nameB locB at hx
    rw [Bool.and_eq_true] at hx
    cases e : sc.names.lookup x with
    | none => rw [e] at hx; cases hx.2
    | some kd =>
      rw [e] at hx
      refine g.loc x kd e ?_
      intro z
      subst z
      cases hx.2
  by_cases hsw : swapLc sc scope x p pos = true
  · unfold swapLc at hsw
    rw [Bool.and_eq_true, Bool.and_eq_true] at hsw
    have hl : X.env.scope.names.lookup x = some .local := by rw [kx]; simpa using hsw.1.1
    exact (ps_setLc g.calm g.nd h1 hl (sw_true g.kind hl hsw.1.2 (by simpa using hsw.2)) hi ok (fun s H C cl fp => hg (X' := X.blk s H scope (compEnvC scope cl C X.env) fp) rfl (g.blk ok s H C cl fp)) (fun s H C cl fp => hg' (X' := X.blk s H scope (compEnvC scope cl C X.env) fp) rfl (g.blk ok s H C cl fp))
      (fun s H C cl fp => he' (X' := X.blk s H scope (compEnvC scope cl C X.env) fp) rfl (g.blk ok s H C cl fp)) fun x => fold_of hf).of fun E σ H h => tLc_of g hs h
  · refine (ps_set g.nd h1 h2 (snd_lc g hi hb hg hg' he' hf hs) ?_ h3).of fun E σ H h => h
    have hk : X.env.kindOf x = sc.names.lookup x := kx
    have hbk : X.env.blockKind = .function := by unfold Env.blockKind; rw [g.kind]; rfl
    unfold swapsWith
    simp only [hbk, hk, Expr.pos]
    have e1 : (ScopeKind.function == ScopeKind.function && sc.names.lookup x == some .local && p.line == pos.line && !(scope.names.any fun (n, k) => n == x && (k == .local || k == .cell))) = false := by
      rw [Bool.eq_false_iff]
      intro z
      apply hsw
      unfold swapLc
      simpa using z
    show (pure (ScopeKind.function == ScopeKind.function && sc.names.lookup x == some .local && p.line == pos.line && !(scope.names.any fun (n, k) => n == x && (k == .local || k == .cell))) : Sem Bool) = pure false
    rw [e1]

/-! ### tuple targets -/
def isTupE : Expr → Bool
  | .Tuple _ _ _ => true
  | _ => false
theorem swap_tup {es : List Expr} {k l : Nat} {q : Pos} {e : Expr} {env : Env} : swapsWithSole [.Tuple es k q] e l env = pure false := by
  show swapsWith e (some (.Tuple es k q)) l env = pure false
  cases e <;> rfl
theorem stores_tup {es : List Expr} {k : Nat} {q : Pos} {e : Expr} {env : Env} (h : isTupE e = false) : swappedStores [.Tuple es k q] e env = pure none := by
  cases e <;> first | rfl | cases h
theorem snd_stg (g : GX D G X sc) {tg : Tg} {es : List Expr} {k : Nat} {q q' : Pos} {e : IE} {ee : Expr} (ht : isTg X.N sc tg (.Tuple es k q) = true) (he : PE X ee (tF D G W e)) (hn : isTupE ee = false) : PS X (.Assign [.Tuple es k q] ee q') (tS D G W (.tg tg e)) :=
  (ps_asg he (snd_tg g tg _ ht) swap_tup (stores_tup hn) rfl).of fun E σ H ⟨O, ρ, s, rs, h⟩ => by
    simp only [ex] at h
    refine ⟨O, ρ, s, rs, (Fin.bind h).mono fun x s1 h1 v ρ1 H1 l ok => ?_⟩
    have q := h1 ρ1 H1 l
    cases e1 : x.t with
    | none => rw [e1] at q; exact q.elim
    | some t =>
      rw [e1] at q
      dsimp only at q
      obtain ⟨r1, r2⟩ := ok.val e1
      cases e2 : bindTg tg t s1.env with
      | none => rw [e2] at q; exact q.elim
      | some env =>
        rw [e2] at q
        exact bind_ok g tg t tg.slots s1 σ H1 v env _ (fun _ z => z) r1 r2 e2 fun σ' _ rs' l' => q.nx l' rs'

/-! ### side by side -/
theorem RtsOk.re {Of Of2 : OX} {s2 : S} {σ2 : St} {m : OX → OX} {I : OX → Prop} (hs : ∀ a, Lv Of2 ρ s2.env σ2 a → Lv Of ρ s.env σ a) (hr : RS D.K D.cls Of2 ρ s2 σ2 H) (ha : ∀ O p', I O → ¬ O p' → m (OX.add O p') = OX.add (m O) p' ∧ I (OX.add O p')) (hn : ∀ O p', ¬ O p' → ¬ m O p')
    (hf : ∀ O, I O → Of = O → Of2 = m O) {O : OX} {vs : List V} {xs : List Rt} (hI : I O) (hx : ∀ x ∈ xs, (x.slot).isSome = true) (h : RtsOk D ρ s σ H0 H Of O vs xs) : RtsOk D ρ s2 σ2 H0 H Of2 (m O) vs xs := by
  refine RtsOk.rec' (M := fun O vs xs => I O → (∀ x ∈ xs, (x.slot).isSome = true) → RtsOk D ρ s2 σ2 H0 H Of2 (m O) vs xs) ?_ ?_ ?_ ?_ ?_ ?_ _ _ _ h hI hx
  · intro O r e i _; exact ⟨hr, hf O i e⟩
  · intro O v t vs xs r1 _ ih i hx; exact ⟨r1.sub hs, ih i fun x z => hx x (List.mem_cons_of_mem _ z)⟩
  · intro O p l ts vs xs a1 a2 a3 a4 _ ih i hx
    obtain ⟨e, i'⟩ := ha O p i a2
    exact ⟨p, l, rfl, a1, hn O p a2, a3, a4.sub hs, e ▸ ih i' fun x z => hx x (List.mem_cons_of_mem _ z)⟩
  · intro O p l ts vs xs a1 a2 a3 a5 a4 _ ih i hx
    obtain ⟨e, i'⟩ := ha O p i a2
    exact ⟨p, l, rfl, a1, hn O p a2, a3, a5, a4.sub hs, e ▸ ih i' fun x z => hx x (List.mem_cons_of_mem _ z)⟩
  · intro O p l ts vs xs a1 a2 a3 a5 a4 _ ih i hx
    obtain ⟨e, i'⟩ := ha O p i a2
    exact ⟨p, l, rfl, a1, hn O p a2, a3, a5, a4.sub hs, e ▸ ih i' fun x z => hx x (List.mem_cons_of_mem _ z)⟩
  · intro O v j vs xs _ _ _ _ hx
    have := hx _ List.mem_cons_self
    simp [Rt.slot] at this
def setV : List Nat → List V → St → St
  | i :: is, v :: vs, σ => setV is vs (σ.set i (some v))
  | _, _, σ => σ
theorem setRs_some {is : List Nat} {xs : List Rt} {s s' : S} (h : setRs is xs s = .ok .nx s') : ∀ x ∈ xs, (x.slot).isSome = true := by
  induction xs generalizing is s with
  | nil => intro x hx; simp at hx
  | cons x xs ih =>
    cases is with
    | nil => simp [setRs] at h
    | cons i is =>
      simp only [setRs, setR] at h
      cases e : x.slot with
      | none => rw [e] at h; cases h
      | some y =>
        rw [e] at h
        intro z hz
        rcases List.mem_cons.mp hz with rfl | hz
        · rw [e]; rfl
        · exact ih h z hz
theorem RtsOk.sets : ∀ (xs : List Rt) (is : List Nat) (vs : List V) (O Of : OX) (s : S) (σ : St) (s' : S), RtsOk D ρ s σ H0 H Of O vs xs → setRs is xs s = .ok .nx s' → Le ρ0 env0 σ0 H0 ρ s.env σ H →
    RS D.K D.cls O ρ s' (setV is vs σ) H ∧ Le ρ0 env0 σ0 H0 ρ s'.env (setV is vs σ) H := by
  intro xs
  induction xs with
  | nil =>
    intro is vs O Of s σ s' h e l
    cases is with
    | cons _ _ => simp [setRs] at e
    | nil =>
      simp only [setRs, R.ok.injEq] at e
      obtain ⟨_, rfl⟩ := e
      cases vs with
      | cons _ _ => exact h.elim
      | nil =>
        obtain ⟨rs, rfl⟩ := h
        exact ⟨rs, l⟩
  | cons x xs ih =>
    intro is vs O Of s σ s' h e l
    cases is with
    | nil => simp [setRs] at e
    | cons i is =>
    have hsome := setRs_some e
    simp only [setRs, setR] at e
    have hxs : ∀ y ∈ xs, (y.slot).isSome = true := fun y hy => hsome y (List.mem_cons_of_mem _ hy)
    cases vs with
    | nil => cases x <;> exact h.elim
    | cons v vs =>
    have own : ∀ {p : Addr} {y : Slot}, ¬ O p → v = .ref p → H0 p = none → y.isOwn = true → OwnOk D.K ρ (Lv Of ρ s.env σ) H p y → RtsOk D ρ s σ H0 H Of (OX.add O p) vs xs → setRs is xs (setE s i y) = .ok .nx s' →
        RS D.K D.cls O ρ s' (setV (i :: is) (v :: vs) σ) H ∧ Le ρ0 env0 σ0 H0 ρ s'.env (setV (i :: is) (v :: vs) σ) H := fun {p y} no ev n0 hy ok hr e => by
      subst ev
      have hOf := hr.sub p (.inr rfl)
      obtain ⟨r1, sub⟩ := hr.rsF.setOwn (O2 := fun a => Of a ∧ a ≠ p) (i := i) (fun _ z => z) hOf hy ok
      have h' := RtsOk.re (s2 := setE s i y) (m := fun O a => O a ∧ a ≠ p) (I := fun O => O p) sub r1 (fun O p' i' n => ⟨by
        funext a
        apply propext
        constructor
        · rintro ⟨z | z, w⟩
          · exact .inl ⟨z, w⟩
          · exact .inr z
        · rintro (⟨z, w⟩ | z)
          · exact ⟨.inl z, w⟩
          · exact ⟨.inr z, fun w => n (by rw [← z, w]; exact i')⟩, .inl i'⟩) (fun O p' n z => n z.1) (fun O i' e => by subst e; rfl) (O := OX.add O p) (show OX.add O p p from .inr rfl) hxs hr
      have eO : (fun a => OX.add O p a ∧ a ≠ p) = O := by
        funext a
        apply propext
        constructor
        · rintro ⟨z | z, w⟩
          · exact z
          · exact (w z).elim
        · intro z
          exact ⟨.inl z, fun w => no (by subst w; exact z)⟩
      rw [eO] at h'
      exact ih is vs O _ (setE s i y) _ s' h' e (l.setOwn n0)
    cases x with
    | v t =>
      obtain ⟨r1, h⟩ := h
      obtain ⟨r2, l2⟩ := h.rsF.setVal (i := i) r1
      have sub : ∀ a, Lv Of ρ (s.env.set i (.val t)) (σ.set i (some v)) a → Lv Of ρ s.env σ a := fun a z => by
        rcases z with z | z | ⟨j, y, f1, f2, f3⟩
        · exact .inl z
        · exact .inr (.inl z)
        · rw [get_set] at f1 f3
          by_cases hh : i = j
          · rw [if_pos hh] at f1
            split at f1
            · cases f1; cases f2
            · cases f1
          · rw [if_neg hh] at f1 f3
            exact .inr (.inr ⟨j, y, f1, f2, f3⟩)
      have h' := RtsOk.re (s2 := setE s i (.val t)) (m := id) (I := fun _ => True) sub r2 (fun _ _ _ _ => ⟨rfl, trivial⟩) (fun _ _ z => z) (fun _ _ e => e) trivial hxs h
      exact ih is vs O Of (setE s i (.val t)) _ s' h' e (l.trans l2)
    | l ts =>
      obtain ⟨p, xs', ev, n0, no, e4, r4, h⟩ := h
      exact own no ev n0 (y := .own ts) rfl ⟨xs', e4, r4⟩ h e
    | k ts =>
      obtain ⟨p, xs', ev, n0, no, e4, i4, r4, h⟩ := h
      exact own no ev n0 (y := .ownK ts) rfl ⟨xs', e4, i4, r4⟩ h e
    | d ts =>
      obtain ⟨p, xs', ev, n0, no, e4, i4, r4, h⟩ := h
      exact own no ev n0 (y := .ownT ts) rfl ⟨xs', e4, i4, r4⟩ h e
    | b j => cases e
end
end L2.TV

set_option maxHeartbeats 1000000
namespace L2.TV
open PySem PySem.Spec PyProof.Rows
section
variable {D : Wd} {G : Cfg} {X : Cx} {sc : Scope} {W : WX'} {O O' O1 O2 : OX} {ρ ρ' ρ0 ρ1 : List Addr} {env env' env0 : List Slot} {σ σ' σ0 : St} {H H0 H' H1 : Hp} {s s' s1 : S} {v : V} {r : Rt} {K : PySem.W.Frag} {L L' : Addr → Prop} {i : Nat}
def starB : Expr → Bool
  | .Starred _ _ => true
  | _ => false
/-- which stores are turned round: some none: none; some (some names): those -/
def swK (sc : Scope) (ts vs : List Expr) : Option (Option (List Str)) :=
  if (!(ts.length == 2 || ts.length == 3) || vs.length != ts.length) = true then some none else
  if vs.any starB = true then some none else
  let names := ts.filterMap fun t => match t with
    | .Name id pos => if (sc.names.lookup id == some .local && pos.line == (ts.head?.map (·.pos.line)).getD 0) = true then some id else none
    | _ => none
  if (names.length != ts.length || names.eraseDups.length != names.length) = true then some none else
  if vs.all (foldedForSure 8) = true then some none else
  if vs.all (constantsAlone 8) = true then none else some (some names)
def nameE (sc : Scope) : Expr → Bool
  | .Name x _ => locB sc x
  | _ => false
theorem GX.lookE (g : GX D G X sc) {x : Str} (h : locB sc x = true) : X.env.scope.names.lookup x = sc.names.lookup x := by
  unfold locB at h
  cases e : sc.names.lookup x with
  | none => rw [e] at h; cases h
  | some kd =>
    rw [e] at h
    refine g.loc x kd e ?_
    intro z
    subst z
    cases h
theorem swK_ok (g : GX D G X sc) {ts vs : List Expr} {k k' : Nat} {q q' : Pos} {r : Option (List Str)} (hn : ts.all (nameE sc) = true) (h : swK sc ts vs = some r) : swappedStores [.Tuple ts k q] (.Tuple vs k' q') X.env = pure r := by
  have hbk : X.env.blockKind = .function := by unfold Env.blockKind; rw [g.kind]; rfl
  have en : (ts.filterMap fun t => match t with
    | .Name id pos => if (sc.names.lookup id == some .local && pos.line == (ts.head?.map (·.pos.line)).getD 0) = true then some id else none
    | _ => none) = ts.filterMap fun t => match t with
    | .Name id pos => if (X.env.kindOf id == some .local && pos.line == (ts.head?.map (·.pos.line)).getD 0) = true then some id else none
    | _ => none := by
    have key : ∀ (l : List Expr) (n : Nat), l.all (nameE sc) = true → (l.filterMap fun t => match t with
      | .Name id pos => if (sc.names.lookup id == some .local && pos.line == n) = true then some id else none
      | _ => none) = l.filterMap fun t => match t with
      | .Name id pos => if (X.env.kindOf id == some .local && pos.line == n) = true then some id else none
      | _ => none := by
      intro l n
      induction l with
      | nil => intro _; rfl
      | cons a l ih =>
        intro h
        rw [List.all_cons, Bool.and_eq_true] at h
        rw [List.filterMap_cons, List.filterMap_cons, ih h.2]
        cases a <;> simp only [nameE] at h <;> first | rfl | skip
        rename_i id pos
        have e : X.env.kindOf id = sc.names.lookup id := g.lookE h.1
        simp only [e]
    exact key ts _ hn
  unfold swK at h
  have es : vs.any starB = vs.any (fun | .Starred .. => true | _ => false) := by
    congr 1
  unfold swappedStores
  simp only [hbk]
  split at h
  · rename_i c
    cases h
    have c' : (!(ts.length == 2 || ts.length == 3) || vs.length != ts.length || ScopeKind.function != ScopeKind.function) = true := by rw [c]; rfl
    rw [if_pos c']
  · rename_i c
    have c' : ¬ (!(ts.length == 2 || ts.length == 3) || vs.length != ts.length || ScopeKind.function != ScopeKind.function) = true := by
      have : (ScopeKind.function != ScopeKind.function) = false := rfl
      rw [this, Bool.or_false]; exact c
    rw [if_neg c']
    rw [es] at h
    split at h
    · rename_i c2
      cases h
      exact if_pos c2
    · rename_i c2
      refine Eq.trans (if_neg c2) ?_
      simp only [en] at h
      split at h
      · rename_i c3
        cases h
        exact if_pos c3
      · rename_i c3
        refine Eq.trans (if_neg c3) ?_
        split at h
        · rename_i c4
          cases h
          exact if_pos c4
        · rename_i c4
          refine Eq.trans (if_neg c4) ?_
          split at h
          · cases h
          · rename_i c5
            cases h
            exact if_neg c5
end
end L2.TV

set_option maxHeartbeats 1000000
/-! Names side by side; what is written into lists and dicts. -/
namespace L2.TV
open PySem PySem.Spec PyProof.Rows
section
variable {D : Wd} {G : Cfg} {X : Cx} {sc : Scope} {W : WX'} {O O' O1 O2 : OX} {ρ ρ' ρ0 ρ1 : List Addr} {env env' env0 : List Slot} {σ σ' σ0 : St} {H H0 H' H1 : Hp} {s s' s1 : S} {v : V} {r : Rt} {K : PySem.W.Frag} {L L' : Addr → Prop} {i : Nat}
theorem nest_mono : ∀ {as : List IE} {σ : St} {H : Hp} {Q Q' : List V → Hp → Prop}, (∀ vs H, Q vs H → Q' vs H) → nestT D G W as σ H Q → nestT D G W as σ H Q' := by
  intro as
  induction as with
  | nil => intro σ H Q Q' f h; exact f _ _ h
  | cons b bs ih =>
    intro σ H Q Q' f h
    obtain ⟨O, ρ, s, rs, o⟩ := h
    exact ⟨O, ρ, s, rs, o.mono fun r s' g v ρ' H' l ok => ih (fun vs H => f _ _) (g v ρ' H' l ok)⟩
theorem setRs_len : ∀ {xs : List Rt} {is : List Nat} {s : S} {fl : Fl} {s' : S}, setRs is xs s = .ok fl s' → xs.length = is.length ∧ fl = .nx := by
  intro xs
  induction xs with
  | nil =>
    intro is s fl s' h
    cases is with
    | nil => simp only [setRs, R.ok.injEq] at h; exact ⟨rfl, h.1.symm⟩
    | cons _ _ => simp [setRs] at h
  | cons x xs ih =>
    intro is s fl s' h
    cases is with
    | nil => simp [setRs] at h
    | cons i is =>
      simp only [setRs, setR] at h
      cases e : x.slot with
      | none => rw [e] at h; cases h
      | some y =>
        rw [e] at h
        obtain ⟨h1, h2⟩ := ih h
        exact ⟨by simp [h1], h2⟩
theorem setRs_err {xs : List Rt} {is : List Nat} {s : S} {c : String} {fs : List (Str × T)} {s' : S} : setRs is xs s ≠ .err c fs s' := by
  induction xs generalizing is s with
  | nil => cases is <;> (intro h; simp [setRs] at h)
  | cons x xs ih =>
    cases is with
    | nil => intro h; simp [setRs] at h
    | cons i is =>
      intro h
      simp only [setRs, setR] at h
      cases e : x.slot with
      | none => rw [e] at h; cases h
      | some y => rw [e] at h; exact ih h
theorem RtsOk.len {Of : OX} {vs : List V} {xs : List Rt} (h : RtsOk D ρ s σ H0 H Of O vs xs) : vs.length = xs.length :=
  RtsOk.rec' (M := fun _ vs xs => vs.length = xs.length) (fun _ _ _ => rfl) (fun _ _ _ _ _ _ _ r => by simp [r]) (fun _ _ _ _ _ _ _ _ _ _ _ r => by simp [r]) (fun _ _ _ _ _ _ _ _ _ _ _ _ r => by simp [r]) (fun _ _ _ _ _ _ _ _ _ _ _ _ r => by simp [r]) (fun _ _ _ _ _ _ _ r => by simp [r]) _ _ _ h
theorem par_of {is : List Nat} {es : List IE} {E : Ends} (h : tS D G W (.par is es) E σ H) : nestT D G W es σ H fun vs H1 => vs.length = is.length ∧ ∀ H2, Same H1 H2 → E.nx (setV is vs σ) H2 := by
  obtain ⟨O, ρ, s, rs, h⟩ := h
  simp only [ex] at h
  refine nest_all ⟨O, ρ, s, rs, (Fin.bind0 h).mono fun xs s1 q vs ρ1 H1 Of l rok => ?_⟩
  cases e : setRs is xs s1 with
  | bad => rw [e] at q; exact q.elim
  | err c fs s2 => exact (setRs_err e).elim
  | ok fl s2 =>
    obtain ⟨h1, rfl⟩ := setRs_len e
    rw [e] at q
    obtain ⟨r2, l2⟩ := rok.sets xs is vs O Of s1 σ s2 e l
    exact ⟨by rw [rok.len, h1], fun H2 sm => q.nx (l2.trans (Le.same sm)) (r2.same sm)⟩
theorem snd_par2 (g : GX D G X sc) {i j : Nat} {x y : Str} {a b : Expr} {es : List IE} {px py pt q : Pos} {kt k2 : Nat} {pt2 : Pos} (hi : X.N[i]? = some x) (hj : X.N[j]? = some y) (hij : i ≠ j) (hx : sc.names.lookup x = some .local) (hy : sc.names.lookup y = some .local)
    (ha : PA X [a, b] (nestT D G W es)) (hw : swK sc [.Name x px, .Name y py] [a, b] = some (some [x, y])) : PS X (.Assign [.Tuple [.Name x px, .Name y py] kt pt] (.Tuple [a, b] k2 pt2) q) (tS D G W (.par [i, j] es)) := by
  have lx : locB sc x = true := by unfold locB; rw [hx]
  have ly : locB sc y = true := by unfold locB; rw [hy]
  have hn : [Expr.Name x px, Expr.Name y py].all (nameE sc) = true := by simp [nameE, lx, ly]
  refine (ps_par g.calm g.nd hi hj hij (by rw [g.lookE lx]; exact hx) (by rw [g.lookE ly]; exact hy) ha (swK_ok g hn hw) swap_tup).of fun E σ H h => ?_
  refine nest_mono (fun vs H1 ⟨hl, k⟩ => ?_) (par_of h)
  match vs, hl with
  | [v, w], _ => exact ⟨v, w, rfl, k H1 (Same.refl _)⟩
theorem snd_par3 (g : GX D G X sc) {i j l : Nat} {x y z : Str} {a b c : Expr} {es : List IE} {px py pz pt q : Pos} {kt k2 : Nat} {pt2 : Pos} (hi : X.N[i]? = some x) (hj : X.N[j]? = some y) (hl : X.N[l]? = some z) (hij : i ≠ j) (hil : i ≠ l) (hjl : j ≠ l) (hx : sc.names.lookup x = some .local) (hy : sc.names.lookup y = some .local) (hz : sc.names.lookup z = some .local)
    (ha : PA X [a, b, c] (nestT D G W es)) (hw : swK sc [.Name x px, .Name y py, .Name z pz] [a, b, c] = some (some [x, y, z])) : PS X (.Assign [.Tuple [.Name x px, .Name y py, .Name z pz] kt pt] (.Tuple [a, b, c] k2 pt2) q) (tS D G W (.par [i, j, l] es)) := by
  have lx : locB sc x = true := by unfold locB; rw [hx]
  have ly : locB sc y = true := by unfold locB; rw [hy]
  have lz : locB sc z = true := by unfold locB; rw [hz]
  have hn : [Expr.Name x px, Expr.Name y py, Expr.Name z pz].all (nameE sc) = true := by simp [nameE, lx, ly, lz]
  refine (ps_par3 g.calm g.nd hi hj hl hij hil hjl (by rw [g.lookE lx]; exact hx) (by rw [g.lookE ly]; exact hy) (by rw [g.lookE lz]; exact hz) ha (swK_ok g hn hw) swap_tup).of fun E σ H h => ?_
  refine nest_mono (fun vs H1 ⟨hl, k⟩ => ?_) (par_of h)
  match vs, hl with
  | [v, w, u], _ => exact ⟨v, w, u, rfl, k H1 (Same.refl _)⟩
theorem names_tg {K : PySem.W.Frag} {Q : St → Hp → Prop} : ∀ {is : List Nat} {vs : List V} {σ : St}, vs.length = is.length → Q (setV is vs σ) H → tTgs K (is.map Tg.name) vs σ H Q
  | [], [], σ, _, q => by simp only [List.map_nil, tTgs]; exact ⟨rfl, q⟩
  | i :: is, v :: vs, σ, h, q => by
    simp only [List.map_cons, tTgs, tTg]
    exact ⟨v, vs, rfl, names_tg (by simpa using h) q⟩
  | [], _ :: _, _, h, _ => by simp at h
  | _ :: _, [], _, h, _ => by simp at h
theorem snd_parN (g : GX D G X sc) {is : List Nat} {ts vs : List Expr} {es : List IE} {pt q : Pos} {kt k2 : Nat} {pt2 : Pos} (ht : isTgs X.N sc (is.map .name) ts = true) (hl : is.length ≤ 1000) (hn : ts.all (nameE sc) = true) (ha : PA X vs (nestT D G W es)) (hw : swK sc ts vs = some none) :
    PS X (.Assign [.Tuple ts kt pt] (.Tuple vs k2 pt2) q) (tS D G W (.par is es)) := by
  have pg := snd_tg g (.tup (is.map .name)) (.Tuple ts kt pt) (by simpa [isTg] using ht)
  refine (ps_asg (pe_tup ha) pg swap_tup (swK_ok g hn hw) rfl).of fun E σ H h => ?_
  refine nest_mono (fun vs H1 ⟨hl', k⟩ => ⟨by rw [hl']; exact Nat.le_of_lt (small1000 hl), fun p hp => ?_⟩) (par_of h)
  simp only [tTg]
  refine ⟨p, vs, rfl, SqT.of upd_same, by simp [hl'], names_tg hl' (k _ (Same.upd_new hp))⟩

/-! ### writing -/
theorem kp_upd {a : Addr} {o : HO} (h : L a) : Kp ρ L H ρ L (upd H a o) := ⟨fun _ _ h => h, fun b u e n => by rw [upd_ne fun z => n (by subst z; exact h)]; exact e, fun _ l => .inl l⟩
theorem RS.writeOwn {a : Addr} {y0 y : Slot} {o : HO} (rs : RS D.K D.cls O ρ s σ H) (e : s.env[i]? = some y0) (e0 : y0.isOwn = true) (ea : σ[i]? = some (some (.ref a))) (hy : y.isOwn = true) (hm : Mut (some o)) (hn : ∀ b, H a ≠ some (.own b)) (ok : OwnOk D.K ρ (Lv O ρ s.env σ) (upd H a o) a y) :
    RS D.K D.cls O ρ (setE s i y) σ (upd H a o) ∧ Le ρ s.env σ H ρ (s.env.set i y) σ (upd H a o) := by
  have hi : i < s.env.length := (List.getElem?_eq_some_iff.mp e).1
  have own : ∀ b, OwnA (s.env.set i y) σ b → OwnA s.env σ b := fun b ⟨j, z, f1, f2, f3⟩ => by
    rw [get_set] at f1
    by_cases h : i = j
    · subst h
      exact ⟨i, y0, e, e0, f3⟩
    · rw [if_neg h] at f1
      exact ⟨j, z, f1, f2, f3⟩
  have sub : ∀ b, Lv O ρ (s.env.set i y) σ b → Lv O ρ s.env σ b := fun b l => l.imp id (Or.imp id (own b))
  have oa : OwnA s.env σ a := ⟨i, y0, e, e0, ea⟩
  have k : Kp ρ (Lv O ρ s.env σ) H ρ (Lv O ρ s.env σ) (upd H a o) := kp_upd (.inr (.inr oa))
  have m := rs.mut
  obtain ⟨a', q1, nO, nρ, _⟩ := rs.own i y0 e e0
  rw [ea] at q1; cases q1
  have ne : ∀ {b : Addr}, b ≠ a → ∀ u, H b = some u → upd H a o b = some u := fun n u h => by rw [upd_ne n]; exact h
  refine ⟨⟨rs.nd, rs.len, fun j u f => ?_, fun j z f1 f2 => ?_, fun j l x z b f1 f2 f3 f4 f5 f6 => ?_, fun n c b f1 f2 => ?_, fun b h => ?_, by show (s.env.set i _).length = _; simp [rs.elen]⟩,
    ⟨fun _ _ h => h, fun _ h => .inl h, fun b h => .inl (own b h), fun b u h _ n2 => ne (fun z => n2 (by subst z; exact oa)) u h, fun b u h => ?_⟩⟩
  · have f' : (s.env.set i y)[j]? = some (.val u) := f
    rw [get_set] at f'
    by_cases h : i = j
    · rw [if_pos h, if_pos hi] at f'; cases f'; cases hy
    · rw [if_neg h] at f'
      obtain ⟨w, q1, q2⟩ := rs.slot j u f'
      exact ⟨w, q1, (q2.kp k m).sub sub⟩
  · have f' : (s.env.set i y)[j]? = some z := f1
    rw [get_set] at f'
    by_cases h : i = j
    · rw [if_pos h, if_pos hi] at f'; cases f'
      subst h
      exact ⟨a, ea, nO, nρ, ok.sub sub⟩
    · rw [if_neg h] at f'
      obtain ⟨b, q1, q2, q3, q4⟩ := rs.own j z f' f2
      refine ⟨b, q1, q2, q3, (q4.kp k m (ne fun w => h ?_)).sub sub⟩
      exact rs.inj i j y0 z a e f' e0 f2 ea (w ▸ q1)
  · have g1 : (s.env.set i y)[j]? = some x := f1
    have g2 : (s.env.set i y)[l]? = some z := f2
    rw [get_set] at g1 g2
    by_cases h : i = j
    · by_cases h' : i = l
      · exact h.symm.trans h'
      · rw [if_neg h'] at g2
        subst h
        exact rs.inj i l y0 z b e g2 e0 f4 f5 f6
    · rw [if_neg h] at g1
      by_cases h' : i = l
      · subst h'
        exact rs.inj j i x y0 b g1 e f3 e0 f5 f6
      · rw [if_neg h'] at g2
        exact rs.inj j l x z b g1 g2 f3 f4 f5 f6
  · refine ((rs.cell n c b f1 f2).kp k m (ne fun w => nρ (w ▸ List.mem_of_getElem? f2)) fun d h => ?_).sub sub
    rw [upd_ne fun z => hn b (by subst z; exact h)]; exact h
  · obtain ⟨q1, u, q2, q3⟩ := rs.out b h
    exact ⟨q1, u, ne (fun w => nO (w ▸ h)) u q2, q3⟩
  · by_cases w : b = a
    · subst w; exact ⟨o, upd_same⟩
    · exact ⟨u, ne w u h⟩
theorem RS.writeCell {a : Addr} {n : Nat} {c : Cell} {o : HO} (rs : RS D.K D.cls O ρ s σ H) (ea : ρ[n]? = some a) (hm : Mut (some o)) (hn : ∀ b, H a ≠ some (.own b)) (ok : CellOk D.K D.cls ρ (Lv O ρ s.env σ) (upd H a o) a c) :
    RS D.K D.cls O ρ { s with sto := s.sto.set n c } σ (upd H a o) ∧ Le ρ s.env σ H ρ s.env σ (upd H a o) := by
  have ma : a ∈ ρ := List.mem_of_getElem? ea
  have k : Kp ρ (Lv O ρ s.env σ) H ρ (Lv O ρ s.env σ) (upd H a o) := kp_upd (.inl ma)
  have m := rs.mut
  have ne : ∀ {b : Addr}, b ≠ a → ∀ u, H b = some u → upd H a o b = some u := fun n u h => by rw [upd_ne n]; exact h
  have hl : n < s.sto.length := by rw [← rs.len]; exact (List.getElem?_eq_some_iff.mp ea).1
  refine ⟨⟨rs.nd, by simp [rs.len], fun j u f => ?_, fun j z f1 f2 => ?_, rs.inj, fun j d b f1 f2 => ?_, fun b h => ?_, rs.elen⟩,
    ⟨fun _ _ h => h, fun _ h => .inl h, fun b h => .inl h, fun b u h n1 _ => ne (fun z => n1 (by subst z; exact ma)) u h, fun b u h => ?_⟩⟩
  · obtain ⟨w, q1, q2⟩ := rs.slot j u f
    exact ⟨w, q1, q2.kp k m⟩
  · obtain ⟨b, q1, q2, q3, q4⟩ := rs.own j z f1 f2
    exact ⟨b, q1, q2, q3, q4.kp k m (ne fun w => q3 (w ▸ ma))⟩
  · have f1' : (s.sto.set n c)[j]? = some d := f1
    rw [get_set] at f1'
    by_cases h : n = j
    · rw [if_pos h, if_pos hl] at f1'; cases f1'
      subst h
      rw [ea] at f2; cases f2
      exact ok
    · rw [if_neg h] at f1'
      have hb : b ≠ a := fun w => by
        subst w
        exact h ((List.getElem?_inj (List.getElem?_eq_some_iff.mp ea).1 rs.nd).mp (ea.trans f2.symm))
      refine (rs.cell j d b f1' f2).kp k m (ne hb) fun d h => ?_
      rw [upd_ne fun z => hn b (by subst z; exact h)]; exact h
  · obtain ⟨q1, u, q2, q3⟩ := rs.out b h
    exact ⟨q1, u, ne (fun w => q1 (by subst w; exact ma)) u q2, q3⟩
  · by_cases w : b = a
    · subst w; exact ⟨o, upd_same⟩
    · exact ⟨u, ne w u h⟩
end
end L2.TV

set_option maxHeartbeats 1000000
/-! Item stores, append, extend, pop. -/
namespace L2.TV
open PySem PySem.Spec PyProof.Rows
section
variable {D : Wd} {G : Cfg} {X : Cx} {sc : Scope} {W : WX'} {O O' O1 O2 : OX} {ρ ρ' ρ0 ρ1 : List Addr} {env env' env0 : List Slot} {σ σ' σ0 : St} {H H0 H' H1 : Hp} {s s' s1 : S} {v : V} {r : Rt} {K : PySem.W.Frag} {L L' : Addr → Prop} {i : Nat}
theorem bound_at (rs : RS D.K D.cls O ρ s σ H) (h : boundS s i = true) : ∃ v, σ[i]? = some (some v) := by
  unfold boundS at h
  cases e : s.env[i]? with
  | none => rw [e] at h; cases h
  | some x =>
    rw [e] at h
    cases x with
    | none => cases h
    | val t => obtain ⟨v, q, _⟩ := rs.slot i t e; exact ⟨v, q⟩
    | own l => obtain ⟨a, q, _⟩ := rs.own i _ e rfl; exact ⟨_, q⟩
    | ownK l => obtain ⟨a, q, _⟩ := rs.own i _ e rfl; exact ⟨_, q⟩
    | ownT l => obtain ⟨a, q, _⟩ := rs.own i _ e rfl; exact ⟨_, q⟩
theorem snd_peek (g : GX D G X sc) {x : Str} {p : Pos} (h : slotB X.N sc i x = true) : PE X (.Name x p) (tF D G W (.peek i)) := by
  obtain ⟨h1, h2, h3, h4⟩ := g.slot h
  refine (pe_var h1 h2 h3 h4).of fun σ H Q ⟨O, ρ, s, rs, o⟩ => ?_
  simp only [ev] at o
  by_cases hb : boundS s i = true
  · rw [if_pos hb] at o
    obtain ⟨v, hv⟩ := bound_at rs hb
    exact ⟨v, hv, o v ρ H Le.refl ⟨rs, hv⟩⟩
  · rw [if_neg hb] at o; exact o.elim
theorem ownL_at (rs : RS D.K D.cls O ρ s σ H) (h : ownL s i = true) : ∃ a xs l, s.env[i]? = some (.own l) ∧ σ[i]? = some (some (.ref a)) ∧ ¬ O a ∧ a ∉ ρ ∧ H a = some (.lst xs) ∧ RpL D.K ρ (Lv O ρ s.env σ) H xs l := by
  unfold ownL at h
  split at h
  · rename_i l e
    obtain ⟨a, q1, q2, q3, xs, q4, q5⟩ := rs.own i _ e rfl
    exact ⟨a, xs, l, e, q1, q2, q3, q4, q5⟩
  · cases h
theorem own_at {l : List T} (rs : RS D.K D.cls O ρ s σ H) (e : s.env[i]? = some (.own l)) : ∃ a xs, σ[i]? = some (some (.ref a)) ∧ ¬ O a ∧ a ∉ ρ ∧ H a = some (.lst xs) ∧ RpL D.K ρ (Lv O ρ s.env σ) H xs l := by
  obtain ⟨a, q1, q2, q3, xs, q4, q5⟩ := rs.own i _ e rfl
  exact ⟨a, xs, q1, q2, q3, q4, q5⟩
/-- an own list takes another content -/
theorem RS.putOwn {a : Addr} {xs ys : List V} {l m : List T} (rs : RS D.K D.cls O ρ s σ H) (e : s.env[i]? = some (.own l)) (ea : σ[i]? = some (some (.ref a))) (h : H a = some (.lst xs)) (r : RpL D.K ρ (Lv O ρ s.env σ) H ys m) :
    RS D.K D.cls O ρ (setE s i (.own m)) σ (upd H a (.lst ys)) ∧ Le ρ s.env σ H ρ (s.env.set i (.own m)) σ (upd H a (.lst ys)) :=
  rs.writeOwn e rfl ea rfl trivial (fun b z => by rw [h] at z; cases z) ⟨ys, upd_same, r.kp (kp_upd (.inr (.inr ⟨i, _, e, rfl, ea⟩))) rs.mut⟩
def rSix : TSet := fun o i v H Q => rSetL o i v H Q ∨ ∃ a H4, o = .ref a ∧ DPut H a i v H4 ∧ Q H4
theorem set_six (hu : X.A.units + 1 < cLine) : PSet X rSix := by
  intro pins s σ H o i v ov iv u Q I ro ri rv h
  rcases h with h | ⟨a, H4, rfl, d, q⟩
  · exact set_list pins s σ H o i v ov iv u Q I ro ri rv h
  · obtain rfl : ov = Value.ref a := ro
    exact d_setItem hu I d ri rv fun s' I' => ⟨H4, I', q⟩
theorem kV_of {u : T} {kk : Key} {v : V} (e : keyT u = some kk) (r : Rp K ρ L H v u) : v = kV kk := by
  cases u with
  | int i => cases e; cases r; rfl
  | str x => cases e; cases r; rfl
  | _ => cases e
theorem assign_sub {eo ek : Expr} {p : Pos} {env : Env} (h : notSlice ek = true) (v : Value) : assign (.Subscript eo ek p) env v = (do
      let ov ← holding [v] (eval eo env)
      let iv ← holding [v, ov] (eval ek env)
      standAt p
      holding [v, ov, iv] (setItem ov iv v)
      release [v, ov, iv] []) := by
  cases ek <;> first | rfl | cases h
theorem snd_six (g : GX D G X sc) {o k e : IE} {eo ek ee : Expr} {p q : Pos} (hns : notSlice ek = true) (ho : PE X eo (tF D G W o)) (hk : PE X ek (tF D G W k)) (he : PE X ee (tF D G W e)) : PS X (.Assign [.Subscript eo ek p] ee q) (tS D G W (.six o k e)) := by
  have hu : X.A.units + 1 < cLine := by have := g.un; omega
  refine (ps_asg he (pg_sub ho hk (set_six hu) (assign_sub hns)) (by show swapsWith ee (some (.Subscript eo ek p)) q.line X.env = pure false; cases ee <;> rfl) (by cases ee <;> rfl) rfl).of fun E σ H ⟨O, ρ, s, rs, h⟩ => ?_
  simp only [ex] at h
  refine ⟨O, ρ, s, rs, (Fin.bind h).mono fun y s1 h1 v ρ1 H1 l1 ok1 => ?_⟩
  have q1 := h1 ρ1 H1 l1
  cases e1 : y.t with
  | none => rw [e1] at q1; exact q1.elim
  | some t =>
  rw [e1] at q1
  dsimp only at q1
  obtain ⟨rs1, rv⟩ := ok1.val e1
  refine ⟨O, ρ1, s1, rs1, (Fin.bind q1).mono fun x s2 h2 ov ρ2 H2 l2 ok2 => ?_⟩
  have q2 := h2 ρ2 H2 l2
  have rs2 := ok2.rs
  refine ⟨O, ρ2, s2, rs2, (Fin.bind q2).mono fun z s3 h3 kv ρ3 H3 l3 ok3 => ?_⟩
  have q3 := h3 ρ3 H3 l3
  cases e3 : z.t with
  | none => rw [e3] at q3; exact q3.elim
  | some u =>
  rw [e3] at q3
  dsimp only at q3
  obtain ⟨rs3, rk⟩ := ok3.val e3
  have rv3 := (rv.le rs1 l2).le rs2 l3
  cases x with
  | b i =>
    have hv := ok2.2
    dsimp only at q3
    cases ei : s3.env[i]? with
    | none => rw [ei] at q3; exact q3.elim
    | some sl =>
      rw [ei] at q3
      cases sl with
      | own l =>
        obtain ⟨a, xs, f1, f2, f3, f4, f5⟩ := own_at rs3 ei
        rw [hv] at f1; cases f1
        cases u with
        | int j =>
          dsimp only at q3
          cases ej : ixN l.length j with
          | none => rw [ej] at q3; exact q3.elim
          | some n =>
            rw [ej] at q3
            cases rk
            obtain ⟨r4, l4⟩ := rs3.putOwn ei hv f4 (RpL.set rv3 n f5)
            exact .inl ⟨a, xs, j, n, rfl, rfl, f4, by rw [f5.len]; exact ej, q3.nx l4 r4⟩
        | _ => exact q3.elim
      | ownK l =>
        dsimp only at q3
        cases ek : keyT u with
        | none => rw [ek] at q3; exact q3.elim
        | some kk =>
          rw [ek] at q3
          dsimp only at q3
          by_cases hz : l.length < sizeLine
          · rw [if_pos hz] at q3
            obtain ⟨a, f1, f2, f3, kvs, f4, f5, f6⟩ := rs3.own i _ ei rfl
            rw [hv] at f1; cases f1
            have hkl : kvs.length = l.length := by have := congrArg List.length f5; simpa using this
            have oa : Lv O ρ3 s3.env σ a := .inr (.inr ⟨i, _, ei, rfl, hv⟩)
            obtain ⟨r4, l4⟩ := rs3.writeOwn (y := .ownK (putT l kk t)) (o := .dK (L2.putK kvs kk v)) ei rfl hv rfl trivial (fun b z => by rw [f4] at z; cases z) ⟨_, upd_same, putT_keys f5, (putT_vals rv3 f5 f6).kp (kp_upd oa) rs3.mut⟩
            refine .inr ⟨a, _, rfl, ?_, q3.nx l4 r4⟩
            rw [kV_of ek rk]
            exact DPut.k f4 (by rw [hkl]; exact hz)
          · rw [if_neg hz] at q3; exact q3.elim
      | _ => exact q3.elim
  | v t2 =>
    cases t2 with
    | ref n =>
      dsimp only at q3
      cases en : s3.sto[n]? with
      | none => rw [en] at q3; exact q3.elim
      | some c =>
        rw [en] at q3
        cases c with
        | ins c fs => exact q3.elim
        | lst l =>
          have ro := ok2.2
          cases ro with
          | ref fa =>
            rename_i a
            have fa3 := l3.pre _ _ fa
            cases u with
            | int j =>
              dsimp only at q3
              cases ej : ixN l.length j with
              | none => rw [ej] at q3; exact q3.elim
              | some m =>
                rw [ej] at q3
                cases rk
                obtain ⟨xs, f4, f5⟩ := rs3.cell n _ a en fa3
                obtain ⟨r4, l4⟩ := rs3.writeCell (c := .lst (l.set m t)) (o := .lst (xs.set m v)) fa3 trivial (fun b z => by rw [f4] at z; cases z) ⟨_, upd_same, (RpL.set rv3 m f5).kp (kp_upd (.inl (List.mem_of_getElem? fa3))) rs3.mut⟩
                exact .inl ⟨a, xs, j, m, rfl, rfl, f4, by rw [f5.len]; exact ej, q3.nx l4 r4⟩
            | _ => exact q3.elim
    | _ => exact q3.elim
  | l ts => exact q3.elim
  | k ts => exact q3.elim
  | d ts => exact q3.elim

/-! ### methods of own lists -/
theorem base_name {x m : Str} {p : Pos} {env : Env} {w : Sem Value} : attributeBase (.Name x p) m.toString env w = w := rfl
theorem few_of {e : Expr} {es : List Expr} {env : Env} {cpos : Pos} (h : (e :: es).all notStar = true) (hl : (e :: es).length < 30) : ((backTo cpos (starEach (e :: es) env)).all (fun x => !x.1) && (backToKw cpos (keywordEach [] env)).all (fun x => x.1.isSome)
      && decide ((e :: es).length + ([] : List Keyword).length + (if ([] : List Keyword).isEmpty then 0 else 1) < 30)) = true := by
  have key : ∀ es : List Expr, es.all notStar = true → (backTo cpos (starEach es env)).all (fun x => !x.1) = true := by
    intro es
    induction es with
    | nil => intro _; rfl
    | cons e es ih =>
      intro h
      rw [List.all_cons, Bool.and_eq_true] at h
      rw [starEach_of h.1]
      have := ih h.2
      simpa [backTo] using this
  rw [key _ h]
  have : decide ((e :: es).length + ([] : List Keyword).length + (if ([] : List Keyword).isEmpty then 0 else 1) < 30) = true := decide_eq_true (by simpa using hl)
  rw [this]
  rfl
/-- a method of an own list, with one argument -/
theorem meth1 (g : GX D G X sc) {x : Str} {nm : String} {id : String} {r : V → List V → Hp → VK → Prop} {e : IE} {ee : Expr} {px ap cp : Pos} (slot : PySem.Slot "list" nm id) (hty : typeOf (.builtin id) = pure (.type "method_descriptor")) (hm : MtR X id r) (hx : slotB X.N sc i x = true) (he : PE X ee (tF D G W e)) (hs : notStar ee = true) (hl : ap.endLine == cp.line) :
    PE X (.Call (.Attribute (.Name x px) nm ap) [ee] [] cp) (tBM X.K "list" r (tVar i) (nestT D G W [e])) := by
  obtain ⟨h1, h2, h3, h4⟩ := g.slot hx
  exact pe_bm PySem.F.plainAttrs_list slot hty hm (pe_var h1 h2 h3 h4) (snd_consN he snd_nilN hs) rfl (few_of (by simp [hs]) (by simp)) hl (starEach_of hs) rfl
theorem snd_mapp (g : GX D G X sc) {x : Str} {e : IE} {ee : Expr} {px ap cp q : Pos} (hx : slotB X.N sc i x = true) (he : PE X ee (tF D G W e)) (hs : notStar ee = true) (hl : ap.endLine == cp.line) :
    PS X (.Expr (.Call (.Attribute (.Name x px) "append" ap) [ee] [] cp) q) (tS D G W (.mapp i e)) := by
  refine (ps_expr (meth1 g PySem.F.slot_list_append PySem.F.type_list_append mt_append hx he hs hl) rfl).of fun E σ H ⟨O, ρ, s, rs, h⟩ => ?_
  simp only [ex] at h
  by_cases ho : ownL s i = true
  · rw [if_pos ho] at h
    obtain ⟨a, xs, l, a1, a2, a3, a4, a5, a6⟩ := ownL_at rs ho
    refine ⟨_, a2, .inl ⟨rfl, xs, SqL.of a5⟩, O, ρ, s, rs, (Fin.bind h).mono fun y s1 h1 v ρ1 H1 l1 ok1 => ?_⟩
    have q1 := h1 ρ1 H1 l1
    cases e1 : y.t with
    | none => rw [e1] at q1; exact q1.elim
    | some t =>
      rw [e1] at q1
      obtain ⟨rs1, rv⟩ := ok1.val e1
      cases e2 : s1.env[i]? with
      | none => rw [e2] at q1; exact q1.elim
      | some sl =>
        rw [e2] at q1
        cases sl with
        | own l' =>
          dsimp only at q1
          by_cases hz : l'.length < sizeLine
          · rw [if_pos hz] at q1
            obtain ⟨b, ys, f1, f2, f3, f4, f5⟩ := own_at rs1 e2
            rw [a2] at f1; cases f1
            obtain ⟨r4, l4⟩ := rs1.putOwn e2 a2 f4 (f5.append (.cons rv .nil))
            exact ⟨a, ys, v, rfl, rfl, f4, by rw [f5.len]; exact hz, q1.nx l4 r4⟩
          · rw [if_neg hz] at q1; exact q1.elim
        | _ => exact q1.elim
  · rw [if_neg ho] at h; exact h.elim
theorem snd_mext (g : GX D G X sc) {x : Str} {e : IE} {ee : Expr} {px ap cp q : Pos} (hx : slotB X.N sc i x = true) (he : PE X ee (tF D G W e)) (hs : notStar ee = true) (hl : ap.endLine == cp.line) :
    PS X (.Expr (.Call (.Attribute (.Name x px) "extend" ap) [ee] [] cp) q) (tS D G W (.mext i e)) := by
  refine (ps_expr (meth1 g PySem.F.slot_list_extend PySem.F.type_list_extend mt_extend hx he hs hl) rfl).of fun E σ H ⟨O, ρ, s, rs, h⟩ => ?_
  simp only [ex] at h
  by_cases ho : ownL s i = true
  · rw [if_pos ho] at h
    obtain ⟨a, xs, l, a1, a2, a3, a4, a5, a6⟩ := ownL_at rs ho
    refine ⟨_, a2, .inl ⟨rfl, xs, SqL.of a5⟩, O, ρ, s, rs, (Fin.bind h).mono fun y s1 h1 v ρ1 H1 l1 ok1 => ?_⟩
    have q1 := h1 ρ1 H1 l1
    cases e1 : y.t with
    | none => rw [e1] at q1; exact q1.elim
    | some t =>
      rw [e1] at q1
      obtain ⟨rs1, rv⟩ := ok1.val e1
      cases t with
      | lst m =>
        cases rv with
        | lst g1 g2 g3 =>
          rename_i b zs
          cases e2 : s1.env[i]? with
          | none => rw [e2] at q1; exact q1.elim
          | some sl =>
            rw [e2] at q1
            cases sl with
            | own l' =>
              dsimp only at q1
              by_cases hz : l'.length + m.length ≤ sizeLine
              · rw [if_pos hz] at q1
                obtain ⟨c, ys, f1, f2, f3, f4, f5⟩ := own_at rs1 e2
                rw [a2] at f1; cases f1
                obtain ⟨r4, l4⟩ := rs1.putOwn e2 a2 f4 (f5.append g3)
                exact ⟨a, b, ys, zs, rfl, rfl, f4, g1, by rw [f5.len, g3.len]; exact hz, q1.nx l4 r4⟩
              · rw [if_neg hz] at q1; exact q1.elim
            | _ => exact q1.elim
      | _ => exact q1.elim
  · rw [if_neg ho] at h; exact h.elim
end
end L2.TV

set_option maxHeartbeats 1000000
/-! remove on an own list. -/
namespace L2.TV
open PySem PySem.Spec PyProof.Rows
section
variable {D : Wd} {G : Cfg} {X : Cx} {sc : Scope} {W : WX'} {O O' O1 : OX} {ρ ρ' ρ0 ρ1 : List Addr} {env env' env0 : List Slot} {σ σ' σ0 : St} {H H0 H' H1 : Hp} {s s' s1 : S} {v : V} {r : Rt} {K : PySem.W.Frag} {L L' : Addr → Prop} {i : Nat}
open Classical in
/-- what == with data answers, by what is read of a value -/
noncomputable def eqRd (h : Heap) (x : PyData) (y : Value) : Bool := if e : ∃ d as, Reads h y d as ∧ d.canLay0 = true ∧ d.depth ≤ 64 then PyData.eqv e.choose x else false
theorem eqRd_of {h : Heap} {x d : PyData} {y : Value} {as : List Addr} (r : Reads h y d as) (c : d.canLay0 = true) (dp : d.depth ≤ 64) : eqRd h x y = PyData.eqv d x := by
  have e : ∃ d as, Reads h y d as ∧ d.canLay0 = true ∧ d.depth ≤ 64 := ⟨d, as, r, c, dp⟩
  unfold eqRd
  rw [dif_pos e]
  obtain ⟨as', r', c', _⟩ := e.choose_spec
  rw [(Reads.unique r' _ _ r).1]
theorem firstEq_ok {x : PyData} : ∀ {ds : List PyData} {j : Nat}, firstEq x ds = some j → (∃ d, ds[j]? = some d ∧ PyData.eqv d x = true) ∧ ∀ m d, m < j → ds[m]? = some d → PyData.eqv d x = false
  | [], _, e => by cases e
  | d :: ds, j, e => by
    unfold firstEq at e
    split at e
    · rename_i h
      cases e
      exact ⟨⟨d, rfl, h⟩, fun m _ hm => by omega⟩
    · rename_i h
      rw [Option.map_eq_some_iff] at e
      obtain ⟨j', e, rfl⟩ := e
      obtain ⟨⟨d', h1, h2⟩, h3⟩ := firstEq_ok e
      refine ⟨⟨d', by simpa using h1, h2⟩, fun m u hm hu => ?_⟩
      cases m with
      | zero =>
        simp at hu
        subst hu
        simpa using h
      | succ m => exact h3 m u (by omega) (by simpa using hu)
theorem readsAll_at {h : Heap} : ∀ {us : List Value} {ds : List PyData} {as : List Addr}, ReadsAll h us ds as → us.length = ds.length ∧ ∀ (m : Nat) (u : Value), us[m]? = some u → ∃ d bs, ds[m]? = some d ∧ Reads h u d bs
  | _, _, _, .nil => ⟨rfl, fun m u e => by simp at e⟩
  | _, _, _, .cons r t => by
    obtain ⟨h1, h2⟩ := readsAll_at t
    refine ⟨by simp [h1], fun m u e => ?_⟩
    cases m with
    | zero => simp at e; subst e; exact ⟨_, _, rfl, r⟩
    | succ m =>
      obtain ⟨d, bs, a1, a2⟩ := h2 m u (by simpa using e)
      exact ⟨d, bs, by simpa using a1, a2⟩
theorem lay_at : ∀ {ds : List PyData} {m : Nat} {d : PyData}, PyData.canLayAll0 ds = true → ds[m]? = some d → d.canLay0 = true ∧ d.depth ≤ PyData.depthAll ds
  | [], _, _, _, e => by simp at e
  | x :: ds, m, d, c, e => by
    simp only [PyData.canLayAll0, Bool.and_eq_true] at c
    simp only [PyData.depthAll]
    cases m with
    | zero => simp at e; subst e; exact ⟨c.1, Nat.le_max_left _ _⟩
    | succ m =>
      obtain ⟨h1, h2⟩ := lay_at c.2 (show ds[m]? = some d by simpa using e)
      exact ⟨h1, Nat.le_trans h2 (Nat.le_max_right _ _)⟩
def rRemD (K : PySem.W.Frag) : V → List V → Hp → VK → Prop := fun x xs H Q => ∃ (l : Addr) (vs : List V) (y : V) (d : PyData) (ds : List PyData) (j : Nat), x = .ref l ∧ xs = [y] ∧ H l = some (.lst vs) ∧ Dp K H y d ∧ DpAll K H vs ds ∧ SeqAt.shaped d = true ∧ SeqAt.shaped (.list ds) = true ∧
  firstEq d ds = some j ∧ Q .non (upd H l (.lst (vs.eraseIdx j)))
theorem mt_remD (hu : X.A.units + 66 < cLine) : MtM X "list.remove" (rRemD X.K) := by
  intro pins s σ H x xs v us Q I rx rxs h
  obtain ⟨l, vs, y, d, ds, j, rfl, rfl, hH, hd, hds, sd, sds, hj, q⟩ := h
  cases rx
  obtain ⟨u, rfl, ru⟩ := rxs.one
  obtain ⟨z, its, n, r, hl, e⟩ := I.lstM hH
  obtain ⟨as, rd⟩ := Dp.reads I d y u hd ru
  obtain ⟨bs, rds⟩ := Dp.readsAll I ds vs its hds r
  obtain ⟨ln, at'⟩ := readsAll_at rds
  obtain ⟨⟨dj, j1, j2⟩, j3⟩ := firstEq_ok hj
  have jl : j < its.length := by rw [ln]; exact (List.getElem?_eq_some_iff.mp j1).1
  have lay : ∀ {m : Nat} {d' : PyData}, ds[m]? = some d' → d'.canLay0 = true ∧ d'.depth ≤ 64 := fun hm => by
    obtain ⟨h1, h2⟩ := lay_at (shaped_tl sds) hm
    have h3 := SeqAt.depth_of_shaped sds
    simp only [PyData.depth] at h3
    exact ⟨h1, by omega⟩
  refine call_meets PySem.F.slot_list_remove ⟨_, e, rfl⟩ PySem.F.entry_list_remove (PySem.F.args_list_remove_2 _ _)
    (SeqAt.list_removeAt l its.toArray n none #[] u (eqRd s.heap d) j (by simpa using jl) ?_ ?_ (by simp; omega)) ⟨e, ?_, ?_⟩
  · obtain ⟨d', b', a1, a2⟩ := at' j _ (List.getElem?_eq_getElem jl)
    rw [j1] at a1; cases a1
    have := eqRd_of (x := d) a2 (lay j1).1 (lay j1).2
    simpa [this] using j2
  · intro m hm hmj
    have ml : m < its.length := by simpa using hm
    obtain ⟨d', b', a1, a2⟩ := at' m _ (List.getElem?_eq_getElem ml)
    have := eqRd_of (x := d) a2 (lay a1).1 (lay a1).2
    simpa [this] using j3 m d' hmj a1
  · intro w hw
    obtain ⟨m, ml, em⟩ := List.getElem_of_mem (show w ∈ its by simpa using hw)
    obtain ⟨d', b', a1, a2⟩ := at' m w (by rw [List.getElem?_eq_getElem ml, em])
    rw [eqRd_of a2 (lay a1).1 (lay a1).2]
    refine SeqAt.eqAt_reads d' d _ _ _ _ _ _ a2 rd (lay a1).1 (SeqAt.canLay_of_shaped sd) ?_
    have := (lay a1).2
    have : min d'.depth d.depth ≤ d'.depth := Nat.min_le_left _ _
    have hin : X.A.in1.units = X.A.units ∨ X.A.in1.units = X.A.units + 1 := by first | exact .inl rfl | exact .inr rfl
    rcases hin with e1 | e1 <;> (show _ + _ < _ <;> omega)
  · refine ⟨.non, _, I.lset (its' := its.eraseIdx j) (t' := s.toks) hH e ?_ (r.eraseIdx j) ?_, rfl, q⟩
    · show its.toArray.eraseIdxIfInBounds j = (its.eraseIdx j).toArray
      rw [List.eraseIdxIfInBounds_toArray]
    · have z2 := len_erase vs j
      omega
theorem snd_mrem (g : GX D G X sc) {x : Str} {e : IE} {ee : Expr} {px ap cp q : Pos} (hx : slotB X.N sc i x = true) (he : PE X ee (tF D G W e)) (hs : notStar ee = true) (hl : ap.endLine == cp.line) :
    PS X (.Expr (.Call (.Attribute (.Name x px) "remove" ap) [ee] [] cp) q) (tS D G W (.mrem i e)) := by
  have hu : X.A.units + 66 < cLine := by have := g.un; omega
  refine (ps_expr (meth1 g PySem.F.slot_list_remove PySem.F.type_list_remove (mt_remD hu) hx he hs hl) rfl).of fun E σ H ⟨O, ρ, s, rs, h⟩ => ?_
  simp only [ex] at h
  by_cases ho : ownL s i = true
  · rw [if_pos ho] at h
    obtain ⟨a, xs, l, a1, a2, a3, a4, a5, a6⟩ := ownL_at rs ho
    refine ⟨_, a2, .inl ⟨rfl, xs, SqL.of a5⟩, O, ρ, s, rs, (Fin.bind h).mono fun y s1 h1 v ρ1 H1 l1 ok1 => ?_⟩
    have q1 := h1 ρ1 H1 l1
    cases e1 : y.t with
    | none => rw [e1] at q1; exact q1.elim
    | some t =>
      rw [e1] at q1
      obtain ⟨rs1, rv⟩ := ok1.val e1
      cases e2 : s1.env[i]? with
      | none => rw [e2] at q1; exact q1.elim
      | some sl =>
        rw [e2] at q1
        cases sl with
        | own l' =>
          dsimp only at q1
          obtain ⟨b, ys, f1, f2, f3, f4, f5⟩ := own_at rs1 e2
          rw [a2] at f1; cases f1
          cases e3 : remT t l' with
          | none => rw [e3] at q1; exact q1.elim
          | some m =>
            rw [e3] at q1
            unfold remT at e3
            split at e3
            · rename_i d ds c1 c2
              split at e3
              · rename_i hz
                rw [Option.map_eq_some_iff] at e3
                obtain ⟨j, e3, rfl⟩ := e3
                have f5' : RpL D.K ρ1 (Lv O ρ1 s1.env σ) H1 (ys.eraseIdx j) (l'.eraseIdx j) := by
                  rw [List.eraseIdx_eq_take_drop_succ, List.eraseIdx_eq_take_drop_succ]
                  exact (f5.take j).append (f5.drop (j + 1))
                obtain ⟨r4, l4⟩ := rs1.putOwn e2 a2 f4 f5'
                exact ⟨a, ys, v, d, ds, j, rfl, rfl, f4, g.hK ▸ rv.dp c1 (SeqAt.canLay_of_shaped hz.1), g.hK ▸ f5.dp c2 (shaped_tl hz.2), hz.1, hz.2, e3, q1.nx l4 r4⟩
              · cases e3
            · cases e3
        | _ => exact q1.elim
  · rw [if_neg ho] at h
    exact h.elim
/-! ### dict displays -/
def keIR : KE → IE
  | .s x => .str x | .i i => .int i | .c x => .cst x
def tKV (D : Wd) (G : Cfg) (W : WX') (vs : List IE) (ks : List KE) : St → Hp → (List (Key × V) → Hp → Prop) → Prop := fun σ H Q => ∃ O ρ s, RS D.K D.cls O ρ s σ H ∧ Out D W O ρ s.env σ H (evKV G vs ks s) fun kvs s' => ∀ (ys : List (Key × V)) ρ' H', Le ρ s.env σ H ρ' s'.env σ H' → RS D.K D.cls O ρ' s' σ H' →
  ys.map (·.1) = kvs.map (·.1) → RpL D.K ρ' (Lv O ρ' s'.env σ) H' (ys.map (·.2)) (kvs.map (·.2)) → Q ys H'
theorem Out.later {α : Type} {r : R α} {P P' : α → S → Prop} (h : Out D W O ρ env σ H r P) (l : Le ρ env σ H ρ1 env' σ H1) (f : ∀ a s', P a s' → P' a s') : Out D W O ρ1 env' σ H1 r P' := by
  cases r with
  | ok a s2 => exact f a s2 h
  | err c fs s2 => exact fun ρ' H' cv d l' x => h ρ' H' cv d (l.trans l') x
  | bad => exact h
theorem keyT_rp {L : Addr → Prop} {t : T} {kk : Key} (h : keyT t = some kk) (r : Rp K ρ L H v t) : v = kV kk := by
  cases t <;> simp only [keyT] at h <;> first | cases h | skip
  · cases r; rfl
  · cases r; rfl
theorem keyE_ev {k : KE} {kk : Key} (h : keyE G k = some kk) (s : S) : ∃ t, ev G (keIR k) s = .ok (.v t) s ∧ keyT t = some kk := by
  cases k with
  | s x => simp only [keyE, Option.some.injEq] at h; subst h; exact ⟨.str (Str.ofString x), by simp only [keIR, ev], rfl⟩
  | i i => simp only [keyE, Option.some.injEq] at h; subst h; exact ⟨.int i, by simp only [keIR, ev], rfl⟩
  | c x =>
    simp only [keyE, Option.bind_eq_some_iff] at h
    obtain ⟨t, e, h⟩ := h
    exact ⟨t, by simp only [keIR, ev, e], h⟩
theorem pairs_of : ∀ {vs : List IE} {ks : List KE} {σ : St} {H : Hp} {Q : List (V × V) → Hp → Prop}, tKV D G W vs ks σ H (fun ys H' => Q (ys.map fun kv => (kV kv.1, kv.2)) H') → tPairs ((ks.zip vs).map fun p => (tF D G W (keIR p.1), tF D G W p.2)) σ H Q
  | [], [], σ, H, Q, ⟨O, ρ, s, rs, h⟩ => by
    simp only [evKV] at h
    exact h [] ρ H Le.refl rs rfl .nil
  | v :: vs, k :: ks, σ, H, Q, ⟨O, ρ, s, rs, h⟩ => by
    simp only [evKV] at h
    cases ek : keyE G k with
    | none => rw [ek] at h; exact h.elim
    | some kk =>
      rw [ek] at h
      obtain ⟨t, e1, e2⟩ := keyE_ev ek s
      refine ⟨O, ρ, s, rs, ?_⟩
      show Out D W O ρ s.env σ H (ev G (keIR k) s) _
      rw [e1]
      intro v1 ρ1 H1 l1 ok1
      have hv1 := keyT_rp e2 ok1.2
      subst hv1
      -- the value, from where the key was reckoned
      refine ⟨O, ρ1, s, ok1.1, ?_⟩
      dsimp only at h
      have h1 := Out.later h l1 (P' := fun kvs s' => ∀ (ys : List (Key × V)) ρ' H', Le ρ1 s.env σ H1 ρ' s'.env σ H' → RS D.K D.cls O ρ' s' σ H' →
            ys.map (·.1) = kvs.map (·.1) → RpL D.K ρ' (Lv O ρ' s'.env σ) H' (ys.map (·.2)) (kvs.map (·.2)) → Q (ys.map fun kv => (kV kv.1, kv.2)) H') fun a s' hp ys ρ' H' l' => hp ys ρ' H' (l1.trans l')
      refine (Out.bind h1).mono fun y s2 h2 w ρ2 H2 l2 ok2 => ?_
      have q2 := h2 ρ2 H2 l2
      cases e3 : y.t with
      | none => rw [e3] at q2; exact q2.elim
      | some u =>
        rw [e3] at q2
        obtain ⟨rs2, rw2⟩ := ok2.val e3
        refine pairs_of (vs := vs) (ks := ks) ⟨O, ρ2, s2, rs2, (Out.bind q2).mono fun kvs s3 h3 ys ρ3 H3 l3 rs3 ey rv => ?_⟩
        have q3 := h3 ρ3 H3 l3 ((kk, w) :: ys) ρ3 H3 (l2.trans l3) rs3 (by simp [ey]) (.cons (rw2.le rs2 l3) rv)
        exact q3
  | [], k :: ks, σ, H, Q, ⟨O, ρ, s, rs, h⟩ => by simp only [evKV] at h; exact h.elim
  | v :: vs, [], σ, H, Q, ⟨O, ρ, s, rs, h⟩ => by simp only [evKV] at h; exact h.elim
theorem snd_dispK (g : GX D G X sc) {vs : List IE} {ks : List KE} {keys : List (Option Expr)} {values : List Expr} {p : Pos} (hp : PPs X p keys values ((ks.zip vs).map fun p => (tF D G W (keIR p.1), tF D G W p.2))) (hall : keys.all (·.isSome) = true) (hl : keys.length = values.length) (h0 : keys ≠ []) (h15 : keys.length ≤ 15) :
    PE X (.Dict keys values p) (tF D G W (.dispK vs ks)) := by
  refine (pe_disp hp hall hl h0 h15).of fun σ H Q ⟨O, ρ, s, rs, h⟩ p hp => ?_
  simp only [ev] at h
  have nOp : ¬ O p := fun z => by
    obtain ⟨_, o, e, _⟩ := rs.out p z
    rw [hp] at e; cases e
  have rs0 := rs.fresh (o := .dK []) hp trivial
  have l0 : Le ρ s.env σ H ρ s.env σ (upd H p (.dK [])) := Le.updNew Le.refl hp
  have h1 : Out D W (OX.add O p) ρ s.env σ (upd H p (.dK [])) (evKV G vs ks s) fun kvs s1 => ∀ ρ1 H1, Le ρ s.env σ H ρ1 s1.env σ H1 → Out D W O ρ1 s1.env σ H1 (if kvs.length ≤ 15 then .ok (.k (mergeT [] kvs)) s1 else .bad) fun r s' => ∀ v ρ' H', Le ρ s.env σ H ρ' s'.env σ H' → RtOk D O ρ' s' σ H H' v r → Q v H' := by
    have h2 := Out.bind h
    revert h2
    generalize evKV G vs ks s = RR
    intro h2
    cases RR with
    | ok a s2 => exact h2
    | bad => exact h2
    | err c fs s2 =>
      intro ρ' H' cv d l' x
      obtain ⟨q, C, e1, e2, e3⟩ := x
      refine h2 ρ' H' cv d (l0.trans l') ⟨q.sub fun a z => .inl z, C, e1, e2, e3.imp id fun ⟨x, gs, a1, a2, a3, a4⟩ => ⟨x, gs, a1, a2, a3, a4.sub (Lv.sub fun a z => .inl z)⟩⟩
  refine pairs_of ⟨OX.add O p, ρ, s, rs0, h1.mono fun kvs s1 h2 ys ρ1 H1 l1 rs1 ey rv => ?_⟩
  have hD := rs0.keepO l1 upd_same
  have q := h2 ρ1 H1 (l0.trans l1)
  by_cases hz : kvs.length ≤ 15
  · rw [if_pos hz] at q
    have yl : ys.length = kvs.length := by have := congrArg List.length ey; simpa using this
    refine ⟨hD, ys, rfl, by omega, ?_⟩
    obtain ⟨m1, m2⟩ := mergeT_of (kvs := []) (ts := []) ey rv rfl .nil
    have rs2 := rs1.writeO (o := .dK (mergeK [] ys)) (.inr rfl) trivial (fun b e => by rw [hD] at e; cases e)
    have le2 : Le ρ s.env σ H ρ1 s1.env σ (upd H1 p (.dK (mergeK [] ys))) := Le.updNew (l0.trans l1) hp
    refine q (.ref p) ρ1 _ le2 ⟨p, mergeK [] ys, rfl, hp, nOp, rs2, upd_same, m1, ?_⟩
    refine m2.kp ⟨fun _ _ h => h, fun a u e n => ?_, fun _ l => .inl l⟩ rs1.mut
    rw [upd_ne fun z => n (.inr (.inl (.inr z)))]; exact e
  · rw [if_neg hz] at q; exact q.elim
theorem snd_dead {st : Stmt} : PS X st (tS D G W .dead) := ⟨fun pins s σ H E I ⟨O, ρ, s', rs, h⟩ => by simp only [ex] at h; exact h.elim⟩
end
end L2.TV

set_option maxHeartbeats 1000000
/-! pop, loops. -/
namespace L2.TV
open PySem PySem.Spec PyProof.Rows
section
variable {D : Wd} {G : Cfg} {X : Cx} {sc : Scope} {W : WX'} {O O' O1 O2 : OX} {ρ ρ' ρ0 ρ1 : List Addr} {env env' env0 : List Slot} {σ σ' σ0 : St} {H H0 H' H1 : Hp} {s s' s1 : S} {v : V} {r : Rt} {K : PySem.W.Frag} {L L' : Addr → Prop} {i : Nat}
theorem RpL.dropLast {xs : List V} {ts : List T} (r : RpL K ρ L H xs ts) : RpL K ρ L H xs.dropLast ts.dropLast := by
  rw [List.dropLast_eq_take, List.dropLast_eq_take, r.len]
  exact r.take _
theorem RpL.eraseIdx {xs : List V} {ts : List T} (n : Nat) (r : RpL K ρ L H xs ts) : RpL K ρ L H (xs.eraseIdx n) (ts.eraseIdx n) := by
  rw [List.eraseIdx_eq_take_drop_succ, List.eraseIdx_eq_take_drop_succ]
  exact (r.take n).append (r.drop (n + 1))
theorem snd_pop0 (g : GX D G X sc) {x : Str} {px ap cp : Pos} (hx : slotB X.N sc i x = true) (hl : ap.endLine == cp.line) : PE X (.Call (.Attribute (.Name x px) "pop" ap) [] [] cp) (tF D G W (.pop i none)) := by
  obtain ⟨h1, h2, h3, h4⟩ := g.slot hx
  refine (pe_bm0 PySem.F.plainAttrs_list PySem.F.slot_list_pop PySem.F.type_list_pop mt_pop (pe_var h1 h2 h3 h4) rfl hl).of fun σ H Q ⟨O, ρ, s, rs, h⟩ => ?_
  simp only [ev] at h
  by_cases ho : ownL s i = true
  · rw [ho] at h
    simp only [Bool.not_true, Bool.false_eq_true, if_false] at h
    obtain ⟨a, xs, l, a1, a2, a3, a4, a5, a6⟩ := ownL_at rs ho
    rw [a1] at h
    dsimp only at h
    cases e : l.getLast? with
    | none => rw [e] at h; exact h.elim
    | some t =>
      rw [e] at h
      rw [List.getLast?_eq_getElem?] at e
      obtain ⟨y, e1, e2⟩ := a6.get e
      obtain ⟨r4, l4⟩ := rs.putOwn a1 a2 a5 a6.dropLast
      refine ⟨_, a2, .inl ⟨rfl, xs, SqL.of a5⟩, a, xs, y, rfl, rfl, a5, by rw [a6.len]; exact e1, ?_⟩
      exact h y ρ _ l4 ⟨r4, e2.le rs l4⟩
  · have ho' : ownL s i = false := by simpa using ho
    rw [ho'] at h
    exact h.elim
theorem snd_pop1 (g : GX D G X sc) {x : Str} {e : IE} {ee : Expr} {px ap cp : Pos} (hx : slotB X.N sc i x = true) (he : PE X ee (tF D G W e)) (hs : notStar ee = true) (hl : ap.endLine == cp.line) : PE X (.Call (.Attribute (.Name x px) "pop" ap) [ee] [] cp) (tF D G W (.pop i (some e))) := by
  refine (meth1 g PySem.F.slot_list_pop PySem.F.type_list_pop mt_popAt hx he hs hl).of fun σ H Q ⟨O, ρ, s, rs, h⟩ => ?_
  simp only [ev] at h
  by_cases ho : ownL s i = true
  · rw [ho] at h
    simp only [Bool.not_true, Bool.false_eq_true, if_false] at h
    obtain ⟨a, xs, l, a1, a2, a3, a4, a5, a6⟩ := ownL_at rs ho
    refine ⟨_, a2, .inl ⟨rfl, xs, SqL.of a5⟩, O, ρ, s, rs, (Out.bind h).mono fun y s1 h1 v ρ1 H1 l1 ok1 => ?_⟩
    have q1 := h1 ρ1 H1 l1
    cases e1 : y.t with
    | none => rw [e1] at q1; exact q1.elim
    | some t =>
      rw [e1] at q1
      obtain ⟨rs1, rv⟩ := ok1.val e1
      cases t with
      | int k =>
        cases rv
        cases e2 : s1.env[i]? with
        | none => rw [e2] at q1; exact q1.elim
        | some sl =>
          rw [e2] at q1
          cases sl with
          | own l' =>
            dsimp only at q1
            by_cases hk : 0 ≤ k ∧ k < 2 ^ 63
            · rw [if_pos hk] at q1
              cases e3 : l'[k.toNat]? with
              | none => rw [e3] at q1; exact q1.elim
              | some u =>
                rw [e3] at q1
                obtain ⟨b, ys, f1, f2, f3, f4, f5⟩ := own_at rs1 e2
                rw [a2] at f1; cases f1
                obtain ⟨y', g1, g2⟩ := f5.get e3
                have hlt : k.toNat < ys.length := (List.getElem?_eq_some_iff.mp g1).1
                obtain ⟨r4, l4⟩ := rs1.putOwn e2 a2 f4 (f5.eraseIdx k.toNat)
                refine ⟨a, ys, k, k.toNat, y', rfl, rfl, f4, by omega, hk.2, seqIndex_of hk.1 (by omega), g1, q1 y' ρ1 _ (l1.trans l4) ⟨r4, g2.le rs1 l4⟩⟩
            · rw [if_neg hk] at q1; exact q1.elim
          | _ => exact q1.elim
      | _ => exact q1.elim
  · have ho' : ownL s i = false := by simpa using ho
    rw [ho'] at h
    exact h.elim

/-! ### loops -/
theorem Fin.loop {E : Ends} {r : R Fl} {f : S → R Fl} {N : St → Hp → Prop} (h : Fin D W O E ρ env σ H (r.bind fun fl s1 => match fl with | .nx => f s1 | .ct => f s1 | .bk => .ok .nx s1 | .ret t => .ok (.ret t) s1))
    (hn : ∀ ρ1 s1 σ1 H1, Le ρ env σ H ρ1 s1.env σ1 H1 → RS D.K D.cls O ρ1 s1 σ1 H1 → Fin D W O E ρ1 s1.env σ1 H1 (f s1) → N σ1 H1) : Fin D W O { E with nx := N, ct := N, bk := E.nx } ρ env σ H r := by
  cases r with
  | bad => exact h
  | err c fs s => exact h
  | ok fl s1 => cases fl with
    | nx => exact fun ρ1 σ1 H1 l r => hn ρ1 s1 σ1 H1 l r (Fin.from h l)
    | ct => exact fun ρ1 σ1 H1 l r => hn ρ1 s1 σ1 H1 l r (Fin.from h l)
    | bk => exact h
    | ret t => exact h
theorem snd_for (g : GX D G X sc) (hp : PassesOwn (model X.prog X.w) X.A X.env X.xe) {tg : Tg} {src : Src} {body : List IS} {etg eiter : Expr} {sb : List Stmt} {q : Pos} (hi : PI X etg eiter (tSrc D G W src)) (ht : isTg X.N sc tg etg = true) (hb : PSs X sb (tSs D G W body)) (hf : foldPlain eiter = true) :
    PS X (.For etg eiter sb [] q) (tS D G W (.for_ tg src body)) := by
  refine (ps_for hp g.calm hi (snd_tg g tg etg ht) hb (fun x => fold_of hf)).of fun E σ H ⟨O, ρ, s, rs, h⟩ => ?_
  simp only [ex] at h
  refine ⟨O, ρ, s, rs, (Fin.bind h).mono fun ts s1 h1 J ρ1 H1 l1 rs1 walk => ?_⟩
  have q := h1 ρ1 H1 l1
  generalize hbf : (fun s => exs G body s) = bf at q
  refine ⟨fun i m σ' H' => m = ts.length - i ∧ i ≤ ts.length ∧ ∃ ρ' s', RS D.K D.cls O ρ' s' σ' H' ∧ Le ρ1 s1.env σ H1 ρ' s'.env σ' H' ∧ Fin D W O E ρ' s'.env σ' H' (forT bf tg (ts.drop i) s'), ⟨ts.length, by simp, Nat.zero_le _, ρ1, s1, rs1, Le.refl, q⟩, ?_⟩
  rintro i m σ2 H2 ⟨rfl, hi', ρ2, s2, rs2, l2, f2⟩
  obtain ⟨wstop, wgo⟩ := walk ρ2 _ H2 (l2.kpO (O := O)) rs2.mut
  by_cases hlt : i < ts.length
  · refine .inr ⟨(wgo i hlt).1, fun σ' H' => ∃ ρ' s', RS D.K D.cls O ρ' s' σ' H' ∧ Le ρ1 s1.env σ H1 ρ' s'.env σ' H' ∧ Fin D W O E ρ' s'.env σ' H' (forT bf tg (ts.drop (i + 1)) s'), fun σ' H' nx => ⟨ts.length - (i + 1), by omega, rfl, hlt, nx⟩, fun x H3 y => ?_⟩
    have hdrop : ts.drop i = ts[i] :: ts.drop (i + 1) := List.drop_eq_getElem_cons hlt
    rw [hdrop] at f2
    obtain ⟨t', ht', sm, rx⟩ := (wgo i hlt).2 x H3 y
    rw [List.getElem?_eq_getElem hlt] at ht'
    cases ht'
    unfold forT at f2
    cases hbd : bindTg tg ts[i] s2.env with
    | none => rw [hbd] at f2; exact f2.elim
    | some env =>
      rw [hbd] at f2
      dsimp only at f2
      have rs3 := rs2.same sm
      refine bind_ok g tg ts[i] tg.slots s2 σ2 H3 x env _ (fun _ z => z) rs3 rx hbd fun σ3 _ rs4 l4 => ?_
      have l3 := l2.trans ((Le.same sm).trans l4)
      refine ⟨O, ρ2, _, rs4, ?_⟩
      rw [← hbf] at f2
      have f3 := Fin.from f2 ((Le.same sm).trans l4)
      rw [← hbf]
      exact Fin.loop (E := E) (f := fun s1 => forT (fun s => exs G body s) tg (ts.drop (i + 1)) s1) f3 fun ρ5 s5 σ5 H5 l5 r5 f5 => ⟨ρ5, s5, r5, l3.trans l5, f5⟩
  · have hi2 : i = ts.length := by omega
    subst hi2
    rw [List.drop_length] at f2
    unfold forT at f2
    exact .inl ⟨wstop, f2.nx Le.refl rs2⟩
theorem snd_whl (g : GX D G X sc) (hp : PassesOwn (model X.prog X.w) X.A X.env X.xe) {c : IE} {body : List IS} {ec : Expr} {sb : List Stmt} {q : Pos} (hc : PT X ec (tFb D G W c)) (hb : PSs X sb (tSs D G W body)) : PS X (.While ec sb [] q) (tS D G W (.whl c body)) := by
  refine (ps_while hp hc hb).of fun E σ H ⟨O, ρ, s, rs, h⟩ => ?_
  simp only [ex] at h
  generalize G.fuel = n at h
  refine ⟨fun m σ' H' => ∃ ρ' s', RS D.K D.cls O ρ' s' σ' H' ∧ Fin D W O E ρ' s'.env σ' H' (whlT (fun s => evB G c s) (fun s => exs G body s) m s'), ⟨n, ρ, s, rs, h⟩, ?_⟩
  rintro m σ2 H2 ⟨ρ2, s2, rs2, f2⟩
  cases m with
  | zero => unfold whlT at f2; exact f2.elim
  | succ m =>
    unfold whlT at f2
    refine ⟨O, ρ2, s2, rs2, (Fin.bind f2).mono fun k s3 h3 ρ3 H3 l3 rs3 => ?_⟩
    have q3 := h3 ρ3 H3 l3
    cases k with
    | false =>
      simp only [Bool.false_eq_true, if_false] at q3 ⊢
      exact q3.nx Le.refl rs3
    | true =>
      simp only [if_true] at q3 ⊢
      refine ⟨fun σ' H' => ∃ ρ' s', RS D.K D.cls O ρ' s' σ' H' ∧ Fin D W O E ρ' s'.env σ' H' (whlT (fun s => evB G c s) (fun s => exs G body s) m s'), fun σ' H' nx => ⟨m, Nat.lt_succ_self m, nx⟩, O, ρ3, s3, rs3, ?_⟩
      exact Fin.loop (E := E) (f := fun s1 => whlT (fun s => evB G c s) (fun s => exs G body s) m s1) q3 fun ρ5 s5 σ5 H5 l5 r5 f5 => ⟨ρ5, s5, r5, f5⟩
end
end L2.TV

set_option maxHeartbeats 1000000
/-! Dict comprehensions whose keys are tuples of ints and texts. -/
namespace L2
open PySem PySem.Spec PyProof.Rows
section
variable {X : Cx} {pn : List (Addr × Obj)}
/-- one entry stored by a comprehension, the key a tracked tuple -/
theorem dcSetT {τ : St} {M : Hp} {t : Shared} {E : Value → Shared → Prop} {D q : Addr} {kvs : List (List Key × V)} {k : List Key} {v : V} {r : Value} {Q : Unit → Shared → Prop} (hu : X.A.units < cLine) (I : Inv X pn τ M t)
    (hq : M q = some (.tup (k.map kV))) (hD : M D = some (.dT kvs)) (hz : kvs.length < sizeLine) (rv : RelV v r) (h : ∀ t', Inv X pn τ (upd M D (.dT (putK kvs k v))) t' → Q () t') : wpAny (model X.prog X.w) X.A (dictSet D (.ref q) r) Q E t := by
  obtain ⟨z, nd, xs, rel, dd⟩ := dt_of I.hok hD
  have hx : xs.length ≤ sizeLine := (Paired.length rel) ▸ z
  have hp : (putK kvs k v).length ≤ sizeLine := Nat.le_trans (length_putK kvs k v) hz
  have ro : (tupleKind (mixKind X.prog X.w)).room X.A := hu
  refine wpAny_dictSet_heap (hsz := hx) ro (key_of I.hok hq) dd fun g dd' hs => h _ ?_
  obtain ⟨ob, es, ep, ho, c2, c3, c4, _, c5⟩ := dd'
  have ne : ∀ b ys, M b = some (.tup ys) → upd M D (.dT (putK kvs k v)) b = some (.tup ys) := fun b ys e => (upd_ne (ne_of e hD (fun z => nomatch z))).trans e
  exact d_write I (by rw [hD]; exact True.intro) hs ⟨ob, ho⟩ ⟨hp, nd, _, (rel.put k hq rv).keeps ne, ob, es, ep, ho, c2, c3, c4, c5⟩
/-- D: the new dict -/
def tDcT (wi : TI) (g : TG) (tt : TT) (tk tv : TE) (own : List Nat) : TE := fun σ H Q => wi σ H fun J M => ∀ D, M D = none → ∃ B : Nat → Nat → Hp → Prop, (∃ n, B 0 n (upd M D (.dT []))) ∧ ∀ j n M', B j n M' →
  (J.stop j M' ∧ Q (.ref D) M') ∨ (J.go j M' ∧ ∃ Y : Hp → Prop, (∀ G, Y G → ∃ n', n' < n ∧ B (j + 1) n' G) ∧ ∀ x G, J.yld j M' x G → g x (wipe σ own) G fun σ2 G2 => wipe σ2 own = wipe σ own ∧ tt σ2 G2 fun b G3 =>
    if b = true then tk σ2 G3 fun y G4 => tv σ2 G4 fun z G5 => ∃ kvs k, (∃ q, y = .ref q ∧ G5 q = some (.tup (k.map kV))) ∧ G5 D = some (.dT kvs) ∧ kvs.length < sizeLine ∧ Y (upd G5 D (.dT (putK kvs k z))) else Y G3)
theorem pe_dcT {kx vx tg iter : Expr} {ifs : List Expr} {sc : Scope} {own : List (Str × Nat)} {pos : Pos} {wi : TI} {g : TG} {tt : TT} {tk tv : TE} (hu : X.A.units < cLine) (hc : X.calm = true) (nd : X.N.Nodup) (pi : PI X tg iter wi) (ok : BlkOk X.N X.env.scope sc own)
    (p1 : ∀ (s : Shared) (H : Hp) (C : Addr) (cl : List (Str × Addr)) (fp : List Addr), PG (X.blk s H sc (compEnvC sc cl C X.env) fp) tg g) (p2 : ∀ (s : Shared) (H : Hp) (C : Addr) (cl : List (Str × Addr)) (fp : List Addr), PTs (X.blk s H sc (compEnvC sc cl C X.env) fp) ifs tt)
    (p3 : ∀ (s : Shared) (H : Hp) (C : Addr) (cl : List (Str × Addr)) (fp : List Addr), PE (X.blk s H sc (compEnvC sc cl C X.env) fp) kx tk) (p4 : ∀ (s : Shared) (H : Hp) (C : Addr) (cl : List (Str × Addr)) (fp : List Addr), PE (X.blk s H sc (compEnvC sc cl C X.env) fp) vx tv)
    (hf : ∀ x, foldedSetIterable iter X.env x = pure x) : PE X (.DictComp kx vx [⟨tg, iter, ifs, 0⟩] sc pos) (tDcT wi g tt tk tv (own.map (·.2))) := by
  refine ⟨fun pins t0 σ H Q I0 hw => ?_⟩
  rw [arm_eval_DictComp]
  have fr : ∀ y ∈ sc.names, y.2 = .free → ∃ c, X.env.cells.lookup y.1 = some c := fun y hy e => (ok.free y hy e).elim (fun k => I0.ok.has _ (.inl k)) fun k => I0.ok.has _ (.inr k)
  refine wpAny_comprehension_free (use := none) rfl hf (closure_ok fr) ok.kind (fun y hy e => by rw [ok.uniq y hy, e]) (thn (pi.run pins t0 σ H _ I0 hw) fun vx0 t1 h1 => thn h1 fun vit t2 h2 => ?_)
  obtain ⟨it, fp, tn, J, M, ev, I2, T, a2, f2, q⟩ := h2
  subst ev
  refine wpAny_newObj_type (newEnv_comp ?_)
  generalize eD : t2.heap.objs.size = D
  have nD : M D = none := I2.hok.fresh (Nat.le_of_eq eD)
  obtain ⟨B, ⟨n0, b0⟩, step⟩ := q D nD
  generalize e3 : ({ t2 with heap := t2.heap.push { cls := .type "dict", data := .dict #[] } } : Shared) = t3
  have hp3 : t3.heap = t2.heap.push { cls := .type "dict", data := .dict #[] } := by rw [← e3]
  have I3 : Inv X pins σ (upd M D (.dT [])) t3 := by
    rw [← e3]
    exact I2.laid (t' := t2.toks) (fun b o e => Heap.get?_push_of_some _ e) (Nat.le_of_eq eD) (eD ▸ dt_empty t2.heap I2.big)
  have lt : ∀ b ∈ fp, b < t2.heap.objs.size := fun b hb => (T.obj _ _ a2 b hb).elim fun o e => Heap.lt_size e.1
  have f3 : ∀ b ∈ fp, FpOk X pins (upd M D (.dT [])) b ∧ b < t3.heap.objs.size := fun b hb =>
    ⟨⟨(upd_ne (eD ▸ Nat.ne_of_lt (lt b hb))).trans (f2 b hb).1, (f2 b hb).2⟩, by rw [hp3, Heap.size_push]; exact Nat.lt_succ_of_lt (lt b hb)⟩
  have a3 : tn 0 t3.heap := T.keep _ _ _ a2 fun b _ o e => hp3 ▸ Heap.get?_push_of_some _ e
  have I4 := block_start I3 ok nd f3
  have r1 := p1 t3 (upd M D (.dT [])) t3.heap.objs.size (cellsFrom (t3.heap.objs.size + 1) sc.names (cloFrom X.env.cells sc.names [])) fp
  have r2 := p2 t3 (upd M D (.dT [])) t3.heap.objs.size (cellsFrom (t3.heap.objs.size + 1) sc.names (cloFrom X.env.cells sc.names [])) fp
  have r3 := p3 t3 (upd M D (.dT [])) t3.heap.objs.size (cellsFrom (t3.heap.objs.size + 1) sc.names (cloFrom X.env.cells sc.names [])) fp
  have r4 := p4 t3 (upd M D (.dT [])) t3.heap.objs.size (cellsFrom (t3.heap.objs.size + 1) sc.names (cloFrom X.env.cells sc.names [])) fp
  generalize hT : (fun (s : Shared) => codeAny (model X.prog X.w) X.A (.compStart (.DictComp kx vx [⟨tg, iter, ifs, 0⟩] sc pos) 0 (.ref it) (.ref D) (compEnvC sc (cellsFrom (t3.heap.objs.size + 1) sc.names (cloFrom X.env.cells sc.names [])) t3.heap.objs.size X.env)) (compPost (model X.prog X.w) X.A X.xe none (EP X pins σ Q) (.ref D) t3.heap.objs.size) s) = goal
  suffices hs : goal { t3 with heap := pushCells (t3.heap.push { cls := .type "dict", data := .dict #[] }) sc.names } by rw [← hT] at hs; exact hs
  rw [← hT]
  have n3 : ∀ b ∈ fp, (upd M D (.dT [])) b = none := fun b hb => (f3 b hb).1.1
  generalize hce : compEnvC sc (cellsFrom (t3.heap.objs.size + 1) sc.names (cloFrom X.env.cells sc.names [])) t3.heap.objs.size X.env = ce at I4 r1 r2 r3 r4 ⊢
  have cl0 : ce.locals = t3.heap.objs.size := by rw [← hce]; rfl
  generalize hM3 : upd M D (.dT []) = M3 at I3 I4 r1 r2 r3 r4 b0 n3 f3
  generalize e4 : ({ t3 with heap := pushCells (t3.heap.push { cls := .type "dict", data := .dict #[] }) sc.names } : Shared) = t4 at I4 ⊢
  have a4 : tn 0 t4.heap := T.keep _ _ _ a3 fun b _ o e => e4 ▸ pushCells_keeps _ _ _ _ (Heap.get?_push_of_some _ e)
  have sta : ∀ {τ : St} {G : Hp} {t : Shared}, Inv (X.blk t3 M3 sc ce fp) [] τ G t → (∀ b ∈ fp, G b = none) → ∀ b ∈ fp, FpOk (X.blk t3 M3 sc ce fp) [] G b := fun {τ G t} I hn b hb =>
    ⟨hn b hb, (I.ok.exf b hb).1, I.ok.exfs b hb, .inl hb, fun x c e => (I.ok.exf b hb).2 x c e, fun p hp => absurd (show p ∈ ([] : List (Addr × Obj)) ++ [] from hp) (by simp)⟩
  have run : codeAny (model X.prog X.w) X.A (.compLoop (.DictComp kx vx [⟨tg, iter, ifs, 0⟩] sc pos) 0 (.ref it) (.ref D) ce) (compPost (model X.prog X.w) X.A X.xe none (EP X pins σ Q) (.ref D) t3.heap.objs.size) t4 := by
    refine compLoop_anyD (fun n t => ∃ j G, Inv (X.blk t3 M3 sc ce fp) [] (wipe σ (own.map (·.2))) G t ∧ tn j t.heap ∧ (∀ b ∈ fp, G b = none) ∧ B j n G) (fun n t5 ⟨j, G5, I5, a5, n5, b5⟩ => ?_) n0 ⟨0, M3, I4, a4, n3, b0⟩
    rcases step j n G5 b5 with ⟨st, qq⟩ | ⟨go, Y, hY, tu⟩
    · refine thnF (T.done (X.blk t3 M3 sc ce fp) rfl rfl rfl hc j [] t5 _ G5 (fun _ _ => False) I5 (sta I5 n5) a5 st) fun r t6 ⟨hr, I6⟩ => ?_
      subst hr
      have I7 : Inv X pins σ G5 t6 := I3.call' (ch := fp) I6.os I6.base I6.hok I6.bare fun b hb => let ⟨_, c1, c2, c3, c4, c5⟩ := (f3 b hb).1; ⟨c3, c1, c4, c5⟩
      have nC : G5 t3.heap.objs.size = none := cl0 ▸ (show G5 ce.locals = none from I6.free)
      obtain ⟨m, hn, _⟩ := I6.loc
      have hn' : t6.heap.Ns t3.heap.objs.size m := cl0 ▸ (show t6.heap.Ns ce.locals m from hn)
      refine ⟨m, hn', fun h'' sb => ?_⟩
      obtain ⟨g0, g1, g2, g3, g4, g5⟩ := I3.fpOk (Nat.le_refl _) nC
      exact ⟨.ref D, G5, I7.turned (t' := t6.toks) (fun b o hb e => (sb.2 b hb).trans e) g0 g1 g3 g4 g5, rfl, qq⟩
    · refine thnF (T.item (X.blk t3 M3 sc ce fp) rfl rfl rfl hc j [] t5 _ G5 (fun _ _ => False) I5 (sta I5 n5) a5 go) fun r t6 ⟨u, hr, h6⟩ => ?_
      subst hr
      refine thnF h6 fun _ t7 ⟨x, G7, I7, rx, yx, a7, n7⟩ => ?_
      refine thnF (r1.run _ t7 _ G7 x u _ (I7.pinned (sta I7 n7) (T.obj _ _ a7)) rx (tu x G7 yx)) fun _ t8 ⟨τ, G8, I8, hw8, q8⟩ => ?_
      refine thnF (r2.run _ t8 τ G8 _ I8 q8) fun b t9 ⟨G9, I9, q9⟩ => ?_
      have back : ∀ {t : Shared} {G : Hp}, Inv (X.blk t3 M3 sc ce fp) ([] ++ pinsAt fp t7.heap) τ G t → Y G → ∃ m, m < n ∧ ∃ j G, Inv (X.blk t3 M3 sc ce fp) [] (wipe σ (own.map (·.2))) G t ∧ tn j t.heap ∧ (∀ b ∈ fp, G b = none) ∧ B j m G := fun {t G} I' y => by
        obtain ⟨n', hn, w'⟩ := hY G y
        have pin : ∀ b ∈ fp, ∀ o, t7.heap.get? b = some o → t.heap.get? b = some o ∧ G b = none := fun b hb o e => let z := I'.pin (b, o) (List.mem_append_right _ (List.mem_append_right _ (mem_pinsAt hb e))); ⟨z.1, z.2.1⟩
        have hl : (wipe σ (own.map (·.2))).length = τ.length := by rw [← hw8, wipe_length]
        exact ⟨n', hn, j + 1, G, (I'.unpinned (pins := [])).weak hl (fun i v e => (wipe_some (hw8 ▸ e)).1), T.keep _ _ _ a7 fun b hb o e => (pin b hb o e).1, fun b hb => (T.obj _ _ a7 b hb).elim fun o e => (pin b hb o e.1).2, w'⟩
      cases b with
      | false => exact back I9 (by simpa using q9)
      | true =>
        rw [if_pos rfl] at q9
        refine thnF (r3.run _ t9 τ G9 _ I9 q9) fun z t10 ⟨yk, G10, I10, r10, q10⟩ => ?_
        refine thnF (r4.run _ t10 τ G10 _ I10 q10) fun z2 t11 ⟨yv, G11, I11, r11, kvs, k, ⟨qa, ek, hq⟩, hD, hz, y⟩ => ?_
        subst ek
        cases (show z = Value.ref qa from r10)
        exact dcSetT (X := X.blk t3 M3 sc ce fp) hu I11 hq hD hz r11 fun t12 I12 => back I12 y
  exact codeAny_compStart_dict run (T.self X.A 0 _ _ _ a4 run)
end
end L2

set_option maxHeartbeats 1000000
/-! Dict comprehensions over the IR. -/
namespace L2.TV
open PySem PySem.Spec PyProof.Rows
section
variable {D : Wd} {G : Cfg} {X : Cx} {sc : Scope} {W : WX'} {O O' O1 : OX} {ρ ρ' ρ0 ρ1 : List Addr} {env env' env0 : List Slot} {σ σ' σ0 : St} {H H0 H' H1 : Hp} {s s' s1 : S} {v : V} {r : Rt} {K : PySem.W.Frag} {L L' : Addr → Prop}
theorem dcTurns_ok {κ : Type} [DecidableEq κ] {kof : T → Option κ} {own : List Nat} {tg : Tg} {cond : S → R Bool} {kx vx : S → R T} {t : T} {ts : List T} {s s2 : S} {acc ys : List (κ × T)} (h : dcTurns kof own tg cond kx vx (t :: ts) s acc = .ok ys s2) :
    ∃ env k s1, bindTg tg t (wipeE s.env own) = some env ∧ cond { s with env := env } = .ok k s1 ∧
      ((k = true ∧ ∃ y s3 z s4 key, kx s1 = .ok y s3 ∧ vx s3 = .ok z s4 ∧ kof y = some key ∧ acc.length < sizeLine ∧ dcTurns kof own tg cond kx vx ts s4 (putT acc key z) = .ok ys s2) ∨ (k = false ∧ dcTurns kof own tg cond kx vx ts s1 acc = .ok ys s2)) := by
  unfold dcTurns at h
  cases e1 : bindTg tg t (wipeE s.env own) with
  | none => rw [e1] at h; cases h
  | some env =>
    rw [e1] at h
    dsimp only at h
    cases e2 : cond { s with env := env } with
    | bad => rw [e2] at h; cases h
    | err c fs s1 => rw [e2] at h; cases h
    | ok k s1 =>
      rw [e2] at h
      dsimp only [R.bind] at h
      refine ⟨env, k, s1, rfl, e2, ?_⟩
      cases k with
      | false => exact .inr ⟨rfl, by simpa using h⟩
      | true =>
        refine .inl ⟨rfl, ?_⟩
        simp only [if_true] at h
        cases e3 : kx s1 with
        | bad => rw [e3] at h; cases h
        | err c fs s3 => rw [e3] at h; cases h
        | ok y s3 =>
          rw [e3] at h
          dsimp only at h
          cases e4 : vx s3 with
          | bad => rw [e4] at h; cases h
          | err c fs s4 => rw [e4] at h; cases h
          | ok z s4 =>
            rw [e4] at h
            dsimp only at h
            cases e5 : kof y with
            | none => rw [e5] at h; cases h
            | some key =>
              rw [e5] at h
              dsimp only at h
              split at h
              · exact ⟨y, s3, z, s4, key, rfl, e4, e5, by assumption, h⟩
              · cases h
/-- what a key's value is like -/
structure KeySort (K : PySem.W.Frag) (κ : Type) [DecidableEq κ] where
  kof : T → Option κ
  ho : List (κ × V) → HO
  mu : ∀ l, Mut (some (ho l))
  nw : ∀ l b, ho l ≠ .own b
  at' : κ → V → Hp → Prop
  of : ∀ {ρ L H t k v}, kof t = some k → Rp K ρ L H v t → at' k v H
theorem dturns_walk {κ : Type} [DecidableEq κ] (Z : KeySort D.K κ) (g : GX D G X sc) {kx vx : IE} {tg : Tg} {cond : Option IE} {own : List Nat} (hs : SlotsIn tg.slots own) {p : Addr} {J : It} {ts : List T} {ys : List (κ × T)} {s2 : S}
    (hp : H1 p = none) (walk : WalkT D.K ρ1 (Lv O ρ1 s1.env σ) H1 J ts) (rs1 : RS D.K D.cls O ρ1 s1 σ H1)
    (hlc0 : dcTurns Z.kof own tg (fun s => evC G cond s) (fun s => (ev G kx s).bind fun y s' => R.opt y.t s') (fun s => (ev G vx s).bind fun y s' => R.opt y.t s') ts s1 [] = .ok ys s2) {Qd : Hp → Prop}
    (fin : ∀ ρ' H' acc, RS D.K D.cls (OX.add O p) ρ' { s2 with env := wipeE s2.env own } (wipe σ own) H' → Le ρ1 (wipeE s1.env own) (wipe σ own) H1 ρ' (wipeE s2.env own) (wipe σ own) H' →
      H' p = some (Z.ho acc) → acc.map (·.1) = ys.map (·.1) → RpL D.K ρ' (Lv (OX.add O p) ρ' (wipeE s2.env own) (wipe σ own)) H' (acc.map (·.2)) (ys.map (·.2)) → Qd H') :
    ∃ Wf : Nat → Nat → Hp → Prop, (∃ m, Wf 0 m (upd H1 p (Z.ho []))) ∧ ∀ i m H, Wf i m H → (J.stop i H ∧ Qd H) ∨ (J.go i H ∧ ∃ Nx : Hp → Prop, (∀ H', Nx H' → ∃ m', m' < m ∧ Wf (i + 1) m' H') ∧ ∀ x H', J.yld i H x H' → tTg X.K tg x (wipe σ own) H' fun σ2 H2 => wipe σ2 own = wipe σ own ∧ tFc D G W0 cond σ2 H2 fun b H3 =>
      if b = true then tF D G W0 kx σ2 H3 fun y H4 => tF D G W0 vx σ2 H4 fun z H5 => ∃ acc k, Z.at' k y H5 ∧ H5 p = some (Z.ho acc) ∧ acc.length < sizeLine ∧ Nx (upd H5 p (Z.ho (L2.putK acc k z))) else Nx H3) := by
  have less1 := less_wipe own s1.env σ
  have rs0 := (rs1.less less1).fresh (o := Z.ho []) hp (Z.mu [])
  have l0 : Le ρ1 (wipeE s1.env own) (wipe σ own) H1 ρ1 (wipeE s1.env own) (wipe σ own) (upd H1 p (Z.ho [])) := Le.updNew Le.refl hp
  have k0 := kp_block (O := O) l0 hp fun b => less1.own
  have t0 := l0.tr
  generalize hkf : (fun s => (ev G kx s).bind fun y s' => R.opt y.t s') = kf at hlc0
  generalize hvf : (fun s => (ev G vx s).bind fun y s' => R.opt y.t s') = vf at hlc0
  refine ⟨fun i m H' => m = ts.length - i ∧ i ≤ ts.length ∧ ∃ ρ' s' acc accT, RS D.K D.cls (OX.add O p) ρ' { s' with env := wipeE s'.env own } (wipe σ own) H' ∧ Le ρ1 (wipeE s1.env own) (wipe σ own) H1 ρ' (wipeE s'.env own) (wipe σ own) H' ∧ Kp ρ1 (Lv O ρ1 s1.env σ) H1 ρ' (Lv (OX.add O p) ρ' (wipeE s'.env own) (wipe σ own)) H' ∧ (∀ x o, H1 x = some o → ∃ o', H' x = some o') ∧
    H' p = some (Z.ho acc) ∧ acc.map (·.1) = accT.map (·.1) ∧ RpL D.K ρ' (Lv (OX.add O p) ρ' (wipeE s'.env own) (wipe σ own)) H' (acc.map (·.2)) (accT.map (·.2)) ∧ dcTurns Z.kof own tg (fun s => evC G cond s) kf vf (ts.drop i) s' accT = .ok ys s2, ⟨ts.length, by simp, Nat.zero_le _, ρ1, s1, [], [], rs0, l0, k0, t0, upd_same, rfl, .nil, by simpa using hlc0⟩, ?_⟩
  rintro i m H2 ⟨rfl, hi, ρ2, s3, acc, accT, rs2, l2, k2, t2, hD, hk, rv, hlc⟩
  obtain ⟨wstop, wgo⟩ := walk ρ2 _ H2 k2 rs2.mut
  by_cases hlt : i < ts.length
  · refine .inr ⟨(wgo i hlt).1, ?_⟩
    obtain ⟨t, ht⟩ : ∃ t, ts[i]? = some t := ⟨ts[i], List.getElem?_eq_getElem hlt⟩
    have hdrop : ts.drop i = t :: ts.drop (i + 1) := by
      obtain ⟨h', e⟩ := List.getElem?_eq_some_iff.mp ht
      rw [← e]; exact List.drop_eq_getElem_cons h'
    rw [hdrop] at hlc
    obtain ⟨env, k, s4, hb, hc, hkk⟩ := dcTurns_ok hlc
    refine ⟨fun H' => ∃ ρ' s' acc accT, RS D.K D.cls (OX.add O p) ρ' { s' with env := wipeE s'.env own } (wipe σ own) H' ∧ Le ρ1 (wipeE s1.env own) (wipe σ own) H1 ρ' (wipeE s'.env own) (wipe σ own) H' ∧ Kp ρ1 (Lv O ρ1 s1.env σ) H1 ρ' (Lv (OX.add O p) ρ' (wipeE s'.env own) (wipe σ own)) H' ∧ (∀ x o, H1 x = some o → ∃ o', H' x = some o') ∧
      H' p = some (Z.ho acc) ∧ acc.map (·.1) = accT.map (·.1) ∧ RpL D.K ρ' (Lv (OX.add O p) ρ' (wipeE s'.env own) (wipe σ own)) H' (acc.map (·.2)) (accT.map (·.2)) ∧ dcTurns Z.kof own tg (fun s => evC G cond s) kf vf (ts.drop (i + 1)) s' accT = .ok ys s2, fun H' nx => ⟨ts.length - (i + 1), by omega, rfl, hlt, nx⟩, fun x H3 y => ?_⟩
    obtain ⟨t', ht', sm, rx⟩ := (wgo i hlt).2 x H3 y
    rw [ht] at ht'; cases ht'
    have rs3 := rs2.same sm
    have l3 := l2.trans (Le.same sm)
    have lsm : Le ρ2 (wipeE s3.env own) (wipe σ own) H2 ρ2 (wipeE s3.env own) (wipe σ own) H3 := Le.same sm
    have rv3 := rv.le rs2 lsm
    have hD3 := sm _ _ hD
    refine turn_ok (O := OX.add O p) g hs rs3 rx hb hc fun σ2 ρ4 H4 hw2 rs5 l5 => ?_
    have rv5 := rv3.le rs3 l5
    have hD4 := rs3.keepO l5 hD3
    have kk : ∀ {ρ5 : List Addr} {s5 : S} {H5 : Hp}, Le ρ4 s4.env σ2 H4 ρ5 s5.env σ2 H5 → Kp ρ1 (Lv O ρ1 s1.env σ) H1 ρ5 (Lv (OX.add O p) ρ5 (wipeE s5.env own) (wipe σ own)) H5 ∧ (∀ x o, H1 x = some o → ∃ o', H5 x = some o') := fun {ρ5 s5 H5} l6 => by
      have lw := less_wipe own s5.env σ2
      rw [hw2] at lw
      have la := lsm.trans (l5.trans (l6.trans lw.le))
      exact ⟨k2.trans (la.kpO (O := OX.add O p)) t2, fun x o e => by obtain ⟨o1, e1⟩ := t2 x o e; exact la.tr _ _ e1⟩
    rcases hkk with ⟨rfl, y, s5, z, s6, key, he, hv, hkey, hz, hrest⟩ | ⟨rfl, hrest⟩
    · rw [if_pos rfl]
      refine ⟨OX.add O p, ρ4, s4, rs5, ?_⟩
      rw [← hkf] at he
      dsimp only at he
      cases e5 : ev G kx s4 with
      | bad => rw [e5] at he; cases he
      | err c fs s' => rw [e5] at he; cases he
      | ok r s' =>
        rw [e5] at he
        dsimp only [R.bind] at he
        cases e6 : r.t with
        | none => rw [e6] at he; cases he
        | some u =>
          rw [e6] at he
          cases he
          intro yv ρ5 H5 l6 okk
          obtain ⟨rs6, rvy⟩ := okk.val e6
          refine ⟨OX.add O p, ρ5, s5, rs6, ?_⟩
          rw [← hvf] at hv
          dsimp only at hv
          cases e7 : ev G vx s5 with
          | bad => rw [e7] at hv; cases hv
          | err c fs s' => rw [e7] at hv; cases hv
          | ok r2 s' =>
            rw [e7] at hv
            dsimp only [R.bind] at hv
            cases e8 : r2.t with
            | none => rw [e8] at hv; cases hv
            | some u2 =>
              rw [e8] at hv
              cases hv
              intro zv ρ6 H6 l7 okv
              obtain ⟨rs7, rvz⟩ := okv.val e8
              have kat := Z.of hkey (rvy.le rs6 l7)
              have rv7 := (rv5.le rs5 l6).le rs6 l7
              have hD6 := rs6.keepO l7 (rs5.keepO l6 hD4)
              have lw := less_wipe own s6.env σ2
              rw [hw2] at lw
              have rs8 := rs7.less lw
              obtain ⟨kk1, kk2⟩ := kk (l6.trans l7)
              have hlen : acc.length = accT.length := by have := congrArg List.length hk; simpa using this
              refine ⟨acc, key, kat, hD6, by rw [hlen]; exact hz, ρ6, s6, L2.putK acc key zv, putT accT key z, rs8.writeO (.inr rfl) (Z.mu _) (fun b e => by rw [hD6] at e; exact Z.nw _ _ (Option.some.inj e)), Le.updNew (l3.trans (l5.trans (l6.trans (l7.trans lw.le)))) hp, ⟨kk1.pre, fun a o e n => ?_, kk1.lv⟩, fun a o e => ?_, upd_same, putT_keys hk, ?_, hrest⟩
              · have e' := kk1.kp a o e n
                have na : a ≠ p := fun z => by
                  subst z
                  exact (kk1.lv a (.inr (.inl (.inr rfl)))).elim n fun z => by rw [e] at z; cases z
                rw [upd_ne na]; exact e'
              · by_cases na : a = p
                · subst na; exact ⟨_, upd_same⟩
                · rw [upd_ne na]; exact kk2 a o e
              · have z' := (putT_vals (k := key) rvz hk rv7).le rs7 (Le.trans (Le.refl) (lw.le))
                refine z'.kp ⟨fun _ _ h => h, fun a u e n => ?_, fun _ l => .inl l⟩ rs8.mut
                rw [upd_ne fun q => n (.inr (.inl (.inr q)))]; exact e
    · rw [if_neg Bool.false_ne_true]
      have lw := less_wipe own s4.env σ2
      rw [hw2] at lw
      obtain ⟨kk1, kk2⟩ := kk (Le.refl (ρ := ρ4) (env := s4.env) (σ := σ2) (H := H4))
      exact ⟨ρ4, s4, acc, accT, rs5.less lw, l3.trans (l5.trans lw.le), kk1, kk2, hD4, hk, rv5.le rs5 lw.le, hrest⟩
  · have hi' : i = ts.length := by omega
    subst hi'
    refine .inl ⟨wstop, ?_⟩
    rw [List.drop_length] at hlc
    unfold dcTurns at hlc
    cases hlc
    exact fin ρ2 H2 acc rs2 l2 hD hk rv
def ksK (K : PySem.W.Frag) : KeySort K Key where
  kof := keyT
  ho := .dK
  mu := fun _ => trivial
  nw := fun _ _ e => nomatch e
  at' := fun k v _ => v = kV k
  of := fun {ρ L H t k v} e r => by
    cases t <;> simp only [keyT] at e <;> first | cases e | skip
    · cases r; rfl
    · cases r; rfl
def ksT (K : PySem.W.Frag) : KeySort K (List Key) where
  kof := tkT
  ho := .dT
  mu := fun _ => trivial
  nw := fun _ _ e => nomatch e
  at' := fun k v H => ∃ q, v = .ref q ∧ H q = some (.tup (k.map kV))
  of := fun e r => tkT_of e (.v r)
section
variable {kx vx : IE} {tg : Tg} {src : Src} {cond : Option IE}
/-- the parts that the two kinds share -/
theorem dc_parts {κ : Type} [DecidableEq κ] (Z : KeySort D.K κ) (g : GX D G X sc) {own : List Nat} (hs : SlotsIn tg.slots own) {f : List (κ × T) → Rt} {Q : VK} (rs : RS D.K D.cls O ρ s σ H)
    (h : Out D W O ρ s.env σ H ((evSrc G src s).bind fun ts s1 => if (own.any fun i => (s1.env.getD i .none).isOwn) then .bad else
      (dcTurns Z.kof own tg (fun s => evC G cond s) (fun s => (ev G kx s).bind fun y s' => R.opt y.t s') (fun s => (ev G vx s).bind fun y s' => R.opt y.t s') ts s1 []).quiet.bind fun ys s2 => .ok (f ys) { s2 with env := backE s1.env s2.env own }) fun r s' => ∀ v ρ' H', Le ρ s.env σ H ρ' s'.env σ H' → RtOk D O ρ' s' σ H H' v r → Q v H')
    (hf : ∀ {p : Addr} {acc : List (κ × V)} {ys : List (κ × T)} {ρ' s' H'}, H p = none → ¬ O p → RS D.K D.cls (OX.add O p) ρ' s' σ H' → H' p = some (Z.ho acc) → acc.map (·.1) = ys.map (·.1) → RpL D.K ρ' (Lv (OX.add O p) ρ' s'.env σ) H' (acc.map (·.2)) (ys.map (·.2)) → RtOk D O ρ' s' σ H H' (.ref p) (f ys)) :
    tSrc D G W src σ H fun J M => ∀ p, M p = none → ∃ B : Nat → Nat → Hp → Prop, (∃ n, B 0 n (upd M p (Z.ho []))) ∧ ∀ i m H, B i m H → (J.stop i H ∧ Q (.ref p) H) ∨ (J.go i H ∧ ∃ Nx : Hp → Prop, (∀ H', Nx H' → ∃ m', m' < m ∧ B (i + 1) m' H') ∧ ∀ x H', J.yld i H x H' → tTg X.K tg x (wipe σ own) H' fun σ2 H2 => wipe σ2 own = wipe σ own ∧ tFc D G W0 cond σ2 H2 fun b H3 =>
      if b = true then tF D G W0 kx σ2 H3 fun y H4 => tF D G W0 vx σ2 H4 fun z H5 => ∃ acc k, Z.at' k y H5 ∧ H5 p = some (Z.ho acc) ∧ acc.length < sizeLine ∧ Nx (upd H5 p (Z.ho (L2.putK acc k z))) else Nx H3) := by
  refine ⟨O, ρ, s, rs, (Out.bind h).mono fun ts s1 h1 J ρ1 H1 l1 rs1 walk p hp => ?_⟩
  have q := h1 ρ1 H1 l1
  by_cases hno : (own.any fun i => (s1.env.getD i .none).isOwn) = true
  · rw [if_pos hno] at q; exact q.elim
  rw [if_neg hno] at q
  have nown : ∀ i ∈ own, (s1.env.getD i .none).isOwn = false := fun i hi => by
    cases e : (s1.env.getD i .none).isOwn with
    | false => rfl
    | true => exact (hno (List.any_eq_true.mpr ⟨i, hi, e⟩)).elim
  cases hl : dcTurns Z.kof own tg (fun s => evC G cond s) (fun s => (ev G kx s).bind fun y s' => R.opt y.t s') (fun s => (ev G vx s).bind fun y s' => R.opt y.t s') ts s1 [] with
  | bad => rw [hl] at q; exact q.elim
  | err c fs s2 => rw [hl] at q; exact q.elim
  | ok ys s2 =>
  rw [hl] at q
  dsimp only [R.quiet, R.bind] at q
  have nOp : ¬ O p := fun z => by
    obtain ⟨_, o, e, _⟩ := rs1.out p z
    rw [hp] at e; cases e
  refine dturns_walk Z g hs hp walk rs1 hl fun ρ2 H2 acc rs2 l2 hD hk rv => ?_
  obtain ⟨a1, a2, a3⟩ := back_ok nown rs1 hp rs2 l2
  exact q (.ref p) ρ2 H2 (l1.trans a2) (hf (l1.none hp) nOp a1 hD hk (rv.sub a3))
theorem tDcK_of (g : GX D G X sc) {own : List Nat} (hs : SlotsIn tg.slots own) {Q : VK} (h : tF D G W (.dcK kx vx tg src cond own) σ H Q) :
    tDc (tSrc D G W src) (tTg X.K tg) (tFc D G W0 cond) (tF D G W0 kx) (tF D G W0 vx) own σ H Q := by
  obtain ⟨O, ρ, s, rs, h⟩ := h
  simp only [ev] at h
  exact dc_parts (ksK D.K) g hs (f := .k) rs h fun hp no a1 hD hk rv => ⟨_, _, rfl, hp, no, a1, hD, hk, rv⟩
theorem tDcT_of (g : GX D G X sc) {own : List Nat} (hs : SlotsIn tg.slots own) {Q : VK} (h : tF D G W (.dcT kx vx tg src cond own) σ H Q) :
    tDcT (tSrc D G W src) (tTg X.K tg) (tFc D G W0 cond) (tF D G W0 kx) (tF D G W0 vx) own σ H Q := by
  obtain ⟨O, ρ, s, rs, h⟩ := h
  simp only [ev] at h
  exact dc_parts (ksT D.K) g hs (f := .d) rs h fun hp no a1 hD hk rv => ⟨_, _, rfl, hp, no, a1, hD, hk, rv⟩
end
end
end L2.TV

set_option maxHeartbeats 1000000
/-! Tables read; dict comprehensions joined. -/
namespace L2.TV
open PySem PySem.Spec PyProof.Rows
section
variable {D : Wd} {G : Cfg} {X : Cx} {sc : Scope} {W : WX'}
theorem tF_none {a : IE} {e : Expr} (h : ∀ σ H Q, ¬ tF D G W a σ H Q) : PE X e (tF D G W a) := ⟨fun pins s σ H Q I hh => (h σ H Q hh).elim⟩
theorem snd_tix (g : GX D G X sc) {x : Str} {n : String} {p q : Pos} {a : IE} {ea : Expr} (hx : glB sc x n = true) (ha : PE X ea (tF D G W a)) (hn : notSlice ea = true) : PE X (.Subscript (.Name x p) ea q) (tF D G W (.tix n a)) := by
  obtain ⟨rfl, gl, hd, hne⟩ := g.gl hx
  cases e : G.tab n with
  | none =>
    refine tF_none fun σ H Q ⟨O, ρ, s, rs, h⟩ => ?_
    simp only [ev, e] at h
    exact h
  | some tb =>
    obtain ⟨A, hm, ok⟩ := g.tab n tb e
    refine (pe_ix ok.ix (pe_glob gl hm (v := .ref A) rfl hd) ha (plainIx_of hn)).of fun σ H Q ⟨O, ρ, s, rs, h⟩ => ?_
    simp only [ev, e] at h
    refine one_of rs h fun x s1 v1 O' ρ1 H1 sub rs1 l q q1 q2 _ => ?_
    cases e1 : x.t with
    | none => rw [e1] at q; exact q.elim
    | some t =>
      rw [e1] at q
      obtain ⟨r, e2, q⟩ := Out.opt q
      rw [Option.map_eq_some_iff] at e2
      obtain ⟨r, e2, rfl⟩ := e2
      exact ⟨rfl, ρ1, _, t, r, g.hK ▸ q2 t e1, e2, fun v rv => q v ρ1 H1 l ⟨rs1.sub sub, g.hK ▸ rv _ _ _⟩⟩
theorem tin_of (g : GX D G X sc) {n : String} {no : Bool} {a : IE} {tb : Tab} {A : Addr} (e : G.tab n = some tb) {σ : St} {H : Hp} {Q : VK} (h : tF D G W (.tin no n a) σ H Q) :
    tOp (fun x y H Q => y = .ref A ∧ ∃ ρ L t b, Rp X.K ρ L H x t ∧ tb.has t = some b ∧ Q (.bl (b != no)) H) (tF D G W a) (fun _ H Q => Q (.ref A) H) σ H Q := by
  obtain ⟨O, ρ, s, rs, h⟩ := h
  simp only [ev, e] at h
  refine one_of rs h fun x s1 v1 O' ρ1 H1 sub rs1 l q q1 q2 _ => ?_
  cases e1 : x.t with
  | none => rw [e1] at q; exact q.elim
  | some t =>
    rw [e1] at q
    obtain ⟨r, e2, q⟩ := Out.opt q
    rw [Option.map_eq_some_iff] at e2
    obtain ⟨b, e2, rfl⟩ := e2
    exact ⟨rfl, ρ1, _, t, b, g.hK ▸ q2 t e1, e2, q _ ρ1 H1 l ⟨rs1.sub sub, .bl _⟩⟩
theorem snd_tin (g : GX D G X sc) {x : Str} {n : String} {no : Bool} {p q : Pos} {a : IE} {ea : Expr} (hx : glB sc x n = true) (ha : PE X ea (tF D G W a)) : PE X (.Compare ea [if no then .NotIn else .In] [.Name x p] q) (tF D G W (.tin no n a)) := by
  obtain ⟨rfl, gl, hd, hne⟩ := g.gl hx
  cases e : G.tab n with
  | none => exact tF_none fun σ H Q ⟨O, ρ, s, rs, h⟩ => by simp only [ev, e] at h; exact h
  | some tb =>
    obtain ⟨A, hm, ok⟩ := g.tab n tb e
    exact (pe_cmpR (ok.in_ no) ha (pe_glob gl hm (v := .ref A) rfl hd) (behind_of rfl)).of fun σ H Q h => tin_of g e h
theorem tin_bl {no : Bool} {n : String} {a : IE} {s : S} {r : Rt} {s' : S} (h : ev G (.tin no n a) s = .ok r s') : ∃ k, r = .v (.bl k) := by
  simp only [ev] at h
  cases e0 : G.tab n with
  | none => rw [e0] at h; cases h
  | some tb =>
    rw [e0] at h
    dsimp only at h
    cases e1 : ev G a s with
    | bad => rw [e1] at h; cases h
    | err c fs s1 => rw [e1] at h; cases h
    | ok x s1 =>
      rw [e1] at h
      dsimp only [R.bind] at h
      cases e2 : x.t with
      | none => rw [e2] at h; cases h
      | some t =>
        rw [e2] at h
        dsimp only at h
        cases e3 : tb.has t with
        | none => rw [e3] at h; cases h
        | some b => rw [e3] at h; cases h; exact ⟨_, rfl⟩
theorem snd_ttin (g : GX D G X sc) {x : Str} {n : String} {no : Bool} {p q : Pos} {a : IE} {ea : Expr} (hx : glB sc x n = true) (ha : PE X ea (tF D G W a)) : PT X (.Compare ea [if no then .NotIn else .In] [.Name x p] q) (tFb D G W (.tin no n a)) := by
  obtain ⟨rfl, gl, hd, hne⟩ := g.gl hx
  cases e : G.tab n with
  | none => exact ⟨fun pins s σ H Q I ⟨O, ρ, s', rs, h⟩ => by simp only [evB, ev, e] at h; exact h.elim⟩
  | some tb =>
    obtain ⟨A, hm, ok⟩ := g.tab n tb e
    exact snd_tbl (pt_cmpR (ok.in_ no) ha (pe_glob gl hm (v := .ref A) rfl hd) (behind_of rfl)) (fun σ H Q h => tin_of g e h) (fun s => by simp only [evB] <;> rfl) fun s r s' h => tin_bl h
end
end L2.TV

set_option maxHeartbeats 1000000
/-! A dict walked by values or pairs: it is locked while the walk goes on. -/
namespace L2
open PySem PySem.Spec PyProof.Rows
section
variable {X : Cx}
def NoFrz (X : Cx) (d : Addr) : Prop := ∀ o' u', X.H_0 d ≠ some (.frz o' u')
/-- behind an expression a thing may be locked -/
def tLk (X : Cx) (t : TE) : TE := fun σ H Q => t σ H fun x M => Q x M ∨ ∃ d u, M d = some u ∧ Mut (some u) ∧ ∀ o, NoFrz X d → Q x (upd M d (.frz o u))
theorem pe_lk {e : Expr} {t : TE} (h : PE X e t) : PE X e (tLk X t) := by
  refine ⟨fun pins s σ H Q I hw => ?_⟩
  refine thn (h.run pins s σ H _ I hw) fun v s1 ⟨x, M, I1, r, q⟩ => ?_
  rcases q with q | ⟨d, u, hd, mu, q⟩
  · exact ⟨x, M, I1, r, q⟩
  · obtain ⟨o, I2⟩ := I1.lock hd mu
    exact ⟨x, _, I2, r, q o (I1.nofrz hd mu)⟩
/-- .. and unlocked -/
def tUlE (X : Cx) (t : TE) : TE := fun σ H Q => t σ H fun x M => Q x M ∨ ∃ d o u, M d = some (.frz o u) ∧ NoFrz X d ∧ Q x (upd M d u)
theorem pe_ul {e : Expr} {t : TE} (h : PE X e t) : PE X e (tUlE X t) := by
  refine ⟨fun pins s σ H Q I hw => ?_⟩
  refine thn (h.run pins s σ H _ I hw) fun v s1 ⟨x, M, I1, r, q⟩ => ?_
  rcases q with q | ⟨d, o, u, hd, nf, q⟩
  · exact ⟨x, M, I1, r, q⟩
  · exact ⟨x, _, I1.unlock hd nf, r, q⟩
def ulS (X : Cx) (P : St → Hp → Prop) : St → Hp → Prop := fun σ M => P σ M ∨ ∃ d o u, M d = some (.frz o u) ∧ NoFrz X d ∧ P σ (upd M d u)
def ulV (X : Cx) (P : VK) : VK := fun v M => P v M ∨ ∃ d o u, M d = some (.frz o u) ∧ NoFrz X d ∧ P v (upd M d u)
def tUl (X : Cx) (t : TS) : TS := fun E σ H => t ⟨ulS X E.nx, ulV X E.rt, ulS X E.bk, ulS X E.ct⟩ σ H
theorem ps_ul {st : Stmt} {t : TS} (h : PS X st t) : PS X st (tUl X t) := by
  refine ⟨fun pins s σ H E I hw => ?_⟩
  refine thn (h.run pins s σ H _ I hw) fun f s1 q => ?_
  cases f with
  | next =>
    obtain ⟨σ', M, I2, q⟩ := q
    rcases q with q | ⟨d, o, u, hd, nf, q⟩
    · exact ⟨σ', M, I2, q⟩
    · exact ⟨σ', _, I2.unlock hd nf, q⟩
  | brk =>
    obtain ⟨σ', M, I2, q⟩ := q
    rcases q with q | ⟨d, o, u, hd, nf, q⟩
    · exact ⟨σ', M, I2, q⟩
    · exact ⟨σ', _, I2.unlock hd nf, q⟩
  | cont =>
    obtain ⟨σ', M, I2, q⟩ := q
    rcases q with q | ⟨d, o, u, hd, nf, q⟩
    · exact ⟨σ', M, I2, q⟩
    · exact ⟨σ', _, I2.unlock hd nf, q⟩
  | ret v =>
    obtain ⟨x, σ', M, I2, r, q⟩ := q
    rcases q with q | ⟨d, o, u, hd, nf, q⟩
    · exact ⟨x, σ', M, I2, r, q⟩
    · exact ⟨x, σ', _, I2.unlock hd nf, r, q⟩
end
end L2
namespace L2.TV
open PySem PySem.Spec PyProof.Rows
section
variable {D : Wd} {G : Cfg} {X : Cx} {sc : Scope} {W : WX'} {O O' O1 : OX} {ρ ρ' ρ0 ρ1 ρ2 : List Addr} {env env' env0 : List Slot} {σ σ' σ0 : St} {H H0 H' H1 H2 : Hp} {s s' s1 s2 : S} {v : V} {r : Rt} {K : PySem.W.Frag} {L L' : Addr → Prop} {d : Addr} {o : Obj} {kvs : List (Key × V)}
theorem SqT.lock {a : Addr} {xs : List V} (hd : H d = some (.dK kvs)) (h : SqT K H a xs) : SqT K (upd H d (.frz o (.dK kvs))) a xs := by
  rcases h with (h | ⟨o', h⟩) | h
  · exact .inl (.inl ((upd_ne (ne_of h hd (fun z => nomatch z))).trans h))
  · exact .inl (.inr ⟨o', (upd_ne (ne_of h hd (fun z => nomatch z))).trans h⟩)
  · exact .inr h
theorem SqT.unlock {a : Addr} {xs : List V} (hd : H d = some (.frz o (.dK kvs))) (h : SqT K H a xs) : SqT K (upd H d (.dK kvs)) a xs := by
  rcases h with (h | ⟨o', h⟩) | h
  · exact .inl (.inl ((upd_ne (ne_of h hd (fun z => nomatch z))).trans h))
  · exact .inl (.inr ⟨o', (upd_ne (ne_of h hd (fun z => nomatch z))).trans h⟩)
  · exact .inr h
mutual
theorem Rp.lock (hd : H d = some (.dK kvs)) : ∀ {v : V} {t : T}, Rp K ρ L H v t → Rp K ρ L (upd H d (.frz o (.dK kvs))) v t
  | _, _, .non => .non
  | _, _, .bl b => .bl b
  | _, _, .int i => .int i
  | _, _, .str x => .str x
  | _, _, .tup q r => .tup ⟨SqT.lock hd q.sq, fun z => (upd_ne (ne_of (q.trk z) hd (fun z => nomatch z))).trans (q.trk z)⟩ (RpL.lock hd r)
  | _, _, .lst q n r => .lst ((upd_ne (ne_of q hd (fun z => nomatch z))).trans q) n (RpL.lock hd r)
  | _, _, .dk (a := a) (kvs := ks) q n e r => .dk (by
      by_cases z : a = d
      · subst z
        rcases q with q | ⟨_, q⟩
        · rw [hd] at q; cases q
          exact .inr ⟨o, upd_same⟩
        · rw [hd] at q; cases q
      · rcases q with q | ⟨o', q⟩
        · exact .inl ((upd_ne z).trans q)
        · exact .inr ⟨o', (upd_ne z).trans q⟩) n e (RpL.lock hd r)
  | _, _, .dt q n e r => .dt ((upd_ne (ne_of q hd (fun z => nomatch z))).trans q) n e (RpL.lock hd r)
  | _, _, .scr h => .scr (h.imp (fun ⟨o', h⟩ => ⟨o', (upd_ne (ne_of h hd (fun z => nomatch z))).trans h⟩) id)
  | _, _, .ref h => .ref h
theorem RpL.lock (hd : H d = some (.dK kvs)) : ∀ {vs : List V} {ts : List T}, RpL K ρ L H vs ts → RpL K ρ L (upd H d (.frz o (.dK kvs))) vs ts
  | _, _, .nil => .nil
  | _, _, .cons r q => .cons (Rp.lock hd r) (RpL.lock hd q)
end
mutual
theorem Rp.unlock (hd : H d = some (.frz o (.dK kvs))) : ∀ {v : V} {t : T}, Rp K ρ L H v t → Rp K ρ L (upd H d (.dK kvs)) v t
  | _, _, .non => .non
  | _, _, .bl b => .bl b
  | _, _, .int i => .int i
  | _, _, .str x => .str x
  | _, _, .tup q r => .tup ⟨SqT.unlock hd q.sq, fun z => (upd_ne (ne_of (q.trk z) hd (fun z => nomatch z))).trans (q.trk z)⟩ (RpL.unlock hd r)
  | _, _, .lst q n r => .lst ((upd_ne (ne_of q hd (fun z => nomatch z))).trans q) n (RpL.unlock hd r)
  | _, _, .dk (a := a) (kvs := ks) q n e r => .dk (by
      by_cases z : a = d
      · subst z
        rcases q with q | ⟨_, q⟩
        · rw [hd] at q; cases q
        · rw [hd] at q; cases q
          exact .inl upd_same
      · rcases q with q | ⟨o', q⟩
        · exact .inl ((upd_ne z).trans q)
        · exact .inr ⟨o', (upd_ne z).trans q⟩) n e (RpL.unlock hd r)
  | _, _, .dt q n e r => .dt ((upd_ne (ne_of q hd (fun z => nomatch z))).trans q) n e (RpL.unlock hd r)
  | _, _, .scr h => .scr (h.imp (fun ⟨o', h⟩ => ⟨o', (upd_ne (ne_of h hd (fun z => nomatch z))).trans h⟩) id)
  | _, _, .ref h => .ref h
theorem RpL.unlock (hd : H d = some (.frz o (.dK kvs))) : ∀ {vs : List V} {ts : List T}, RpL K ρ L H vs ts → RpL K ρ L (upd H d (.dK kvs)) vs ts
  | _, _, .nil => .nil
  | _, _, .cons r q => .cons (Rp.unlock hd r) (RpL.unlock hd q)
end
/-- the frame, whatever stands at a dict that is nobody's own -/
theorem RS.turn {w : HO} (rs : RS D.K D.cls O ρ s σ H) (nl : ¬ Lv O ρ s.env σ d) (no : ∀ b, H d ≠ some (.own b)) (f : ∀ {L : Addr → Prop} {v t}, Rp D.K ρ L H v t → Rp D.K ρ L (upd H d w) v t) (fl : ∀ {L : Addr → Prop} {vs ts}, RpL D.K ρ L H vs ts → RpL D.K ρ L (upd H d w) vs ts) : RS D.K D.cls O ρ s σ (upd H d w) := by
  refine ⟨rs.nd, rs.len, fun i t e => ?_, fun i x e1 e2 => ?_, rs.inj, fun n c a e1 e2 => ?_, fun a h => ?_, rs.elen⟩
  · obtain ⟨v, q1, q2⟩ := rs.slot i t e
    exact ⟨v, q1, f q2⟩
  · obtain ⟨a, q1, q2, q3, q4⟩ := rs.own i x e1 e2
    have na : a ≠ d := fun z => nl (.inr (.inr ⟨i, x, e1, e2, z ▸ q1⟩))
    refine ⟨a, q1, q2, q3, ?_⟩
    cases x with
    | own l => obtain ⟨xs, q, r⟩ := q4; exact ⟨xs, (upd_ne na).trans q, fl r⟩
    | ownK l => obtain ⟨xs, q, i, r⟩ := q4; exact ⟨xs, (upd_ne na).trans q, i, fl r⟩
    | ownT l => obtain ⟨xs, q, i, r⟩ := q4; exact ⟨xs, (upd_ne na).trans q, i, fl r⟩
    | none => trivial
    | val t => trivial
  · have q := rs.cell n c a e1 e2
    have na : a ≠ d := fun z => nl (.inl (z ▸ List.mem_of_getElem? e2))
    cases c with
    | lst l => obtain ⟨xs, q, r⟩ := q; exact ⟨xs, (upd_ne na).trans q, fl r⟩
    | ins c fs =>
      obtain ⟨C, dx, gs, q0, q, q1, i, r⟩ := q
      exact ⟨C, dx, gs, q0, (upd_ne na).trans q, (upd_ne (fun z : dx = d => no a (z ▸ q1))).trans q1, i, fl r⟩
  · obtain ⟨q1, u, q2, q3⟩ := rs.out a h
    exact ⟨q1, u, (upd_ne (fun z : a = d => nl (.inr (.inl (z ▸ h))))).trans q2, q3⟩
theorem RS.lock (rs : RS D.K D.cls O ρ s σ H) (nl : ¬ Lv O ρ s.env σ d) (hd : H d = some (.dK kvs)) : RS D.K D.cls O ρ s σ (upd H d (.frz o (.dK kvs))) :=
  rs.turn nl (fun b e => by rw [hd] at e; cases e) (fun r => r.lock hd) fun r => r.lock hd
theorem RS.unlock (rs : RS D.K D.cls O ρ s σ H) (nl : ¬ Lv O ρ s.env σ d) (hd : H d = some (.frz o (.dK kvs))) : RS D.K D.cls O ρ s σ (upd H d (.dK kvs)) :=
  rs.turn nl (fun b e => by rw [hd] at e; cases e) (fun r => r.unlock hd) fun r => r.unlock hd
/-- what is nobody's own stays so over a step -/
theorem Le.nl {w : HO} (l : Le ρ env σ H ρ' env' σ' H') (hd : H d = some w) (nl : ¬ Lv O ρ env σ d) : ¬ Lv O ρ' env' σ' d := fun h => by
  rcases h with h | h | h
  · exact (l.fr d h).elim (fun z => nl (.inl z)) fun e => by rw [hd] at e; cases e
  · exact nl (.inr (.inl h))
  · exact (l.ow d h).elim (fun z => nl (.inr (.inr z))) fun e => by rw [hd] at e; cases e
theorem Le.unlock (l : Le ρ env σ (upd H d (.frz o (.dK kvs))) ρ' env' σ' H') (hd : H d = some (.dK kvs)) : Le ρ env σ H ρ' env' σ' (upd H' d (.dK kvs)) where
  pre := l.pre
  fr := fun a h => (l.fr a h).imp id fun e => by
    by_cases z : a = d
    · subst z; rw [upd_same] at e; cases e
    · rw [upd_ne z] at e; exact e
  ow := fun a h => (l.ow a h).imp id fun e => by
    by_cases z : a = d
    · subst z; rw [upd_same] at e; cases e
    · rw [upd_ne z] at e; exact e
  kp := fun a u e n1 n2 => by
    by_cases z : a = d
    · subst z; rw [hd] at e; cases e; exact upd_same
    · rw [upd_ne z]; exact l.kp a u ((upd_ne z).trans e) n1 n2
  tr := fun a u e => by
    by_cases z : a = d
    · subst z; exact ⟨_, upd_same⟩
    · obtain ⟨u', e'⟩ := l.tr a u ((upd_ne z).trans e)
      exact ⟨u', (upd_ne z).trans e'⟩
theorem Le.frz {u : HO} (l : Le ρ env σ H ρ' env' σ' H') (hd : H d = some u) (nl : ¬ Lv O ρ env σ d) : H' d = some u := l.kp d u hd (fun z => nl (.inl z)) fun z => nl (.inr (.inr z))
/-- the walks -/
theorem keys_get {ts : List (Key × T)} (e : kvs.map (·.1) = ts.map (·.1)) (r : RpL K ρ L H (kvs.map (·.2)) (ts.map (·.2))) {i : Nat} {k : Key} {x : V} (h : kvs[i]? = some (k, x)) : ∃ t, ts[i]? = some (k, t) ∧ Rp K ρ L H x t := by
  have h1 : (kvs.map (·.1))[i]? = some k := by rw [List.getElem?_map, h]; rfl
  have h2 : (kvs.map (·.2))[i]? = some x := by rw [List.getElem?_map, h]; rfl
  obtain ⟨t, e2, rt⟩ := r.getV h2
  rw [e, List.getElem?_map, Option.map_eq_some_iff] at h1
  obtain ⟨p, hp, rfl⟩ := h1
  rw [List.getElem?_map, hp] at e2
  cases e2
  exact ⟨p.2, hp, rt⟩
theorem walk_vals {ts : List (Key × T)} (m : MutL L H) (hd : H d = some (.frz o (.dK kvs))) (nl : ¬ L d) (e : kvs.map (·.1) = ts.map (·.1)) (r : RpL K ρ L H (kvs.map (·.2)) (ts.map (·.2))) : WalkT K ρ L H (Itd d o kvs) (itemsL true ts) := by
  intro ρ' L' H' k m'
  have hd' := k.kp _ _ hd nl
  have hl : kvs.length = ts.length := by have := congrArg List.length e; simpa using this
  have r' := r.kp k m
  have li : (itemsL true ts).length = ts.length := by simp [itemsL]
  refine ⟨⟨hd', by rw [li, hl]; exact Nat.le_refl _⟩, fun i hi => ⟨⟨hd', by rw [hl, ← li]; exact hi⟩, fun x H2 y => ?_⟩⟩
  obtain ⟨rfl, kk, hx⟩ := y
  obtain ⟨t, h1, h2⟩ := keys_get e r' hx
  exact ⟨t, by simp [itemsL, h1], Same.refl _, h2⟩
theorem rp_key (k : Key) : Rp K ρ L H (kV k) (keyV k) := by cases k with
  | inl i => exact .int i
  | inr x => exact .str x
theorem walk_pairs {ts : List (Key × T)} (m : MutL L H) (hd : H d = some (.frz o (.dK kvs))) (nl : ¬ L d) (e : kvs.map (·.1) = ts.map (·.1)) (r : RpL K ρ L H (kvs.map (·.2)) (ts.map (·.2))) : WalkT K ρ L H (Iti d o kvs) (itemsL false ts) := by
  intro ρ' L' H' k m'
  have hd' := k.kp _ _ hd nl
  have hl : kvs.length = ts.length := by have := congrArg List.length e; simpa using this
  have r' := r.kp k m
  have li : (itemsL false ts).length = ts.length := by simp [itemsL]
  refine ⟨⟨hd', by rw [li, hl]; exact Nat.le_refl _⟩, fun i hi => ⟨⟨hd', by rw [hl, ← li]; exact hi⟩, fun x H2 y => ?_⟩⟩
  obtain ⟨q, kk, z, hx, rfl, hq, rfl⟩ := y
  obtain ⟨t, h1, h2⟩ := keys_get e r' hx
  have sm : Same H' (upd H' q (.tup [kV kk, z])) := Same.upd_new hq
  exact ⟨.tup [keyV kk, t], by simp [itemsL, h1], sm, .tup (.new upd_same) (.cons (rp_key kk) (.cons (h2.same m' sm) .nil))⟩
end
end L2.TV

set_option maxHeartbeats 1000000
/-! Comprehensions and loops over a dict's values or pairs. -/
namespace L2.TV
open PySem PySem.Spec PyProof.Rows
section
variable {D : Wd} {G : Cfg} {X : Cx} {sc : Scope} {W : WX'} {O O' O1 : OX} {ρ ρ' ρ0 ρ1 ρ2 : List Addr} {env env' env0 : List Slot} {σ σ' σ0 : St} {H H0 H' H1 H2 M : Hp} {s s' s1 s2 : S} {v : V} {r : Rt} {K : PySem.W.Frag} {L L' : Addr → Prop} {d : Addr} {o : Obj} {kvs : List (Key × V)}
def iW (vals : Bool) (t : TE) : TI := if vals then iVals t else iItems t
theorem iW_of {vals : Bool} {t : TE} {R : It → Hp → Prop} (h : t σ H fun x M => ∃ d o kvs, x = .ref d ∧ M d = some (.frz o (.dK kvs)) ∧ R (if vals then Itd d o kvs else Iti d o kvs) M) : iW vals t σ H R := by
  cases vals <;> exact h
theorem walk_W {vals : Bool} {ts : List (Key × T)} (m : MutL L H) (hd : H d = some (.frz o (.dK kvs))) (nl : ¬ L d) (e : kvs.map (·.1) = ts.map (·.1)) (r : RpL K ρ L H (kvs.map (·.2)) (ts.map (·.2))) : WalkT K ρ L H (if vals then Itd d o kvs else Iti d o kvs) (itemsL vals ts) := by
  cases vals
  · exact walk_pairs m hd nl e r
  · exact walk_vals m hd nl e r
theorem lc_core1 (g : GX D G X sc) {elt : IE} {tg : Tg} {cond : Option IE} {own : List Nat} (hs : SlotsIn tg.slots own) {J : It} {ts ys : List T} {s2 : S} {Q : VK} (rs1 : RS D.K D.cls O ρ1 s1 σ M) (walk : WalkT D.K ρ1 (Lv O ρ1 s1.env σ) M J ts)
    (nown : ∀ i ∈ own, (s1.env.getD i .none).isOwn = false) (hl : lcTurns own tg (fun s => evC G cond s) (fun s => (ev G elt s).bind fun y s' => R.opt y.t s') ts s1 [] = .ok ys s2)
    (fin : ∀ p ρ2 H2 acc, M p = none → RS D.K D.cls (OX.add O p) ρ2 { s2 with env := backE s1.env s2.env own } σ H2 → Le ρ1 s1.env σ M ρ2 (backE s1.env s2.env own) σ H2 → H2 p = some (.lst acc) → RpL D.K ρ2 (Lv (OX.add O p) ρ2 (backE s1.env s2.env own) σ) H2 acc ys → Q (.ref p) H2) :
    ∀ p, M p = none → ∃ Wf : Nat → Nat → Hp → Prop, (∃ m, Wf 0 m (upd M p (.lst []))) ∧ ∀ i m H, Wf i m H → (J.stop i H ∧ Q (.ref p) H) ∨ (J.go i H ∧ ∃ Nx : Hp → Prop, (∀ H', Nx H' → ∃ m', m' < m ∧ Wf (i + 1) m' H') ∧ ∀ x H', J.yld i H x H' → tTg X.K tg x (wipe σ own) H' fun σ2 H2 => wipe σ2 own = wipe σ own ∧ tFc D G W0 cond σ2 H2 fun b H3 =>
      if b = true then tF D G W0 elt σ2 H3 fun y H4 => ∃ acc, H4 p = some (.lst acc) ∧ acc.length < sizeLine ∧ Nx (upd H4 p (.lst (acc ++ [y]))) else Nx H3) := by
  intro p hp
  have nOp : ¬ O p := fun z => by
    obtain ⟨_, o, e, _⟩ := rs1.out p z
    rw [hp] at e; cases e
  have less1 := less_wipe own s1.env σ
  have rsw := (rs1.less less1).fresh (o := .lst []) hp trivial
  have lw0 : Le ρ1 (wipeE s1.env own) (wipe σ own) M ρ1 (wipeE s1.env own) (wipe σ own) (upd M p (.lst [])) := Le.updNew Le.refl hp
  refine turns_walk g hs (ρb := ρ1) (envb := wipeE s1.env own) (σb := wipe σ own) hp walk rsw lw0 (kp_block lw0 hp fun b => less1.own) lw0.tr upd_same .nil hl fun ρ2 H2 acc rs2 l2 _ _ hD rv => ?_
  obtain ⟨a1, a2, a3⟩ := back_ok nown rs1 hp rs2 l2
  exact fin p ρ2 H2 acc hp a1 a2 hD (rv.sub a3)
theorem tLcI_of (g : GX D G X sc) {elt a : IE} {tg : Tg} {vals : Bool} {cond : Option IE} {own : List Nat} (hs : SlotsIn tg.slots own) {Q : VK} (h : tF D G W (.lcI elt tg vals a cond own) σ H Q) :
    tUlE X (tLc (iW vals (tLk X (tF D G W a))) (tTg X.K tg) (tFc D G W0 cond) (tF D G W0 elt) own) σ H Q := by
  obtain ⟨O, ρ, s, rs, h⟩ := h
  simp only [ev] at h
  refine iW_of ?_
  refine ⟨O, ρ, s, rs, (Out.bind h).mono fun x s1 h1 v1 ρ1 H1 l1 ok1 => ?_⟩
  have q := h1 ρ1 H1 l1
  cases ex : x.t with
  | none => rw [ex] at q; exact q.elim
  | some t =>
  rw [ex] at q
  cases t with
  | dk l =>
    dsimp only at q
    by_cases hno : (own.any fun i => (s1.env.getD i .none).isOwn) = true
    · rw [if_pos hno] at q; exact q.elim
    rw [if_neg hno] at q
    have nown : ∀ i ∈ own, (s1.env.getD i .none).isOwn = false := fun i hi => by
      cases e : (s1.env.getD i .none).isOwn with
      | false => rfl
      | true => exact (hno (List.any_eq_true.mpr ⟨i, hi, e⟩)).elim
    cases hl : lcTurns own tg (fun s => evC G cond s) (fun s => (ev G elt s).bind fun y s' => R.opt y.t s') (itemsL vals l) s1 [] with
    | bad => rw [hl] at q; exact q.elim
    | err c fs s2 => rw [hl] at q; exact q.elim
    | ok ys s2 =>
    rw [hl] at q
    dsimp only [R.quiet, R.bind] at q
    obtain ⟨rs1, rv⟩ := ok1.val ex
    cases rv with
    | @dk d kvs _ hd nl ek rvs =>
      have no : ∀ {p : Addr}, H1 p = none → ¬ O p := fun {p} hp z => by
        obtain ⟨_, o, e, _⟩ := rs1.out p z
        rw [hp] at e; cases e
      rcases hd with hd | ⟨o, hd⟩
      · refine .inr ⟨d, _, hd, trivial, fun o nf => ⟨d, o, kvs, rfl, upd_same, ?_⟩⟩
        have rsM := rs1.lock (o := o) nl hd
        have hM : upd H1 d (.frz o (.dK kvs)) d = some (.frz o (.dK kvs)) := upd_same
        refine lc_core1 (Q := fun x M => Q x M ∨ ∃ d o u, M d = some (.frz o u) ∧ NoFrz X d ∧ Q x (upd M d u)) g hs rsM (walk_W rsM.mut hM nl ek (rvs.lock hd)) nown hl fun p ρ2 H2 acc hp a1 a2 hD rv => ?_
        have hp1 : H1 p = none := by
          by_cases z : p = d
          · subst z; rw [upd_same] at hp; cases hp
          · rwa [upd_ne z] at hp
        have ne : p ≠ d := fun z => by subst z; rw [hd] at hp1; cases hp1
        have h2 := a2.frz hM nl
        have nl2 : ¬ Lv (OX.add O p) ρ2 (backE s1.env s2.env own) σ d := fun z => by
          have := a2.nl hM nl
          rcases z with z | (z | z) | z
          · exact this (.inl z)
          · exact this (.inr (.inl z))
          · exact ne z.symm
          · exact this (.inr (.inr z))
        refine .inr ⟨d, o, _, h2, nf, q (.ref p) ρ2 _ (l1.trans (a2.unlock hd)) ⟨p, acc, rfl, l1.none hp1, no hp1, a1.unlock nl2 h2, (upd_ne ne).trans hD, rv.unlock h2⟩⟩
      · refine .inl ⟨d, o, kvs, rfl, hd, ?_⟩
        refine lc_core1 (Q := fun x M => Q x M ∨ ∃ d o u, M d = some (.frz o u) ∧ NoFrz X d ∧ Q x (upd M d u)) g hs rs1 (walk_W rs1.mut hd nl ek rvs) nown hl fun p ρ2 H2 acc hp a1 a2 hD rv => ?_
        exact .inl (q (.ref p) ρ2 H2 (l1.trans a2) ⟨p, acc, rfl, l1.none hp, no hp, a1, hD, rv⟩)
  | _ => exact q.elim
theorem for_core1 (g : GX D G X sc) {tg : Tg} {body : List IS} {J : It} {ts : List T} {E : Ends} (rs1 : RS D.K D.cls O ρ1 s1 σ M) (walk : WalkT D.K ρ1 (Lv O ρ1 s1.env σ) M J ts) (q : Fin D W O E ρ1 s1.env σ M (forT (fun s => exs G body s) tg ts s1)) :
    ∃ Wf : Nat → Nat → St → Hp → Prop, (∃ m, Wf 0 m σ M) ∧ ∀ i m σ H, Wf i m σ H → (J.stop i H ∧ E.nx σ H) ∨ (J.go i H ∧ ∃ N : St → Hp → Prop, (∀ σ' H', N σ' H' → ∃ m', m' < m ∧ Wf (i + 1) m' σ' H') ∧ ∀ x H', J.yld i H x H' → tTg X.K tg x σ H' fun σ2 H2 => tSs D G W body { E with nx := N, ct := N, bk := E.nx } σ2 H2) := by
  generalize hbf : (fun s => exs G body s) = bf at q
  refine ⟨fun i m σ' H' => m = ts.length - i ∧ i ≤ ts.length ∧ ∃ ρ' s', RS D.K D.cls O ρ' s' σ' H' ∧ Le ρ1 s1.env σ M ρ' s'.env σ' H' ∧ Fin D W O E ρ' s'.env σ' H' (forT bf tg (ts.drop i) s'), ⟨ts.length, by simp, Nat.zero_le _, ρ1, s1, rs1, Le.refl, q⟩, ?_⟩
  rintro i m σ2 H2 ⟨rfl, hi', ρ2, s2, rs2, l2, f2⟩
  obtain ⟨wstop, wgo⟩ := walk ρ2 _ H2 (l2.kpO (O := O)) rs2.mut
  by_cases hlt : i < ts.length
  · refine .inr ⟨(wgo i hlt).1, fun σ' H' => ∃ ρ' s', RS D.K D.cls O ρ' s' σ' H' ∧ Le ρ1 s1.env σ M ρ' s'.env σ' H' ∧ Fin D W O E ρ' s'.env σ' H' (forT bf tg (ts.drop (i + 1)) s'), fun σ' H' nx => ⟨ts.length - (i + 1), by omega, rfl, hlt, nx⟩, fun x H3 y => ?_⟩
    have hdrop : ts.drop i = ts[i] :: ts.drop (i + 1) := List.drop_eq_getElem_cons hlt
    rw [hdrop] at f2
    obtain ⟨t', ht', sm, rx⟩ := (wgo i hlt).2 x H3 y
    rw [List.getElem?_eq_getElem hlt] at ht'
    cases ht'
    unfold forT at f2
    cases hbd : bindTg tg ts[i] s2.env with
    | none => rw [hbd] at f2; exact f2.elim
    | some env =>
      rw [hbd] at f2
      dsimp only at f2
      have rs3 := rs2.same sm
      refine bind_ok g tg ts[i] tg.slots s2 σ2 H3 x env _ (fun _ z => z) rs3 rx hbd fun σ3 _ rs4 l4 => ?_
      have l3 := l2.trans ((Le.same sm).trans l4)
      refine ⟨O, ρ2, _, rs4, ?_⟩
      rw [← hbf] at f2
      have f3 := Fin.from f2 ((Le.same sm).trans l4)
      rw [← hbf]
      exact Fin.loop (E := E) (f := fun s1 => forT (fun s => exs G body s) tg (ts.drop (i + 1)) s1) f3 fun ρ5 s5 σ5 H5 l5 r5 f5 => ⟨ρ5, s5, r5, l3.trans l5, f5⟩
  · have hi2 : i = ts.length := by omega
    subst hi2
    rw [List.drop_length] at f2
    unfold forT at f2
    exact .inl ⟨wstop, f2.nx Le.refl rs2⟩
theorem Fin.calm {E : Ends} {r : R Fl} (h : Fin D W O E ρ env σ H r.quiet) : Fin D W0 O ⟨ulS X E.nx, ulV X E.rt, ulS X E.bk, ulS X E.ct⟩ ρ env σ H r := by
  cases r with
  | bad => exact h
  | err c fs s => exact h.elim
  | ok f s => cases f with
    | nx => exact fun ρ' σ' H' l x => .inl (h ρ' σ' H' l x)
    | bk => exact fun ρ' σ' H' l x => .inl (h ρ' σ' H' l x)
    | ct => exact fun ρ' σ' H' l x => .inl (h ρ' σ' H' l x)
    | ret t => exact fun v ρ' σ' H' l x y => .inl (h v ρ' σ' H' l x y)
theorem Fin.locked {E : Ends} {r : R Fl} (hd : H d = some (.dK kvs)) (nl : ¬ Lv O ρ env σ d) (nf : NoFrz X d) (h : Fin D W O E ρ env σ H r.quiet) : Fin D W0 O ⟨ulS X E.nx, ulV X E.rt, ulS X E.bk, ulS X E.ct⟩ ρ env σ (upd H d (.frz o (.dK kvs))) r := by
  have hM : upd H d (.frz o (.dK kvs)) d = some (.frz o (.dK kvs)) := upd_same
  have u : ∀ {ρ' s' σ' H'}, Le ρ env σ (upd H d (.frz o (.dK kvs))) ρ' s'.env σ' H' → RS D.K D.cls O ρ' s' σ' H' → H' d = some (.frz o (.dK kvs)) ∧ Le ρ env σ H ρ' s'.env σ' (upd H' d (.dK kvs)) ∧ RS D.K D.cls O ρ' s' σ' (upd H' d (.dK kvs)) := fun l rs =>
    ⟨l.frz hM nl, l.unlock hd, rs.unlock (l.nl hM nl) (l.frz hM nl)⟩
  cases r with
  | bad => exact h
  | err c fs s => exact h.elim
  | ok f s => cases f with
    | nx => exact fun ρ' σ' H' l x => let ⟨a, b, c⟩ := u l x; .inr ⟨d, o, _, a, nf, h ρ' σ' _ b c⟩
    | bk => exact fun ρ' σ' H' l x => let ⟨a, b, c⟩ := u l x; .inr ⟨d, o, _, a, nf, h ρ' σ' _ b c⟩
    | ct => exact fun ρ' σ' H' l x => let ⟨a, b, c⟩ := u l x; .inr ⟨d, o, _, a, nf, h ρ' σ' _ b c⟩
    | ret t => exact fun v ρ' σ' H' l x y => let ⟨a, b, c⟩ := u l x; .inr ⟨d, o, _, a, nf, h v ρ' σ' _ b c (y.unlock a)⟩
theorem tForI_of (g : GX D G X sc) {a : IE} {tg : Tg} {vals : Bool} {body : List IS} {E : Ends} (h : tS D G W (.forI tg vals a body) E σ H) : tUl X (tFor (iW vals (tLk X (tF D G W a))) (tTg X.K tg) (tSs D G W0 body)) E σ H := by
  obtain ⟨O, ρ, s, rs, h⟩ := h
  simp only [ex] at h
  refine iW_of ?_
  refine ⟨O, ρ, s, rs, (Fin.bind h).mono fun x s1 h1 v1 ρ1 H1 l1 ok1 => ?_⟩
  have q := h1 ρ1 H1 l1
  cases ex : x.t with
  | none => rw [ex] at q; exact q.elim
  | some t =>
  rw [ex] at q
  cases t with
  | dk l =>
    dsimp only at q
    obtain ⟨rs1, rv⟩ := ok1.val ex
    cases rv with
    | @dk d kvs _ hd nl ek rvs =>
      rcases hd with hd | ⟨o, hd⟩
      · refine .inr ⟨d, _, hd, trivial, fun o nf => ⟨d, o, kvs, rfl, upd_same, ?_⟩⟩
        have rsM := rs1.lock (o := o) nl hd
        have hM : upd H1 d (.frz o (.dK kvs)) d = some (.frz o (.dK kvs)) := upd_same
        exact for_core1 g rsM (walk_W rsM.mut hM nl ek (rvs.lock hd)) (q.locked hd nl nf)
      · exact .inl ⟨d, o, kvs, rfl, hd, for_core1 g rs1 (walk_W rs1.mut hd nl ek rvs) q.calm⟩
  | _ => exact q.elim
/-! ### the syntax -/
def plainBase : Expr → Bool
  | .Name _ _ => true
  | .Call (.Name id _) as ks _ => match as, ks with
    | [], [] => id != "super"
    | _, _ => true
  | _ => false
theorem attrBase_of {e : Expr} {m : Str} {env : Env} {w : Sem Value} (h : plainBase e = true) : attributeBase e m env w = w := by
  unfold plainBase at h
  split at h
  · rfl
  · rename_i id p as ks pos
    cases as with
    | nil => cases ks with
      | nil =>
        unfold attributeBase
        have h' : (id != "super") = true := h
        simp only [h', Bool.true_or, if_true]
      | cons k ks => rfl
    | cons a as => rfl
  · cases h
def isView (vals : Bool) (etg e : Expr) : Option Expr := match e with
  | .Call (.Attribute ea m ap) [] [] cp => bif (decide (m = Str.ofString (if vals then "values" else "items")) && ap.endLine == cp.line && plainBase ea) then (match vals with
    | true => some ea
    | false => match etg with
      | .Tuple _ _ _ => some ea
      | _ => none) else none
  | _ => none
theorem pi_view {vals : Bool} {etg e ea : Expr} {t : TE} (h : isView vals etg e = some ea) (ha : PE X ea t) : PI X etg e (iW vals (tLk X t)) := by
  unfold isView at h
  split at h
  · rename_i eb m ap cp
    cases hc : (decide (m = Str.ofString (if vals then "values" else "items")) && ap.endLine == cp.line && plainBase eb) with
    | false => rw [hc] at h; cases h
    | true =>
      rw [hc] at h
      rw [cond_true] at h
      simp only [Bool.and_eq_true, decide_eq_true_eq] at hc
      obtain ⟨⟨rfl, hl⟩, hb⟩ := hc
      cases vals with
      | true =>
        cases h
        exact pi_values (pe_lk ha) (attrBase_of hb) hl
      | false =>
        dsimp only at h
        split at h
        · cases h
          exact pi_items (pe_lk ha) (attrBase_of hb) hl
        · cases h
  · cases h
end
end L2.TV

set_option maxHeartbeats 1000000
/-! The new constructs, joined to the syntax. -/
namespace L2.TV
open PySem PySem.Spec PyProof.Rows
section
variable {D : Wd} {G : Cfg} {X : Cx} {sc : Scope} {W : WX'}
theorem snd_dcK (g : GX D G X sc) {kx vx : IE} {tg : Tg} {src : Src} {cond : Option IE} {own : List (Str × Nat)} {ekx evx etg eiter : Expr} {ifs : List Expr} {scope : Scope} {pos : Pos} (hi : PI X etg eiter (tSrc D G W src)) (hb : blkC X.N sc scope own = true)
    (hg : ∀ {X' : Cx}, X'.N = X.N → GX D G X' scope → PG X' etg (tTg X'.K tg)) (ht : ∀ {X' : Cx}, X'.N = X.N → GX D G X' scope → PTs X' ifs (tFc D G W0 cond)) (hk : ∀ {X' : Cx}, X'.N = X.N → GX D G X' scope → PE X' ekx (tF D G W0 kx)) (hv : ∀ {X' : Cx}, X'.N = X.N → GX D G X' scope → PE X' evx (tF D G W0 vx))
    (hf : foldPlain eiter = true) (hs : SlotsIn tg.slots (own.map (·.2))) : PE X (.DictComp ekx evx [⟨etg, eiter, ifs, 0⟩] scope pos) (tF D G W (.dcK kx vx tg src cond (own.map (·.2)))) := by
  have ok := blkC_of g hb
  have gb := fun (s : Shared) (H : Hp) (C : Addr) (cl : List (Str × Addr)) (fp : List Addr) => g.blk ok s H C cl fp
  exact (pe_dc g.calm g.nd hi ok (fun s H C cl fp => hg (X' := X.blk s H scope (compEnvC scope cl C X.env) fp) rfl (gb s H C cl fp)) (fun s H C cl fp => ht (X' := X.blk s H scope (compEnvC scope cl C X.env) fp) rfl (gb s H C cl fp)) (fun s H C cl fp => hk (X' := X.blk s H scope (compEnvC scope cl C X.env) fp) rfl (gb s H C cl fp)) (fun s H C cl fp => hv (X' := X.blk s H scope (compEnvC scope cl C X.env) fp) rfl (gb s H C cl fp)) fun x => fold_of hf).of fun σ H Q h => tDcK_of g hs h
theorem snd_dcT (g : GX D G X sc) {kx vx : IE} {tg : Tg} {src : Src} {cond : Option IE} {own : List (Str × Nat)} {ekx evx etg eiter : Expr} {ifs : List Expr} {scope : Scope} {pos : Pos} (hi : PI X etg eiter (tSrc D G W src)) (hb : blkC X.N sc scope own = true)
    (hg : ∀ {X' : Cx}, X'.N = X.N → GX D G X' scope → PG X' etg (tTg X'.K tg)) (ht : ∀ {X' : Cx}, X'.N = X.N → GX D G X' scope → PTs X' ifs (tFc D G W0 cond)) (hk : ∀ {X' : Cx}, X'.N = X.N → GX D G X' scope → PE X' ekx (tF D G W0 kx)) (hv : ∀ {X' : Cx}, X'.N = X.N → GX D G X' scope → PE X' evx (tF D G W0 vx))
    (hf : foldPlain eiter = true) (hs : SlotsIn tg.slots (own.map (·.2))) : PE X (.DictComp ekx evx [⟨etg, eiter, ifs, 0⟩] scope pos) (tF D G W (.dcT kx vx tg src cond (own.map (·.2)))) := by
  have ok := blkC_of g hb
  have gb := fun (s : Shared) (H : Hp) (C : Addr) (cl : List (Str × Addr)) (fp : List Addr) => g.blk ok s H C cl fp
  exact (pe_dcT (by have := g.un; omega) g.calm g.nd hi ok (fun s H C cl fp => hg (X' := X.blk s H scope (compEnvC scope cl C X.env) fp) rfl (gb s H C cl fp)) (fun s H C cl fp => ht (X' := X.blk s H scope (compEnvC scope cl C X.env) fp) rfl (gb s H C cl fp)) (fun s H C cl fp => hk (X' := X.blk s H scope (compEnvC scope cl C X.env) fp) rfl (gb s H C cl fp)) (fun s H C cl fp => hv (X' := X.blk s H scope (compEnvC scope cl C X.env) fp) rfl (gb s H C cl fp)) fun x => fold_of hf).of fun σ H Q h => tDcT_of g hs h
theorem snd_lcI (g : GX D G X sc) {elt a : IE} {tg : Tg} {vals : Bool} {cond : Option IE} {own : List (Str × Nat)} {eelt etg eiter ea : Expr} {ifs : List Expr} {scope : Scope} {pos : Pos} (hv : isView vals etg eiter = some ea) (ha : PE X ea (tF D G W a)) (hb : blkC X.N sc scope own = true)
    (hg : ∀ {X' : Cx}, X'.N = X.N → GX D G X' scope → PG X' etg (tTg X'.K tg)) (ht : ∀ {X' : Cx}, X'.N = X.N → GX D G X' scope → PTs X' ifs (tFc D G W0 cond)) (he : ∀ {X' : Cx}, X'.N = X.N → GX D G X' scope → PE X' eelt (tF D G W0 elt))
    (hf : foldPlain eiter = true) (hs : SlotsIn tg.slots (own.map (·.2))) : PE X (.ListComp eelt [⟨etg, eiter, ifs, 0⟩] scope pos) (tF D G W (.lcI elt tg vals a cond (own.map (·.2)))) := by
  have ok := blkC_of g hb
  exact (pe_ul (pe_lc g.calm g.nd (pi_view hv ha) ok (fun s H C cl fp => hg (X' := X.blk s H scope (compEnvC scope cl C X.env) fp) rfl (g.blk ok s H C cl fp)) (fun s H C cl fp => ht (X' := X.blk s H scope (compEnvC scope cl C X.env) fp) rfl (g.blk ok s H C cl fp)) (fun s H C cl fp => he (X' := X.blk s H scope (compEnvC scope cl C X.env) fp) rfl (g.blk ok s H C cl fp)) fun x => fold_of hf)).of fun σ H Q h => tLcI_of g hs h
theorem snd_forI (g : GX D G X sc) (hp : PassesOwn (model X.prog X.w) X.A X.env X.xe) {a : IE} {tg : Tg} {vals : Bool} {body : List IS} {etg eiter ea : Expr} {sb : List Stmt} {q : Pos} (hv : isView vals etg eiter = some ea) (ha : PE X ea (tF D G W a)) (ht : isTg X.N sc tg etg = true) (hb : PSs X sb (tSs D G W0 body)) (hf : foldPlain eiter = true) :
    PS X (.For etg eiter sb [] q) (tS D G W (.forI tg vals a body)) :=
  (ps_ul (ps_for hp g.calm (pi_view hv ha) (snd_tg g tg etg ht) hb (fun x => fold_of hf))).of fun E σ H h => tForI_of g h
end
end L2.TV

set_option maxHeartbeats 1000000
/-! isinstance over built-in types. -/
namespace L2.TV
open PySem PySem.Spec PyProof.Rows
def kdN : Kd → String
  | .tuple => "tuple" | .list => "list" | .dict => "dict" | .str => "str" | .int => "int" | .bool => "bool"
def tyN : T → String
  | .non => "NoneType" | .bl _ => "bool" | .int _ => "int" | .str _ => "str" | .tup _ => "tuple" | .lst _ => "list" | .dk _ => "dict" | .dt _ => "dict" | _ => ""
section
variable {D : Wd} {G : Cfg} {X : Cx} {sc : Scope} {W : WX'} {ρ : List Addr} {L : Addr → Prop} {H : Hp} {K : PySem.W.Frag} {v : V}
theorem kd_ok {k : Kd} {t : T} {b : Bool} (h : kdT k t = some b) : PySem.W.kitOne K (.type (tyN t)) (.type (kdN k)) = some b := by
  refine kit_ty ?_
  have e : ∀ r : Bool, kdT k t = some r → kitB (tyN t) (kdN k) = some r := by
    intro r
    cases k <;> cases t <;> first | (intro h; cases h; done) | (intro h; cases h; dsimp only [tyN, kdN]; decide +kernel)
  exact e b h
theorem ty_ok {t : T} {k : Kd} {b : Bool} (h : kdT k t = some b) (r : Rp K ρ L H v t) : TyX K H v (.type (tyN t)) := by
  cases r with
  | non => exact .base .non
  | bl b => exact .base (.bl b)
  | int i => exact .base (.int i)
  | str x => exact .base (.str x)
  | tup f _ =>
    rcases f.sq with (h | ⟨o, h⟩) | ⟨o, _, _, e, c, _⟩
    · exact .base (.tup h)
    · exact .fTuple h
    · exact .kTuple e c
  | lst f _ _ => exact .base (.lst f)
  | dk f _ _ _ =>
    rcases f with f | ⟨o, f⟩
    · exact .base (.dK f)
    · exact .fDict f
  | dt f _ _ _ => exact .base (.dT f)
  | scr _ => cases k <;> cases h
  | ref _ => cases k <;> cases h
theorem kd_boot (k : Kd) : bootBuiltins (Str.ofString (kdN k)) = some (.type (kdN k)) ∧ kdN k ∈ "dict" :: "tuple" :: bltN := by cases k <;> exact ⟨by decide +kernel, by decide⟩
theorem kd_in (k : Kd) : kdN k ∈ bltN := by cases k <;> decide
theorem snd_isi (g : GX D G X sc) {a : IE} {k : Kd} {ea : Expr} {x y : Str} {p p' p2 : Pos} (hx : glB sc x "isinstance" = true) (hy : glB sc y (kdN k) = true) (ha : PE X ea (tF D G W a)) (hs : notStar ea = true) : PE X (.Call (.Name x p) [ea, .Name y p2] [] p') (tF D G W (.isi a [k])) := by
  obtain ⟨rfl, gl, hd, hn'⟩ := g.gl hx
  obtain ⟨rfl, gy, dy, ny⟩ := g.gl hy
  have hb := pe_bltn (v := .ty (kdN k)) gy (g.blt _ (kd_in k)) (kd_boot k).1 rfl (pos := p2) ny dy
  have pa : PA X [ea, .Name (Str.ofString (kdN k)) p2] (tCons (tF D G W a) (tCons (tC (.ty (kdN k))) tNil)) := pa_cons ha (pa_cons hb pa_nil (starEach_of rfl)) (starEach_of hs)
  have hse : starEach [ea, .Name (Str.ofString (kdN k)) p2] X.env = (false, eval ea X.env) :: starEach [.Name (Str.ofString (kdN k)) p2] X.env := starEach_of hs
  have hse2 : starEach [.Name (Str.ofString (kdN k)) p2] X.env = (false, eval (.Name (Str.ofString (kdN k)) p2) X.env) :: starEach [] X.env := starEach_of rfl
  have hpl : (backTo p' (starEach [.Name (Str.ofString (kdN k)) p2] X.env)).any (·.1) = false := by rw [hse2]; rfl
  refine (pe_callB call_isi gl (g.blt "isinstance" (by decide)) (by decide +kernel) pa hn' hd hse hpl).of fun σ H Q ⟨O, ρ, s, rs, h⟩ => ?_
  simp only [ev] at h
  refine one_of rs h fun x s1 v1 O' ρ1 H1 sub rs1 l q _ q1 _ => ?_
  cases e1 : x.t with
  | none => rw [e1] at q; exact q.elim
  | some t =>
    rw [e1] at q
    dsimp only at q
    obtain ⟨r, e2, q⟩ := Out.opt q
    rw [Option.map_eq_some_iff] at e2
    obtain ⟨b, e2, rfl⟩ := e2
    exact ⟨v1, .ty (kdN k), .type (tyN t), .type (kdN k), b, rfl, .ty _, g.hK ▸ ty_ok e2 (q1 t e1), kd_ok e2, q _ ρ1 H1 l ⟨rs1.sub sub, .bl b⟩⟩
end
end L2.TV

set_option maxHeartbeats 1000000
/-! Two comparisons in a chain. -/
namespace L2.TV
open PySem PySem.Spec PyProof.Rows
section
variable {D : Wd} {G : Cfg} {X : Cx} {W : WX'} {sc : Scope} {H : Hp} {σ : St}
theorem chn_of (g : GX D G X sc) (o p : Cop) {a b c : IE} {Q : VK} (h : tF D G W (.chn o p a b c) σ H Q) : tChain (rC X.K (cmpT o)) (rC X.K (cmpT p)) (tF D G W a) (tF D G W b) (tF D G W c) σ H Q := by
  obtain ⟨O, ρ, s, rs, h⟩ := h
  simp only [ev] at h
  show tF D G W a σ H fun x H1 => tF D G W b σ H1 fun y H2 => _
  refine two_of rs h fun x y s2 v1 v2 O' ρ2 H2 sub rs2 l q q1 q2 qy _ => ?_
  cases e1 : x.res s2 with
  | none => rw [e1] at q; exact q.elim
  | some t =>
    cases e2 : y.t with
    | none => rw [e1, e2] at q; exact q.elim
    | some u =>
      rw [e1, e2] at q
      cases e3 : cmpT o t u with
      | none => simp only [e3] at q; exact q.elim
      | some k =>
        simp only [e3, R.opt, R.bind] at q
        have ry := qy u e2
        refine ⟨ρ2, Lv O ρ2 s2.env σ, t, u, k, g.hK ▸ (q1 t e1).sub (Lv.sub sub), g.hK ▸ .v ry, e3, k, rfl, ?_⟩
        have rso := rs2.sub (D := D) sub
        cases k with
        | false => exact q _ ρ2 H2 l ⟨rso, .bl false⟩
        | true =>
          rw [if_pos rfl] at q
          change Out D W O ρ2 s2.env σ H2 (R.bind _ _) _ at q
          refine ⟨O, ρ2, s2, rso, (Out.bind q).mono fun z s4 h4 v3 ρ4 H4 l4 ok4 => ?_⟩
          obtain ⟨O4, sub4, rs4, hold4⟩ := ok4.hold
          have q4 := h4 ρ4 H4 l4
          cases e4 : z.res s4 with
          | none => rw [e4] at q4; exact q4.elim
          | some w =>
            rw [e4] at q4
            obtain ⟨r, e, q5⟩ := Out.opt q4
            rw [Option.map_eq_some_iff] at e
            obtain ⟨k2, e5, rfl⟩ := e
            exact ⟨ρ4, Lv O ρ4 s4.env σ, u, w, k2, g.hK ▸ .v (ry.le rso l4), g.hK ▸ (hold4 Le.refl rs4 e4).sub (Lv.sub sub4), e5, q5 _ ρ4 H4 (l.trans l4) ⟨rs4.sub sub4, .bl k2⟩⟩
theorem lastM_of {op1 op2 : CmpOp} {e1 e2 : Expr} (h : notSet e2 = true) : lastMarks [op1, op2] [e1, e2] = false := behind_of (op := op2) h
theorem snd_chn (g : GX D G X sc) (o p : Cop) {a b c : IE} {ea eb ec : Expr} {ps : Pos} (ha : PE X ea (tF D G W a)) (hb : PE X eb (tF D G W b)) (hc : PE X ec (tF D G W c)) (hn : notSet ec = true) : PE X (.Compare ea [o.op, p.op] [eb, ec] ps) (tF D G W (.chn o p a b c)) := by
  have hu : X.A.units + 65 < cLine := by have := g.un; omega
  exact (pe_chain (op_cmp hu o) (op_cmp hu p) ha hb hc (lastM_of hn)).of fun σ H Q => chn_of g o p
theorem chn_bl {o p : Cop} {a b c : IE} {s : S} {r : Rt} {s' : S} (h : ev G (.chn o p a b c) s = .ok r s') : ∃ k, r = .v (.bl k) := by
  simp only [ev] at h
  cases e1 : ev G a s with
  | bad => rw [e1] at h; cases h
  | err c fs s1 => rw [e1] at h; cases h
  | ok x s1 =>
    rw [e1] at h
    dsimp only [R.bind] at h
    cases e2 : ev G b s1 with
    | bad => rw [e2] at h; cases h
    | err c fs s1 => rw [e2] at h; cases h
    | ok y s2 =>
      rw [e2] at h
      dsimp only at h
      split at h
      · rename_i t u _ _
        cases e3 : cmpT o t u with
        | none => rw [e3] at h; cases h
        | some k =>
          rw [e3] at h
          dsimp only [R.opt] at h
          cases k with
          | false => cases h; exact ⟨false, rfl⟩
          | true =>
            rw [if_pos rfl] at h
            cases e4 : ev G c s2 with
            | bad => rw [e4] at h; cases h
            | err c fs s1 => rw [e4] at h; cases h
            | ok z s4 =>
              rw [e4] at h
              dsimp only at h
              split at h
              · rename_i w _
                cases e5 : cmpT p u w with
                | none => rw [e5] at h; cases h
                | some k => rw [e5] at h; cases h; exact ⟨k, rfl⟩
              · cases h
      · cases h
theorem snd_tchn (g : GX D G X sc) (o p : Cop) {a b c : IE} {ea eb ec : Expr} {ps : Pos} (ha : PE X ea (tF D G W a)) (hb : PE X eb (tF D G W b)) (hc : PE X ec (tF D G W c)) (hn : notSet ec = true) : PT X (.Compare ea [o.op, p.op] [eb, ec] ps) (tFb D G W (.chn o p a b c)) := by
  have hu : X.A.units + 65 < cLine := by have := g.un; omega
  exact snd_tbl (pt_chain (op_cmp hu o) (op_cmp hu p) ha hb hc (lastM_of hn)) (fun σ H Q h => chn_of g o p h) (fun s => by simp only [evB] <;> rfl) fun s r s' e => chn_bl e
end
end L2.TV

set_option maxHeartbeats 1000000
/-! The syntax that a text of the IR stands for, and the theorem that joins them. -/
namespace L2.TV
open PySem PySem.Spec PyProof.Rows
section
variable {D : Wd} {G : Cfg} {X : Cx} {sc : Scope} {W : WX'} {O O' O1 O2 : OX} {ρ ρ' ρ0 ρ1 : List Addr} {env env' env0 : List Slot} {σ σ' σ0 : St} {H H0 H' H1 : Hp} {s s' s1 : S} {v : V} {r : Rt} {K : PySem.W.Frag} {L L' : Addr → Prop} {i : Nat}
theorem nest_s : ∀ {as : List IE} {σ : St} {H : Hp} {Q : List V → Hp → Prop}, tFs D G W as σ H Q → nestT D G W as σ H Q
  | [], σ, H, Q, ⟨O, ρ, s, rs, h⟩ => by
    simp only [evs] at h
    exact h [] ρ H Le.refl rs .nil
  | a :: as, σ, H, Q, ⟨O, ρ, s, rs, h⟩ => by
    simp only [evs] at h
    refine one_of rs h fun x s1 v1 O' ρ1 H1 sub rs1 l q _ q1 _ => ?_
    cases e1 : x.t with
    | none => rw [e1] at q; exact q.elim
    | some t =>
      rw [e1] at q
      have r1 := q1 t e1
      have rs1' := rs1.sub (D := D) sub
      exact nest_s ⟨O, ρ1, s1, rs1', (Out.bind q).mono fun ts s2 h2 vs ρ2 H2 l2 rs2 rv => h2 ρ2 H2 l2 (v1 :: vs) ρ2 H2 (l.trans l2) rs2 (.cons (r1.le rs1' l2) rv)⟩
theorem PA.ofS {as : List IE} {es : List Expr} (h : PA X es (nestT D G W as)) : PA X es (tFs D G W as) := h.of fun σ H Q => nest_s
/-- a comparison, as a value and as a test -/
theorem cmp_of (g : GX D G X sc) (o : Cop) {a b : IE} {Q : VK} (h : tF D G W (.cmp o a b) σ H Q) : tOp (rC X.K (cmpT o)) (tF D G W a) (tF D G W b) σ H Q := by
  obtain ⟨O, ρ, s, rs, h⟩ := h
  simp only [ev] at h
  refine two_of rs h fun x y s2 v1 v2 O' ρ2 H2 sub rs2 l q q1 q2 _ _ => ?_
  cases e1 : x.res s2 with
  | none => rw [e1] at q; exact q.elim
  | some t =>
    cases e2 : y.res s2 with
    | none => rw [e1, e2] at q; exact q.elim
    | some u =>
      rw [e1, e2] at q
      obtain ⟨r, e, q⟩ := Out.opt q
      rw [Option.map_eq_some_iff] at e
      obtain ⟨k, e, rfl⟩ := e
      exact ⟨ρ2, Lv O' ρ2 s2.env σ, t, u, k, g.hK ▸ q1 t e1, g.hK ▸ q2 u e2, e, q _ ρ2 H2 l ⟨rs2.sub sub, .bl k⟩⟩
theorem cmp_bl {o : Cop} {a b : IE} {s : S} {r : Rt} {s' : S} (h : ev G (.cmp o a b) s = .ok r s') : ∃ k, r = .v (.bl k) := by
  simp only [ev] at h
  cases e1 : ev G a s with
  | bad => rw [e1] at h; cases h
  | err c fs s1 => rw [e1] at h; cases h
  | ok x s1 =>
    rw [e1] at h
    dsimp only [R.bind] at h
    cases e2 : ev G b s1 with
    | bad => rw [e2] at h; cases h
    | err c fs s1 => rw [e2] at h; cases h
    | ok y s2 =>
      rw [e2] at h
      dsimp only at h
      split at h
      · rename_i t u _ _
        cases e3 : cmpT o t u with
        | none => rw [e3] at h; cases h
        | some k => rw [e3] at h; cases h; exact ⟨k, rfl⟩
      · cases h
theorem snd_tcmp (g : GX D G X sc) (o : Cop) {a b : IE} {ea eb : Expr} {p : Pos} (ha : PE X ea (tF D G W a)) (hb : PE X eb (tF D G W b)) (hn : notSet eb = true) : PT X (.Compare ea [o.op] [eb] p) (tFb D G W (.cmp o a b)) := by
  have hu : X.A.units + 65 < cLine := by have := g.un; omega
  exact snd_tbl (pt_cmpR (op_cmp hu o) ha hb (behind_of hn)) (fun σ H Q => cmp_of g o) (fun s => by simp only [evB] <;> rfl) fun s r s' e => cmp_bl e

/-! ### the check -/
def plainTest : Expr → Bool
  | .UnaryOp .Not _ _ => false
  | .BoolOp _ _ _ => false
  | .IfExp _ _ _ _ => false
  | .Compare _ _ _ _ => false
  | _ => true
theorem plain_true {e : Expr} {env : Env} (h : plainTest e = true) (whole : Sem Value) : isTrue e env whole = (do let v ← whole; standAt e.pos; holding [v] (truthy v)) := by
  cases e <;> first | rfl | (cases h) | skip
  all_goals (rename_i op x p; cases op <;> first | rfl | cases h)
def fnN : Fn → String
  | .len => "len" | .tuple => "tuple" | .list => "list" | .all => "all" | .any => "any" | .int => "int" | .abs => "abs" | .repr => "repr" | .min2 => "min" | .max2 => "max" | .sorted => "sorted" | .dictK => "dict" | _ => ""
def fn1B : Fn → Bool
  | .len => true | .tuple => true | .list => true | .all => true | .any => true | .int => true | .abs => true | .repr => true | .sorted => true | .dictK => true | _ => false
def fn2B : Fn → Bool
  | .min2 => true | .max2 => true | _ => false
def isSS : Fn → Bool
  | .sortset => true | _ => false
def ownN (N : List Str) (own : List Nat) : List (Str × Nat) := own.map fun i => (N.getD i (Str.ofString ""), i)
theorem ownN_snd (N : List Str) (own : List Nat) : (ownN N own).map (·.2) = own := by
  unfold ownN
  rw [List.map_map]
  exact List.map_id own
def slotsB (is own : List Nat) : Bool := is.all fun i => own.contains i
theorem slotsB_of {is own : List Nat} (h : slotsB is own = true) : SlotsIn is own := fun i hi => by
  have := List.all_eq_true.mp h i hi
  simpa using this
def isKE (sc : Scope) : KE → Expr → Bool
  | .s x, e => match e with
    | .Constant (.str y) _ _ => decide (Str.ofString x = y)
    | _ => false
  | .i i, e => match e with
    | .Constant (.int j) _ _ => decide (i = j)
    | _ => false
  | .c n, e => match e with
    | .Name x _ => glB sc x n
    | _ => false
section
variable (pm : String → Option (List Str)) (N : List Str)
mutual
def isE (tst : Bool) (sc : Scope) : IE → Expr → Bool
  | .var i, e => (!tst || plainTest e) && match e with
    | .Name x _ => slotB N sc i x
    | _ => false
  | .peek i, e => (!tst || plainTest e) && match e with
    | .Name x _ => slotB N sc i x
    | _ => false
  | .int i, e => (!tst || plainTest e) && match e with
    | .Constant (.int j) _ _ => decide (i = j)
    | _ => false
  | .str x, e => (!tst || plainTest e) && match e with
    | .Constant (.str y) _ _ => decide (Str.ofString x = y)
    | _ => false
  | .bl b, e => (!tst || plainTest e) && match e with
    | .Constant (.bool c) _ _ => decide (b = c)
    | _ => false
  | .non, e => (!tst || plainTest e) && match e with
    | .Constant .none _ _ => true
    | _ => false
  | .cst n, e => (!tst || plainTest e) && match e with
    | .Name x _ => glB sc x n
    | _ => false
  | .bin o a b, e => (!tst || plainTest e) && match e with
    | .BinOp ea op eb _ => decide (op = o.op) && isE false sc a ea && isE false sc b eb
    | _ => false
  | .cmp o a b, e => match e with
    | .Compare ea ops es _ => match ops, es with
      | [op], [eb] => decide (op = o.op) && notSet eb && isE false sc a ea && isE false sc b eb
      | _, _ => false
    | _ => false
  | .chn o p a b c, e => match e with
    | .Compare ea ops es _ => match ops, es with
      | [op, op'], [eb, ec] => decide (op = o.op) && decide (op' = p.op) && notSet ec && isE false sc a ea && isE false sc b eb && isE false sc c ec
      | _, _ => false
    | _ => false
  | .and a b, e => match e with
    | .BoolOp op es p => decide (op = .And) && match es with
      | [x, y] => isE tst sc a x && isE tst sc b y
      | x :: y :: z :: zs => isE tst sc a x && isE tst sc b (.BoolOp .And (y :: z :: zs) p)
      | _ => false
    | _ => false
  | .or a b, e => match e with
    | .BoolOp op es p => decide (op = .Or) && match es with
      | [x, y] => isE tst sc a x && isE tst sc b y
      | x :: y :: z :: zs => isE tst sc a x && isE tst sc b (.BoolOp .Or (y :: z :: zs) p)
      | _ => false
    | _ => false
  | .not a, e => match e with
    | .UnaryOp op x _ => decide (op = .Not) && isE tst sc a x
    | _ => false
  | .neg a, e => (!tst || plainTest e) && match e with
    | .UnaryOp op x _ => decide (op = .USub) && isE false sc a x
    | _ => false
  | .ife c a b, e => (!tst || plainTest e) && match e with
    | .IfExp ec ea eb _ => isE true sc c ec && isE false sc a ea && isE false sc b eb
    | _ => false
  | .tup as, e => (!tst || plainTest e) && match e with
    | .Tuple es _ _ => isEs sc as es
    | _ => false
  | .lst as, e => (!tst || plainTest e) && match e with
    | .List es _ => isEs sc as es
    | _ => false
  | .cel as, e => (!tst || plainTest e) && match e with
    | .List es _ => isEs sc as es
    | _ => false
  | .newK, e => (!tst || plainTest e) && match e with
    | .Dict [] [] _ => true
    | _ => false
  | .newT, e => (!tst || plainTest e) && match e with
    | .Dict [] [] _ => true
    | _ => false
  | .dispK vs ks, e => (!tst || plainTest e) && match e with
    | .Dict keys values _ => !keys.isEmpty && decide (keys.length ≤ 15) && isKV sc vs ks keys values
    | _ => false
  | .ix a b, e => (!tst || plainTest e) && match e with
    | .Subscript ea eb _ => notSlice eb && isE false sc a ea && isE false sc b eb
    | _ => false
  | .sl a lo hi, e => (!tst || plainTest e) && match e with
    | .Subscript ea (.Slice l h none _) _ => isE false sc a ea && isO sc lo l && isO sc hi h
    | _ => false
  | .rev _, _ => false
  | .lc elt tg src cond own, e => (!tst || plainTest e) && match e with
    | .ListComp eelt gens scope _ => match gens with
      | [⟨etg, eiter, ifs, k⟩] => decide (k = 0) && blkC N sc scope (ownN N own) && slotsB tg.slots own && foldPlain eiter && isTg N scope tg etg && isSrc sc src eiter etg && isC scope cond ifs && isE false scope elt eelt
      | _ => false
    | _ => false
  | .lc2 elt tg src cond tg1 src1 cond1 own own1, e => (!tst || plainTest e) && match e with
    | .ListComp eelt gens scope _ => match gens with
      | [⟨etg, eiter, ifs, k⟩, ⟨etg1, eiter1, ifs1, k1⟩] => decide (k = 0) && decide (k1 = 0) && blkC N sc scope (ownN N own) && slotsB tg.slots own && slotsB tg1.slots own1 && slotsB own1 own && foldPlain eiter && foldPlain eiter1 &&
        isTg N scope tg etg && isTg N scope tg1 etg1 && isSrc sc src eiter etg && isC scope cond ifs && isSrc scope src1 eiter1 etg1 && isC scope cond1 ifs1 && isE false scope elt eelt
      | _ => false
    | _ => false
  | .fn f as, e => (!tst || plainTest e) && match as with
    | [a] => match e with
      | .Call (.Name x _) [ea] [] _ => (fn1B f && glB sc x (fnN f) && notStar ea && isE false sc a ea) || (isSS f && match ea with
        | .Call (.Name y _) [eb] [] _ => glB sc x "sorted" && glB sc y "set" && notStar eb && isE false sc a eb
        | _ => false)
      | _ => false
    | [a, b] => match e with
      | .Call (.Name x _) [ea, eb] [] _ => fn2B f && glB sc x (fnN f) && notStar ea && notStar eb && isE false sc a ea && isE false sc b eb
      | _ => false
    | _ => false
  | .isi a ks, e => (!tst || plainTest e) && match ks with
    | [k] => match e with
      | .Call (.Name x _) [ea, .Name y _] [] _ => glB sc x "isinstance" && glB sc y (kdN k) && notStar ea && isE false sc a ea
      | _ => false
    | _ => false
  | .pop i arg, e => (!tst || plainTest e) && match arg with
    | none => match e with
      | .Call (.Attribute (.Name x _) m ap) [] [] cp => decide (m = Str.ofString "pop") && slotB N sc i x && ap.endLine == cp.line
      | _ => false
    | some a => match e with
      | .Call (.Attribute (.Name x _) m ap) [ea] [] cp => decide (m = Str.ofString "pop") && slotB N sc i x && ap.endLine == cp.line && notStar ea && isE false sc a ea
      | _ => false
  | .call f as, e => (!tst || plainTest e) && match e with
    | .Call (.Name x _) es [] _ => callN_ok pm sc x f && es.all notStar && isEs sc as es
    | _ => false
  | .callK f as is, e => (!tst || plainTest e) && match e with
    | .Call (.Name x _) es kws _ => kwCall pm sc x f es.length kws is && es.all notStar && isK sc es kws as
    | _ => false
  | .rng l a b, e => (!tst || plainTest e) && match b with
    | none => match e with
      | .Call (.Name y _) [.Call (.Name x _) [ea] [] _] [] _ => glB sc y (if l then "list" else "tuple") && glB sc x "range" && notStar ea && isE false sc a ea
      | _ => false
    | some b => match e with
      | .Call (.Name y _) [.Call (.Name x _) [ea, eb] [] _] [] _ => glB sc y (if l then "list" else "tuple") && glB sc x "range" && notStar ea && notStar eb && isE false sc a ea && isE false sc b eb
      | _ => false
  | .dcK kx vx tg src cond own, e => (!tst || plainTest e) && match e with
    | .DictComp ekx evx gens scope _ => match gens with
      | [⟨etg, eiter, ifs, k⟩] => decide (k = 0) && blkC N sc scope (ownN N own) && slotsB tg.slots own && foldPlain eiter && isTg N scope tg etg && isSrc sc src eiter etg && isC scope cond ifs && isE false scope kx ekx && isE false scope vx evx
      | _ => false
    | _ => false
  | .dcT kx vx tg src cond own, e => (!tst || plainTest e) && match e with
    | .DictComp ekx evx gens scope _ => match gens with
      | [⟨etg, eiter, ifs, k⟩] => decide (k = 0) && blkC N sc scope (ownN N own) && slotsB tg.slots own && foldPlain eiter && isTg N scope tg etg && isSrc sc src eiter etg && isC scope cond ifs && isE false scope kx ekx && isE false scope vx evx
      | _ => false
    | _ => false
  | .tix n a, e => (!tst || plainTest e) && match e with
    | .Subscript (.Name x _) ea _ => glB sc x n && notSlice ea && isE false sc a ea
    | _ => false
  | .tin no n a, e => match e with
    | .Compare ea ops es _ => match ops, es with
      | [op], [.Name x _] => decide (op = if no then .NotIn else .In) && glB sc x n && isE false sc a ea
      | _, _ => false
    | _ => false
  | .lcI elt tg vals a cond own, e => (!tst || plainTest e) && match e with
    | .ListComp eelt gens scope _ => match gens with
      | [⟨etg, eiter, ifs, k⟩] => match isView vals etg eiter with
        | some ea => decide (k = 0) && blkC N sc scope (ownN N own) && slotsB tg.slots own && foldPlain eiter && isTg N scope tg etg && isE false sc a ea && isC scope cond ifs && isE false scope elt eelt
        | none => false
      | _ => false
    | _ => false
def isEs (sc : Scope) : List IE → List Expr → Bool
  | [], [] => true
  | a :: as, e :: es => notStar e && isE false sc a e && isEs sc as es
  | _, _ => false
def isKV (sc : Scope) : List IE → List KE → List (Option Expr) → List Expr → Bool
  | [], [], [], [] => true
  | v :: vs, k :: ks, some ek :: keys, ev :: values => isKE sc k ek && isE false sc v ev && isKV sc vs ks keys values
  | _, _, _, _ => false
def isK (sc : Scope) : List Expr → List Keyword → List IE → Bool
  | [], [], [] => true
  | e :: es, kws, a :: as => notStar e && isE false sc a e && isK sc es kws as
  | [], k :: kws, a :: as => isE false sc a k.value && isK sc [] kws as
  | _, _, _ => false
def isO (sc : Scope) : Option IE → Option Expr → Bool
  | none, none => true
  | some a, some e => isE false sc a e
  | _, _ => false
def isC (sc : Scope) : Option IE → List Expr → Bool
  | none, [] => true
  | some a, [e] => isE true sc a e
  | _, _ => false
def isSrc (sc : Scope) : Src → Expr → Expr → Bool
  | .e a, e, _ => isE false sc a e
  | .range1 a, e, _ => match e with
    | .Call (.Name x _) [ea] [] _ => glB sc x "range" && notStar ea && isE false sc a ea
    | _ => false
  | .range2 a b, e, _ => match e with
    | .Call (.Name x _) [ea, eb] [] _ => glB sc x "range" && notStar ea && notStar eb && isE false sc a ea && isE false sc b eb
    | _ => false
  | .enum a, e, tg => match tg with
    | .Tuple _ _ _ => match e with
      | .Call (.Name x _) [ea] [] _ => glB sc x "enumerate" && notStar ea && isE false sc a ea
      | _ => false
    | _ => false
  | .zip _ _, _, _ => false
end
end
end
end L2.TV

set_option maxHeartbeats 2000000
namespace L2.TV
open PySem PySem.Spec PyProof.Rows
section
variable {D : Wd} {G : Cfg}
def Snd (D : Wd) (G : Cfg) (X : Cx) (W : WX') (tst : Bool) (ir : IE) (e : Expr) : Prop := match tst with
  | true => PT X e (tFb D G W ir)
  | false => PE X e (tF D G W ir)
theorem leafOk {X : Cx} {W : WX'} {sc : Scope} {tst : Bool} {ir : IE} {e : Expr} (g : GX D G X sc) (hb : ∀ s, evB G ir s = (ev G ir s).bind fun x s1 => match x.res s1 with | some t => R.opt (truth t) s1 | none => .bad) (ht : (!tst || plainTest e) = true) (he : PE X e (tF D G W ir)) : Snd D G X W tst ir e := by
  cases tst with
  | false => exact he
  | true => exact snd_test g he hb (fun w => plain_true (by simpa using ht) w)
theorem fn1_of {X : Cx} {sc : Scope} (g : GX D G X sc) {f : Fn} (h : fn1B f = true) : ∃ bt : BT, fnN f ∈ bltN ∧ bootBuiltins (Str.ofString (fnN f)) = some (BT.val bt) ∧ CallR X bt.val (rFn1 X.K fun t => fnT f [t]) := by
  have hu : X.A.units + 65 < cLine := by have := g.un; omega
  cases f with
  | len => exact ⟨.b "len", by decide, by decide +kernel, fn_len⟩
  | tuple => exact ⟨.t "tuple", by decide, by decide +kernel, fn_tuple⟩
  | list => exact ⟨.t "list", by decide, by decide +kernel, fn_list⟩
  | all => exact ⟨.b "all", by decide, by decide +kernel, fn_all g.calm⟩
  | any => exact ⟨.b "any", by decide, by decide +kernel, fn_any g.calm⟩
  | int => exact ⟨.t "int", by decide, by decide +kernel, fn_int⟩
  | abs => exact ⟨.b "abs", by decide, by decide +kernel, fn_abs⟩
  | repr => exact ⟨.b "repr", by decide, by decide +kernel, fn_repr g.gu hu g.sm⟩
  | sorted => exact ⟨.b "sorted", by decide, by decide +kernel, fn_sorted g.calm⟩
  | dictK => exact ⟨.t "dict", by decide, by decide +kernel, fn_dictK g.calm⟩
  | _ => cases h
theorem fn2_of {X : Cx} {sc : Scope} (g : GX D G X sc) {f : Fn} (h : fn2B f = true) : ∃ bt : BT, fnN f ∈ bltN ∧ bootBuiltins (Str.ofString (fnN f)) = some (BT.val bt) ∧ CallR X bt.val (rFn2 X.K fun t u => fnT f [t, u]) := by
  cases f with
  | min2 => exact ⟨.b "min", by decide, by decide +kernel, fn_min2 g.calm⟩
  | max2 => exact ⟨.b "max", by decide, by decide +kernel, fn_max2 g.calm⟩
  | _ => cases h
theorem hb_leaf (ir : IE) (h : match ir with | .and _ _ => False | .or _ _ => False | .not _ => False | _ => True) : ∀ s, evB G ir s = (ev G ir s).bind fun x s1 => match x.res s1 with | some t => R.opt (truth t) s1 | none => .bad := by
  intro s
  cases ir <;> first | exact h.elim | (simp only [evB] <;> rfl)
theorem snd_ke {X : Cx} {W : WX'} {sc : Scope} {k : KE} {e : Expr} (g : GX D G X sc) (h : isKE sc k e = true) : PE X e (tF D G W (keIR k)) := by
  cases k with
  | s x =>
    simp only [isKE] at h
    split at h
    · have := of_decide_eq_true h; subst this; exact snd_str
    · cases h
  | i i =>
    simp only [isKE] at h
    split at h
    · have := of_decide_eq_true h; subst this; exact snd_int
    · cases h
  | c n =>
    simp only [isKE] at h
    split at h
    · exact snd_cst g h
    · cases h
variable {N : List Str}
mutual
theorem sndE : ∀ (ir : IE) (tst : Bool) (sc : Scope) (e : Expr) {X : Cx} {W : WX'}, X.N = N → GX D G X sc → Takes X W → isE G.params N tst sc ir e = true → Snd D G X W tst ir e
  | .var i, tst, sc, e, X, W, hN, g, tk, h => by
    simp only [isE, Bool.and_eq_true] at h
    split at h
    · exact leafOk g (hb_leaf _ trivial) h.1 (snd_var g (hN ▸ h.2))
    · cases h.2
  | .peek i, tst, sc, e, X, W, hN, g, tk, h => by
    simp only [isE, Bool.and_eq_true] at h
    split at h
    · exact leafOk g (hb_leaf _ trivial) h.1 (snd_peek g (hN ▸ h.2))
    · cases h.2
  | .int i, tst, sc, e, X, W, hN, g, tk, h => by
    simp only [isE, Bool.and_eq_true] at h
    split at h
    · have e1 := of_decide_eq_true h.2; subst e1
      exact leafOk g (hb_leaf _ trivial) h.1 snd_int
    · cases h.2
  | .str x, tst, sc, e, X, W, hN, g, tk, h => by
    simp only [isE, Bool.and_eq_true] at h
    split at h
    · have e1 := of_decide_eq_true h.2; subst e1
      exact leafOk g (hb_leaf _ trivial) h.1 snd_str
    · cases h.2
  | .bl b, tst, sc, e, X, W, hN, g, tk, h => by
    simp only [isE, Bool.and_eq_true] at h
    split at h
    · have e1 := of_decide_eq_true h.2; subst e1
      exact leafOk g (hb_leaf _ trivial) h.1 snd_bl
    · cases h.2
  | .non, tst, sc, e, X, W, hN, g, tk, h => by
    simp only [isE, Bool.and_eq_true] at h
    split at h
    · exact leafOk g (hb_leaf _ trivial) h.1 snd_non
    · cases h.2
  | .cst n, tst, sc, e, X, W, hN, g, tk, h => by
    simp only [isE, Bool.and_eq_true] at h
    split at h
    · exact leafOk g (hb_leaf _ trivial) h.1 (snd_cst g h.2)
    · cases h.2
  | .bin o a b, tst, sc, e, X, W, hN, g, tk, h => by
    simp only [isE, Bool.and_eq_true] at h
    split at h
    · simp only [Bool.and_eq_true, decide_eq_true_eq] at h
      obtain ⟨h1, ⟨rfl, h3⟩, h4⟩ := h
      exact leafOk g (hb_leaf _ trivial) h1 (snd_bin g o (sndE a false sc _ hN g tk h3) (sndE b false sc _ hN g tk h4))
    · cases h.2
  | .cmp o a b, tst, sc, e, X, W, hN, g, tk, h => by
    simp only [isE] at h
    split at h
    · split at h
      · simp only [Bool.and_eq_true, decide_eq_true_eq] at h
        obtain ⟨⟨⟨rfl, h2⟩, h3⟩, h4⟩ := h
        have pa := sndE a false sc _ hN g tk h3
        have pb := sndE b false sc _ hN g tk h4
        cases tst with
        | false => exact snd_cmp g o pa pb h2
        | true => exact snd_tcmp g o pa pb h2
      · cases h
    · cases h
  | .chn o p a b c, tst, sc, e, X, W, hN, g, tk, h => by
    simp only [isE] at h
    split at h
    · split at h
      · simp only [Bool.and_eq_true, decide_eq_true_eq] at h
        obtain ⟨⟨⟨⟨⟨rfl, rfl⟩, h2⟩, h3⟩, h4⟩, h5⟩ := h
        have pa := sndE a false sc _ hN g tk h3
        have pb := sndE b false sc _ hN g tk h4
        have pc := sndE c false sc _ hN g tk h5
        cases tst with
        | false => exact snd_chn g o p pa pb pc h2
        | true => exact snd_tchn g o p pa pb pc h2
      · cases h
    · cases h
  | .and a b, tst, sc, e, X, W, hN, g, tk, h => by
    simp only [isE] at h
    split at h
    · simp only [Bool.and_eq_true, decide_eq_true_eq] at h
      obtain ⟨rfl, h⟩ := h
      split at h
      · simp only [Bool.and_eq_true] at h
        have pa := sndE a tst sc _ hN g tk h.1
        have pb := sndE b tst sc _ hN g tk h.2
        cases tst with
        | false => exact snd_and g pa (pe_one pb)
        | true => exact (snd_tand pa (pw_and1 pb)).pt
      · simp only [Bool.and_eq_true] at h
        have pa := sndE a tst sc _ hN g tk h.1
        have pb := sndE b tst sc _ hN g tk h.2
        cases tst with
        | false => exact snd_and g pa pb
        | true => exact (snd_tand pa ⟨fun w => pb.run⟩).pt
      · cases h
    · cases h
  | .or a b, tst, sc, e, X, W, hN, g, tk, h => by
    simp only [isE] at h
    split at h
    · simp only [Bool.and_eq_true, decide_eq_true_eq] at h
      obtain ⟨rfl, h⟩ := h
      split at h
      · simp only [Bool.and_eq_true] at h
        have pa := sndE a tst sc _ hN g tk h.1
        have pb := sndE b tst sc _ hN g tk h.2
        cases tst with
        | false => exact snd_or g pa (pe_one pb)
        | true => exact (snd_tor pa (pw_or1 pb)).pt
      · simp only [Bool.and_eq_true] at h
        have pa := sndE a tst sc _ hN g tk h.1
        have pb := sndE b tst sc _ hN g tk h.2
        cases tst with
        | false => exact snd_or g pa pb
        | true => exact (snd_tor pa ⟨fun w => pb.run⟩).pt
      · cases h
    · cases h
  | .not a, tst, sc, e, X, W, hN, g, tk, h => by
    simp only [isE] at h
    split at h
    · simp only [Bool.and_eq_true, decide_eq_true_eq] at h
      obtain ⟨rfl, h⟩ := h
      have pa := sndE a tst sc _ hN g tk h
      cases tst with
      | false => exact snd_not g pa
      | true => exact snd_tnot pa
    · cases h
  | .neg a, tst, sc, e, X, W, hN, g, tk, h => by
    simp only [isE, Bool.and_eq_true] at h
    split at h
    · simp only [Bool.and_eq_true, decide_eq_true_eq] at h
      obtain ⟨h1, rfl, h3⟩ := h
      exact leafOk g (hb_leaf _ trivial) h1 (snd_neg g (sndE a false sc _ hN g tk h3))
    · cases h.2
  | .ife c a b, tst, sc, e, X, W, hN, g, tk, h => by
    simp only [isE, Bool.and_eq_true] at h
    split at h
    · simp only [Bool.and_eq_true] at h
      obtain ⟨h1, ⟨h2, h3⟩, h4⟩ := h
      exact leafOk g (hb_leaf _ trivial) h1 (snd_ife g (sndE c true sc _ hN g tk h2) (sndE a false sc _ hN g tk h3) (sndE b false sc _ hN g tk h4))
    · cases h.2
  | .tup as, tst, sc, e, X, W, hN, g, tk, h => by
    simp only [isE, Bool.and_eq_true] at h
    split at h
    · exact leafOk g (hb_leaf _ trivial) h.1 (snd_tup g (PA.ofS (sndEs as sc _ hN g tk h.2)))
    · cases h.2
  | .lst as, tst, sc, e, X, W, hN, g, tk, h => by
    simp only [isE, Bool.and_eq_true] at h
    split at h
    · exact leafOk g (hb_leaf _ trivial) h.1 (snd_lst g (PA.ofS (sndEs as sc _ hN g tk h.2)))
    · cases h.2
  | .cel as, tst, sc, e, X, W, hN, g, tk, h => by
    simp only [isE, Bool.and_eq_true] at h
    split at h
    · exact leafOk g (hb_leaf _ trivial) h.1 (snd_cel g (PA.ofS (sndEs as sc _ hN g tk h.2)))
    · cases h.2
  | .newK, tst, sc, e, X, W, hN, g, tk, h => by
    simp only [isE, Bool.and_eq_true] at h
    split at h
    · exact leafOk g (hb_leaf _ trivial) h.1 snd_newK
    · cases h.2
  | .newT, tst, sc, e, X, W, hN, g, tk, h => by
    simp only [isE, Bool.and_eq_true] at h
    split at h
    · exact leafOk g (hb_leaf _ trivial) h.1 snd_newT
    · cases h.2
  | .dispK vs ks, tst, sc, e, X, W, hN, g, tk, h => by
    simp only [isE, Bool.and_eq_true] at h
    split at h
    · simp only [Bool.and_eq_true, decide_eq_true_eq, Bool.not_eq_true'] at h
      obtain ⟨h1, ⟨h2, h3⟩, h4⟩ := h
      obtain ⟨p1, p2, p3⟩ := sndKV vs ks sc _ _ hN g tk h4
      exact leafOk g (hb_leaf _ trivial) h1 (snd_dispK g (p1 _) p2 p3 (fun z => by rw [z] at h2; cases h2) h3)
    · cases h.2
  | .ix a b, tst, sc, e, X, W, hN, g, tk, h => by
    simp only [isE, Bool.and_eq_true] at h
    split at h
    · simp only [Bool.and_eq_true] at h
      obtain ⟨h1, ⟨h2, h3⟩, h4⟩ := h
      exact leafOk g (hb_leaf _ trivial) h1 (snd_ix g (sndE a false sc _ hN g tk h3) (sndE b false sc _ hN g tk h4) h2)
    · cases h.2
  | .sl a lo hi, tst, sc, e, X, W, hN, g, tk, h => by
    simp only [isE, Bool.and_eq_true] at h
    split at h
    · simp only [Bool.and_eq_true] at h
      obtain ⟨h1, ⟨h2, h3⟩, h4⟩ := h
      exact leafOk g (hb_leaf _ trivial) h1 (snd_sl g (sndE a false sc _ hN g tk h2) (sndO lo sc _ hN g tk h3) (sndO hi sc _ hN g tk h4))
    · cases h.2
  | .rev _, tst, sc, e, X, W, hN, g, tk, h => by simp [isE] at h
  | .lc elt tg src cond own, tst, sc, e, X, W, hN, g, tk, h => by
    simp only [isE, Bool.and_eq_true] at h
    split at h
    · split at h
      · simp only [Bool.and_eq_true, decide_eq_true_eq] at h
        obtain ⟨h1, ⟨⟨⟨⟨⟨⟨rfl, h3⟩, h4⟩, h5⟩, h6⟩, h7⟩, h8⟩, h9⟩ := h
        refine leafOk g (hb_leaf _ trivial) h1 ?_
        have h3' := (show ∀ {a b : Scope}, blkC N a b (ownN N own) = true → blkC X.N a b (ownN N own) = true from fun {a b} z => by rw [hN]; exact z) h3
        rw [← ownN_snd N own]
        exact snd_lc (W := W) g (elt := elt) (tg := tg) (src := src) (cond := cond) (own := ownN N own) (sndSrc src sc _ _ hN g tk h7) h3' (fun {X'} e g' => snd_tg g' tg _ ((e.trans hN) ▸ h6)) (fun {X'} e g' => sndC cond _ _ (e.trans hN) g' takes0 h8) (fun {X'} e g' => sndE elt false _ _ (e.trans hN) g' takes0 h9) h5 (slotsB_of (by rw [ownN_snd]; exact h4))

      · cases h.2
    · cases h.2
  | .lc2 elt tg src cond tg1 src1 cond1 own own1, tst, sc, e, X, W, hN, g, tk, h => by
    simp only [isE, Bool.and_eq_true] at h
    split at h
    · split at h
      · simp only [Bool.and_eq_true, decide_eq_true_eq] at h
        obtain ⟨h1, ⟨⟨⟨⟨⟨⟨⟨⟨⟨⟨⟨⟨⟨⟨rfl, rfl⟩, h3⟩, h4⟩, h4a⟩, h4b⟩, h5⟩, h5a⟩, h6⟩, h6a⟩, h7⟩, h8⟩, h7a⟩, h8a⟩, h9⟩⟩ := h
        refine leafOk g (hb_leaf _ trivial) h1 ?_
        have h3' := (show ∀ {a b : Scope}, blkC N a b (ownN N own) = true → blkC X.N a b (ownN N own) = true from fun {a b} z => by rw [hN]; exact z) h3
        rw [← ownN_snd N own]
        exact snd_lc2 (W := W) g (elt := elt) (tg := tg) (src := src) (cond := cond) (own := ownN N own) (sndSrc src sc _ _ hN g tk h7) h3' (fun {X'} e g' => snd_tg g' tg _ ((e.trans hN) ▸ h6)) (fun {X'} e g' => sndC cond _ _ (e.trans hN) g' takes0 h8) (fun {X'} e g' => sndE elt false _ _ (e.trans hN) g' takes0 h9)
          (fun {X'} e g' => sndSrc src1 _ _ _ (e.trans hN) g' takes0 h7a) (fun {X'} e g' => snd_tg g' tg1 _ ((e.trans hN) ▸ h6a)) (fun {X'} e g' => sndC cond1 _ _ (e.trans hN) g' takes0 h8a) h5 h5a (slotsB_of (by rw [ownN_snd]; exact h4)) (slotsB_of h4a) (slotsB_of (by rw [ownN_snd]; exact h4b))
      · cases h.2
    · cases h.2
  | .fn f as, tst, sc, e, X, W, hN, g, tk, h => by
    match as with
    | [] => simp [isE] at h
    | [a] =>
      simp only [isE, Bool.and_eq_true] at h
      split at h
      · obtain ⟨h1, h⟩ := h
        rw [Bool.or_eq_true] at h
        rcases h with h | h
        · simp only [Bool.and_eq_true] at h
          obtain ⟨⟨⟨h2, h3⟩, h4⟩, h5⟩ := h
          obtain ⟨bt, b1, b2, b3⟩ := fn1_of g h2
          exact leafOk g (hb_leaf _ trivial) h1 (snd_fn1 g h3 b1 b2 b3 (sndE a false sc _ hN g tk h5) h4)
        · simp only [Bool.and_eq_true] at h
          obtain ⟨h2, h⟩ := h
          cases f <;> first | cases h2 | skip
          split at h
          · simp only [Bool.and_eq_true] at h
            obtain ⟨⟨⟨h3, h4⟩, h5⟩, h6⟩ := h
            exact leafOk g (hb_leaf _ trivial) h1 (snd_sset g h3 h4 (sndE a false sc _ hN g tk h6) h5)
          · cases h
      · cases h.2
    | [a, b] =>
      simp only [isE, Bool.and_eq_true] at h
      split at h
      · simp only [Bool.and_eq_true] at h
        obtain ⟨h1, ⟨⟨⟨⟨h2, h3⟩, h4⟩, h5⟩, h6⟩, h7⟩ := h
        obtain ⟨bt, b1, b2, b3⟩ := fn2_of g h2
        exact leafOk g (hb_leaf _ trivial) h1 (snd_fn2 g h3 b1 b2 b3 (sndE a false sc _ hN g tk h6) h4 (sndE b false sc _ hN g tk h7) h5)
      · cases h.2
    | _ :: _ :: _ :: _ => simp [isE] at h
  | .isi a ks, tst, sc, e, X, W, hN, g, tk, h => by
    match ks with
    | [k] =>
      simp only [isE, Bool.and_eq_true] at h
      split at h
      · simp only [Bool.and_eq_true] at h
        obtain ⟨h1, ⟨⟨h2, h3⟩, h4⟩, h5⟩ := h
        exact leafOk g (hb_leaf _ trivial) h1 (snd_isi g h2 h3 (sndE a false sc _ hN g tk h5) h4)
      · cases h.2
    | [] => simp [isE] at h
    | _ :: _ :: _ => simp [isE] at h
  | .pop i arg, tst, sc, e, X, W, hN, g, tk, h => by
    match arg with
    | none =>
      simp only [isE, Bool.and_eq_true] at h
      split at h
      · simp only [Bool.and_eq_true, decide_eq_true_eq] at h
        obtain ⟨h1, ⟨rfl, h3⟩, h4⟩ := h
        exact leafOk g (hb_leaf _ trivial) h1 (snd_pop0 g (hN ▸ h3) h4)
      · cases h.2
    | some a =>
      simp only [isE, Bool.and_eq_true] at h
      split at h
      · simp only [Bool.and_eq_true, decide_eq_true_eq] at h
        obtain ⟨h1, ⟨⟨⟨rfl, h3⟩, h4⟩, h5⟩, h6⟩ := h
        exact leafOk g (hb_leaf _ trivial) h1 (snd_pop1 g (hN ▸ h3) (sndE a false sc _ hN g tk h6) h5 h4)
      · cases h.2
  | .call f as, tst, sc, e, X, W, hN, g, tk, h => by
    simp only [isE, Bool.and_eq_true] at h
    split at h
    · rename_i x p es pos
      simp only [Bool.and_eq_true] at h
      obtain ⟨h1, ⟨h2, h3⟩, h4⟩ := h
      refine leafOk g (hb_leaf _ trivial) h1 ?_
      have pa := PA.ofN (sndEs as sc es hN g tk h4)
      cases es with
      | nil =>
        cases as with
        | nil => exact snd_call0 g tk h2
        | cons _ _ => simp [isEs] at h4
      | cons e es => exact snd_call g tk h2 pa h3
    · cases h.2
  | .dcK kx vx tg src cond own, tst, sc, e, X, W, hN, g, tk, h => by
    simp only [isE, Bool.and_eq_true] at h
    split at h
    · split at h
      · simp only [Bool.and_eq_true, decide_eq_true_eq] at h
        obtain ⟨h1, ⟨⟨⟨⟨⟨⟨⟨⟨rfl, h3⟩, h4⟩, h5⟩, h6⟩, h7⟩, h8⟩, h9⟩, h10⟩⟩ := h
        refine leafOk g (hb_leaf _ trivial) h1 ?_
        have h3' := (show ∀ {a b : Scope}, blkC N a b (ownN N own) = true → blkC X.N a b (ownN N own) = true from fun {a b} z => by rw [hN]; exact z) h3
        rw [← ownN_snd N own]
        exact snd_dcK (W := W) g (own := ownN N own) (sndSrc src sc _ _ hN g tk h7) h3' (fun {X'} e g' => snd_tg g' tg _ ((e.trans hN) ▸ h6)) (fun {X'} e g' => sndC cond _ _ (e.trans hN) g' takes0 h8) (fun {X'} e g' => sndE kx false _ _ (e.trans hN) g' takes0 h9) (fun {X'} e g' => sndE vx false _ _ (e.trans hN) g' takes0 h10) h5 (slotsB_of (by rw [ownN_snd]; exact h4))
      · cases h.2
    · cases h.2
  | .dcT kx vx tg src cond own, tst, sc, e, X, W, hN, g, tk, h => by
    simp only [isE, Bool.and_eq_true] at h
    split at h
    · split at h
      · simp only [Bool.and_eq_true, decide_eq_true_eq] at h
        obtain ⟨h1, ⟨⟨⟨⟨⟨⟨⟨⟨rfl, h3⟩, h4⟩, h5⟩, h6⟩, h7⟩, h8⟩, h9⟩, h10⟩⟩ := h
        refine leafOk g (hb_leaf _ trivial) h1 ?_
        have h3' := (show ∀ {a b : Scope}, blkC N a b (ownN N own) = true → blkC X.N a b (ownN N own) = true from fun {a b} z => by rw [hN]; exact z) h3
        rw [← ownN_snd N own]
        exact snd_dcT (W := W) g (own := ownN N own) (sndSrc src sc _ _ hN g tk h7) h3' (fun {X'} e g' => snd_tg g' tg _ ((e.trans hN) ▸ h6)) (fun {X'} e g' => sndC cond _ _ (e.trans hN) g' takes0 h8) (fun {X'} e g' => sndE kx false _ _ (e.trans hN) g' takes0 h9) (fun {X'} e g' => sndE vx false _ _ (e.trans hN) g' takes0 h10) h5 (slotsB_of (by rw [ownN_snd]; exact h4))
      · cases h.2
    · cases h.2
  | .tix n a, tst, sc, e, X, W, hN, g, tk, h => by
    simp only [isE, Bool.and_eq_true] at h
    split at h
    · simp only [Bool.and_eq_true] at h
      obtain ⟨h1, ⟨h2, h3⟩, h4⟩ := h
      exact leafOk g (hb_leaf _ trivial) h1 (snd_tix g h2 (sndE a false sc _ hN g tk h4) h3)
    · cases h.2
  | .tin no n a, tst, sc, e, X, W, hN, g, tk, h => by
    simp only [isE] at h
    split at h
    · split at h
      · simp only [Bool.and_eq_true, decide_eq_true_eq] at h
        obtain ⟨⟨rfl, h2⟩, h3⟩ := h
        have pa := sndE a false sc _ hN g tk h3
        cases tst with
        | false => exact snd_tin g h2 pa
        | true => exact snd_ttin g h2 pa
      · cases h
    · cases h
  | .lcI elt tg vals a cond own, tst, sc, e, X, W, hN, g, tk, h => by
    simp only [isE, Bool.and_eq_true] at h
    split at h
    · split at h
      · split at h
        · rename_i hv
          simp only [Bool.and_eq_true, decide_eq_true_eq] at h
          obtain ⟨h1, ⟨⟨⟨⟨⟨⟨⟨rfl, h3⟩, h4⟩, h5⟩, h6⟩, h7⟩, h8⟩, h9⟩⟩ := h
          refine leafOk g (hb_leaf _ trivial) h1 ?_
          have h3' := (show ∀ {a b : Scope}, blkC N a b (ownN N own) = true → blkC X.N a b (ownN N own) = true from fun {a b} z => by rw [hN]; exact z) h3
          rw [← ownN_snd N own]
          exact snd_lcI (W := W) g (own := ownN N own) hv (sndE a false sc _ hN g tk h7) h3' (fun {X'} e g' => snd_tg g' tg _ ((e.trans hN) ▸ h6)) (fun {X'} e g' => sndC cond _ _ (e.trans hN) g' takes0 h8) (fun {X'} e g' => sndE elt false _ _ (e.trans hN) g' takes0 h9) h5 (slotsB_of (by rw [ownN_snd]; exact h4))
        · cases h.2
      · cases h.2
    · cases h.2
  | .callK f as is, tst, sc, e, X, W, hN, g, tk, h => by
    simp only [isE, Bool.and_eq_true] at h
    split at h
    · rename_i x p es kws pos
      simp only [Bool.and_eq_true] at h
      obtain ⟨h1, ⟨h2, h3⟩, h4⟩ := h
      refine leafOk g (hb_leaf _ trivial) h1 ?_
      obtain ⟨a1, b1, rfl, e1, e2, pa, pk⟩ := sndK as sc es kws hN g tk h4
      cases es with
      | nil =>
        cases a1 with
        | nil => exact snd_callK0 g tk h2 pk e2
        | cons _ _ => simp at e1
      | cons e es => exact snd_callK g tk (e1 ▸ h2) pa pk e2 h3
    · cases h.2
  | .rng l a b, tst, sc, e, X, W, hN, g, tk, h => by
    match b with
    | none =>
      simp only [isE, Bool.and_eq_true] at h
      split at h
      · simp only [Bool.and_eq_true] at h
        obtain ⟨h1, ⟨⟨h2, h3⟩, h4⟩, h5⟩ := h
        exact leafOk g (hb_leaf _ trivial) h1 (snd_rng1 g h2 h3 (sndE a false sc _ hN g tk h5) h4)
      · cases h.2
    | some b =>
      simp only [isE, Bool.and_eq_true] at h
      split at h
      · simp only [Bool.and_eq_true] at h
        obtain ⟨h1, ⟨⟨⟨⟨h2, h3⟩, h4⟩, h5⟩, h6⟩, h7⟩ := h
        exact leafOk g (hb_leaf _ trivial) h1 (snd_rng2 g h2 h3 (sndE a false sc _ hN g tk h6) h4 (sndE b false sc _ hN g tk h7) h5)
      · cases h.2
theorem sndKV : ∀ (vs : List IE) (ks : List KE) (sc : Scope) (keys : List (Option Expr)) (values : List Expr) {X : Cx} {W : WX'}, X.N = N → GX D G X sc → Takes X W → isKV G.params N sc vs ks keys values = true →
    (∀ p, PPs X p keys values ((ks.zip vs).map fun p => (tF D G W (keIR p.1), tF D G W p.2))) ∧ keys.all (·.isSome) = true ∧ keys.length = values.length
  | [], [], sc, [], [], X, W, hN, g, tk, h => ⟨fun p => pps_nil, rfl, rfl⟩
  | v :: vs, k :: ks, sc, some ek :: keys, ev :: values, X, W, hN, g, tk, h => by
    simp only [isKV, Bool.and_eq_true] at h
    obtain ⟨⟨h1, h2⟩, h3⟩ := h
    obtain ⟨p1, p2, p3⟩ := sndKV vs ks sc keys values hN g tk h3
    exact ⟨fun p => pps_cons (snd_ke g h1) (sndE v false sc ev hN g tk h2) (p1 p), by simpa using p2, by simp [p3]⟩
  | [], [], sc, [], _ :: _, X, W, hN, g, tk, h => by simp [isKV] at h
  | [], [], sc, _ :: _, _, X, W, hN, g, tk, h => by simp [isKV] at h
  | [], _ :: _, sc, _, _, X, W, hN, g, tk, h => by simp [isKV] at h
  | _ :: _, [], sc, _, _, X, W, hN, g, tk, h => by simp [isKV] at h
  | _ :: _, _ :: _, sc, [], _, X, W, hN, g, tk, h => by simp [isKV] at h
  | _ :: _, _ :: _, sc, none :: _, _, X, W, hN, g, tk, h => by simp [isKV] at h
  | _ :: _, _ :: _, sc, some _ :: _, [], X, W, hN, g, tk, h => by simp [isKV] at h
theorem sndEs : ∀ (as : List IE) (sc : Scope) (es : List Expr) {X : Cx} {W : WX'}, X.N = N → GX D G X sc → Takes X W → isEs G.params N sc as es = true → PA X es (nestT D G W as)
  | [], sc, [], X, W, hN, g, tk, h => snd_nilN
  | a :: as, sc, e :: es, X, W, hN, g, tk, h => by
    simp only [isEs, Bool.and_eq_true] at h
    exact snd_consN (sndE a false sc e hN g tk h.1.2) (sndEs as sc es hN g tk h.2) h.1.1
  | [], sc, _ :: _, X, W, hN, g, tk, h => by simp [isEs] at h
  | _ :: _, sc, [], X, W, hN, g, tk, h => by simp [isEs] at h
theorem sndK : ∀ (as : List IE) (sc : Scope) (es : List Expr) (kws : List Keyword) {X : Cx} {W : WX'}, X.N = N → GX D G X sc → Takes X W → isK G.params N sc es kws as = true →
    ∃ a1 b1, as = a1 ++ b1 ∧ a1.length = es.length ∧ b1.length = kws.length ∧ PA X es (nestT D G W a1) ∧ PK X kws (nestT D G W b1)
  | [], sc, [], [], X, W, hN, g, tk, h => ⟨[], [], rfl, rfl, rfl, snd_nilN, snd_knil⟩
  | a :: as, sc, e :: es, kws, X, W, hN, g, tk, h => by
    simp only [isK, Bool.and_eq_true] at h
    obtain ⟨a1, b1, rfl, e1, e2, pa, pk⟩ := sndK as sc es kws hN g tk h.2
    exact ⟨a :: a1, b1, rfl, by simp [e1], e2, snd_consN (sndE a false sc e hN g tk h.1.2) pa h.1.1, pk⟩
  | a :: as, sc, [], k :: kws, X, W, hN, g, tk, h => by
    simp only [isK, Bool.and_eq_true] at h
    obtain ⟨a1, b1, rfl, e1, e2, pa, pk⟩ := sndK as sc [] kws hN g tk h.2
    obtain ⟨nm, e, kp⟩ := k
    cases a1 with
    | cons _ _ => simp at e1
    | nil => exact ⟨[], a :: b1, rfl, rfl, by simp [e2], pa, snd_kcons (sndE a false sc e hN g tk h.1) pk⟩
  | [], sc, _ :: _, _, X, W, hN, g, tk, h => by simp [isK] at h
  | [], sc, [], _ :: _, X, W, hN, g, tk, h => by simp [isK] at h
  | _ :: _, sc, [], [], X, W, hN, g, tk, h => by simp [isK] at h
theorem sndO : ∀ (o : Option IE) (sc : Scope) (e : Option Expr) {X : Cx} {W : WX'}, X.N = N → GX D G X sc → Takes X W → isO G.params N sc o e = true → PO X e (tFo D G W o)
  | none, sc, none, X, W, hN, g, tk, h => snd_o0
  | some a, sc, some e, X, W, hN, g, tk, h => by
    simp only [isO] at h
    exact snd_o1 (sndE a false sc e hN g tk h)
  | none, sc, some _, X, W, hN, g, tk, h => by simp [isO] at h
  | some _, sc, none, X, W, hN, g, tk, h => by simp [isO] at h
theorem sndC : ∀ (o : Option IE) (sc : Scope) (e : List Expr) {X : Cx} {W : WX'}, X.N = N → GX D G X sc → Takes X W → isC G.params N sc o e = true → PTs X e (tFc D G W o)
  | none, sc, [], X, W, hN, g, tk, h => snd_c0
  | some a, sc, [e], X, W, hN, g, tk, h => by
    simp only [isC] at h
    exact snd_c1 (sndE a true sc e hN g tk h)
  | none, sc, _ :: _, X, W, hN, g, tk, h => by simp [isC] at h
  | some _, sc, [], X, W, hN, g, tk, h => by simp [isC] at h
  | some _, sc, _ :: _ :: _, X, W, hN, g, tk, h => by simp [isC] at h
theorem sndSrc : ∀ (o : Src) (sc : Scope) (e tg : Expr) {X : Cx} {W : WX'}, X.N = N → GX D G X sc → Takes X W → isSrc G.params N sc o e tg = true → PI X tg e (tSrc D G W o)
  | .e a, sc, e, tg, X, W, hN, g, tk, h => by
    simp only [isSrc] at h
    exact src_e g (sndE a false sc e hN g tk h)
  | .range1 a, sc, e, tg, X, W, hN, g, tk, h => by
    simp only [isSrc] at h
    split at h
    · simp only [Bool.and_eq_true] at h
      exact src_range1 g h.1.1 (sndE a false sc _ hN g tk h.2) h.1.2
    · cases h
  | .range2 a b, sc, e, tg, X, W, hN, g, tk, h => by
    simp only [isSrc] at h
    split at h
    · simp only [Bool.and_eq_true] at h
      obtain ⟨⟨⟨⟨h1, h2⟩, h3⟩, h4⟩, h5⟩ := h
      exact src_range2 g h1 (sndE a false sc _ hN g tk h4) h2 (sndE b false sc _ hN g tk h5) h3
    · cases h
  | .enum a, sc, e, tg, X, W, hN, g, tk, h => by
    simp only [isSrc] at h
    split at h
    · split at h
      · simp only [Bool.and_eq_true] at h
        exact src_enum g h.1.1 (sndE a false sc _ hN g tk h.2) h.1.2
      · cases h
    · cases h
  | .zip _ _, sc, e, tg, X, W, hN, g, tk, h => by simp [isSrc] at h
end
end
end L2.TV

set_option maxHeartbeats 2000000
/-! Statements: the check and the theorem. -/
namespace L2.TV
open PySem PySem.Spec PyProof.Rows
section
variable (pm : String → Option (List Str)) (N : List Str)
def isPar (sc : Scope) (is : List Nat) (ts vs : List Expr) : Bool := ts.all (nameE sc) && match swK sc ts vs with
  | none => false
  | some none => isTgs N sc (is.map .name) ts && decide (is.length ≤ 1000)
  | some (some ns) => match ts, is with
    | [.Name x _, .Name y _], [i, j] => decide (vs.length = 2) && decide (ns = [x, y]) && decide (N[i]? = some x) && decide (N[j]? = some y) && decide (i ≠ j) && decide (sc.names.lookup x = some .local) && decide (sc.names.lookup y = some .local)
    | [.Name x _, .Name y _, .Name z _], [i, j, l] => decide (vs.length = 3) && decide (ns = [x, y, z]) && decide (N[i]? = some x) && decide (N[j]? = some y) && decide (N[l]? = some z) && decide (i ≠ j) && decide (i ≠ l) && decide (j ≠ l) &&
        decide (sc.names.lookup x = some .local) && decide (sc.names.lookup y = some .local) && decide (sc.names.lookup z = some .local)
    | _, _ => false
mutual
def isS (sc : Scope) : IS → Stmt → Bool
  | .set i e, st => match st with
    | .Assign [.Name x _] ee _ => nameB N sc i x && isE pm N false sc e ee && (!(isCompE ee) || match e with | .lc _ _ _ _ _ => true | _ => false)
    | _ => false
  | .setv i e, st => match st with
    | .Assign [.Name x _] ee _ => nameB N sc i x && isE pm N false sc e ee && (!(isCompE ee) || match e with | .lc _ _ _ _ _ => true | _ => false)
    | _ => false
  | .tg g e, st => match st with
    | .Assign [.Tuple es k q] ee _ => isTg N sc g (.Tuple es k q) && !(isTupE ee) && isE pm N false sc e ee
    | _ => false
  | .par is es, st => match st with
    | .Assign [.Tuple ts _ _] (.Tuple vs _ _) _ => isPar N sc is ts vs && isEs pm N sc es vs
    | _ => false
  | .six o k e, st => match st with
    | .Assign [.Subscript eo ek _] ee _ => notSlice ek && isE pm N false sc o eo && isE pm N false sc k ek && isE pm N false sc e ee
    | _ => false
  | .mapp i e, st => match st with
    | .Expr (.Call (.Attribute (.Name x _) m ap) [ee] [] cp) _ => decide (m = Str.ofString "append") && slotB N sc i x && notStar ee && ap.endLine == cp.line && isE pm N false sc e ee
    | _ => false
  | .mext i e, st => match st with
    | .Expr (.Call (.Attribute (.Name x _) m ap) [ee] [] cp) _ => decide (m = Str.ofString "extend") && slotB N sc i x && notStar ee && ap.endLine == cp.line && isE pm N false sc e ee
    | _ => false
  | .mrem i e, st => match st with
    | .Expr (.Call (.Attribute (.Name x _) m ap) [ee] [] cp) _ => decide (m = Str.ofString "remove") && slotB N sc i x && notStar ee && ap.endLine == cp.line && isE pm N false sc e ee
    | _ => false
  | .dead, _ => true
  | .expr e, st => match st with
    | .Expr ee _ => !(isCompE ee) && isE pm N false sc e ee
    | _ => false
  | .ret e, st => match st with
    | .Return (some ee) _ => isE pm N false sc e ee
    | _ => false
  | .ite c a b, st => match st with
    | .If ec sa sb _ => isE pm N true sc c ec && isSs sc a sa && isSs sc b sb
    | _ => false
  | .for_ g src body, st => match st with
    | .For etg eiter sb [] _ => foldPlain eiter && isTg N sc g etg && isSrc pm N sc src eiter etg && isSs sc body sb
    | _ => false
  | .whl c body, st => match st with
    | .While ec sb [] _ => isE pm N true sc c ec && isSs sc body sb
    | _ => false
  | .brk, st => match st with
    | .Break _ => true
    | _ => false
  | .cont, st => match st with
    | .Continue _ => true
    | _ => false
  | .pass, st => match st with
    | .Pass _ => true
    | _ => false
  | .forI g vals a body, st => match st with
    | .For etg eiter sb [] _ => match isView vals etg eiter with
      | some ea => foldPlain eiter && isTg N sc g etg && isE pm N false sc a ea && isSs sc body sb
      | none => false
    | _ => false
def isSs (sc : Scope) : List IS → List Stmt → Bool
  | [], [] => true
  | a :: as, st :: sts => isS sc a st && isSs sc as sts
  | _, _ => false
end
end
section
variable {D : Wd} {G : Cfg} {N : List Str}
theorem snd_parB {X : Cx} {W : WX'} {sc : Scope} {is : List Nat} {ts vs : List Expr} {es : List IE} {k1 k2 : Nat} {p1 p2 q : Pos} (hN : X.N = N) (g : GX D G X sc) (h : isPar N sc is ts vs = true) (ha : PA X vs (nestT D G W es)) : PS X (.Assign [.Tuple ts k1 p1] (.Tuple vs k2 p2) q) (tS D G W (.par is es)) := by
  subst hN
  simp only [isPar, Bool.and_eq_true] at h
  obtain ⟨hn, h⟩ := h
  split at h
  · cases h
  · rename_i hw
    simp only [Bool.and_eq_true, decide_eq_true_eq] at h
    exact snd_parN g h.1 h.2 hn ha hw
  · rename_i ns hw
    split at h
    · simp only [Bool.and_eq_true, decide_eq_true_eq] at h
      obtain ⟨⟨⟨⟨⟨⟨h1, rfl⟩, h3⟩, h4⟩, h5⟩, h6⟩, h7⟩ := h
      match vs, h1, ha, hw with
      | [a, b], _, ha, hw => exact snd_par2 g h3 h4 h5 h6 h7 ha hw
    · simp only [Bool.and_eq_true, decide_eq_true_eq] at h
      obtain ⟨⟨⟨⟨⟨⟨⟨⟨⟨⟨h1, rfl⟩, h3⟩, h4⟩, h5⟩, h6⟩, h7⟩, h8⟩, h9⟩, ha'⟩, hb'⟩ := h
      match vs, h1, ha, hw with
      | [a, b, c], _, ha, hw => exact snd_par3 g h3 h4 h5 h6 h7 h8 h9 ha' hb' ha hw
    · cases h
mutual
theorem sndS : ∀ (ir : IS) (sc : Scope) (st : Stmt) {X : Cx} {W : WX'}, X.N = N → GX D G X sc → Takes X W → PassesOwn (model X.prog X.w) X.A X.env X.xe → isS G.params N sc ir st = true → PS X st (tS D G W ir)
  | .set i e, sc, st, X, W, hN, g, tk, hp, h => by
    simp only [isS] at h
    split at h
    · rename_i x px ee q
      simp only [Bool.and_eq_true] at h
      obtain ⟨⟨h1, h2⟩, h3⟩ := h
      cases hc : isCompE ee with
      | false => exact snd_set g (hN ▸ h1) (sndE e false sc ee hN g tk h2) hc
      | true =>
        rw [hc] at h3
        simp only [Bool.not_true, Bool.false_or] at h3
        split at h3
        · rename_i elt tg src cond own
          simp only [isE, Bool.and_eq_true] at h2
          split at h2
          · split at h2
            · simp only [Bool.and_eq_true, decide_eq_true_eq] at h2
              obtain ⟨_, ⟨⟨⟨⟨⟨⟨rfl, h3⟩, h4⟩, h5⟩, h6⟩, h7⟩, h8⟩, h9⟩ := h2
              have h3' := (show ∀ {a b : Scope}, blkC N a b (ownN N own) = true → blkC X.N a b (ownN N own) = true from fun {a b} z => by rw [hN]; exact z) h3
              rw [← ownN_snd N own]
              exact (snd_setLc g (hN ▸ h1) (sndSrc src sc _ _ hN g tk h7) h3' (fun {X'} e g' => snd_tg g' tg _ ((e.trans hN) ▸ h6)) (fun {X'} e g' tk' => sndC cond _ _ (e.trans hN) g' tk' h8) (fun {X'} e g' tk' => sndE elt false _ _ (e.trans hN) g' tk' h9) h5 (slotsB_of (by rw [ownN_snd]; exact h4))).of fun E σ H h => asg_of h
            · cases h2.2
          · cases h2.2
        · cases h3
    · cases h
  | .setv i e, sc, st, X, W, hN, g, tk, hp, h => by
    simp only [isS] at h
    split at h
    · rename_i x px ee q
      simp only [Bool.and_eq_true] at h
      obtain ⟨⟨h1, h2⟩, h3⟩ := h
      cases hc : isCompE ee with
      | false => exact snd_setv g (hN ▸ h1) (sndE e false sc ee hN g tk h2) hc
      | true =>
        rw [hc] at h3
        simp only [Bool.not_true, Bool.false_or] at h3
        split at h3
        · rename_i elt tg src cond own
          simp only [isE, Bool.and_eq_true] at h2
          split at h2
          · split at h2
            · simp only [Bool.and_eq_true, decide_eq_true_eq] at h2
              obtain ⟨_, ⟨⟨⟨⟨⟨⟨rfl, h3⟩, h4⟩, h5⟩, h6⟩, h7⟩, h8⟩, h9⟩ := h2
              have h3' := (show ∀ {a b : Scope}, blkC N a b (ownN N own) = true → blkC X.N a b (ownN N own) = true from fun {a b} z => by rw [hN]; exact z) h3
              rw [← ownN_snd N own]
              exact (snd_setLc g (hN ▸ h1) (sndSrc src sc _ _ hN g tk h7) h3' (fun {X'} e g' => snd_tg g' tg _ ((e.trans hN) ▸ h6)) (fun {X'} e g' tk' => sndC cond _ _ (e.trans hN) g' tk' h8) (fun {X'} e g' tk' => sndE elt false _ _ (e.trans hN) g' tk' h9) h5 (slotsB_of (by rw [ownN_snd]; exact h4))).of fun E σ H h => asgv_of h
            · cases h2.2
          · cases h2.2
        · cases h3
    · cases h
  | .tg tg e, sc, st, X, W, hN, g, tk, hp, h => by
    simp only [isS] at h
    split at h
    · simp only [Bool.and_eq_true, Bool.not_eq_true'] at h
      exact snd_stg g (hN ▸ h.1.1) (sndE e false sc _ hN g tk h.2) h.1.2
    · cases h
  | .par is es, sc, st, X, W, hN, g, tk, hp, h => by
    simp only [isS] at h
    split at h
    · simp only [Bool.and_eq_true] at h
      exact snd_parB hN g h.1 (sndEs es sc _ hN g tk h.2)
    · cases h
  | .six o k e, sc, st, X, W, hN, g, tk, hp, h => by
    simp only [isS] at h
    split at h
    · simp only [Bool.and_eq_true] at h
      obtain ⟨⟨⟨h1, h2⟩, h3⟩, h4⟩ := h
      exact snd_six g h1 (sndE o false sc _ hN g tk h2) (sndE k false sc _ hN g tk h3) (sndE e false sc _ hN g tk h4)
    · cases h
  | .mapp i e, sc, st, X, W, hN, g, tk, hp, h => by
    simp only [isS] at h
    split at h
    · simp only [Bool.and_eq_true, decide_eq_true_eq] at h
      obtain ⟨⟨⟨⟨rfl, h2⟩, h3⟩, h4⟩, h5⟩ := h
      exact snd_mapp g (hN ▸ h2) (sndE e false sc _ hN g tk h5) h3 h4
    · cases h
  | .mrem i e, sc, st, X, W, hN, g, tk, hp, h => by
    simp only [isS] at h
    split at h
    · simp only [Bool.and_eq_true, decide_eq_true_eq] at h
      obtain ⟨⟨⟨⟨rfl, h2⟩, h3⟩, h4⟩, h5⟩ := h
      exact snd_mrem g (hN ▸ h2) (sndE e false sc _ hN g tk h5) h3 h4
    · cases h
  | .dead, sc, st, X, W, hN, g, tk, hp, h => snd_dead
  | .mext i e, sc, st, X, W, hN, g, tk, hp, h => by
    simp only [isS] at h
    split at h
    · simp only [Bool.and_eq_true, decide_eq_true_eq] at h
      obtain ⟨⟨⟨⟨rfl, h2⟩, h3⟩, h4⟩, h5⟩ := h
      exact snd_mext g (hN ▸ h2) (sndE e false sc _ hN g tk h5) h3 h4
    · cases h
  | .expr e, sc, st, X, W, hN, g, tk, hp, h => by
    simp only [isS] at h
    split at h
    · simp only [Bool.and_eq_true, Bool.not_eq_true'] at h
      exact snd_expr (sndE e false sc _ hN g tk h.2) h.1
    · cases h
  | .ret e, sc, st, X, W, hN, g, tk, hp, h => by
    simp only [isS] at h
    split at h
    · exact snd_ret (sndE e false sc _ hN g tk h)
    · cases h
  | .ite c a b, sc, st, X, W, hN, g, tk, hp, h => by
    simp only [isS] at h
    split at h
    · simp only [Bool.and_eq_true] at h
      exact snd_ite (sndE c true sc _ hN g tk h.1.1) (sndSs a sc _ hN g tk hp h.1.2) (sndSs b sc _ hN g tk hp h.2)
    · cases h
  | .for_ tg src body, sc, st, X, W, hN, g, tk, hp, h => by
    simp only [isS] at h
    split at h
    · simp only [Bool.and_eq_true] at h
      obtain ⟨⟨⟨h1, h2⟩, h3⟩, h4⟩ := h
      exact snd_for g hp (sndSrc src sc _ _ hN g tk h3) (hN ▸ h2) (sndSs body sc _ hN g tk hp h4) h1
    · cases h
  | .whl c body, sc, st, X, W, hN, g, tk, hp, h => by
    simp only [isS] at h
    split at h
    · simp only [Bool.and_eq_true] at h
      exact snd_whl g hp (sndE c true sc _ hN g tk h.1) (sndSs body sc _ hN g tk hp h.2)
    · cases h
  | .brk, sc, st, X, W, hN, g, tk, hp, h => by
    simp only [isS] at h
    split at h
    · exact snd_brk
    · cases h
  | .cont, sc, st, X, W, hN, g, tk, hp, h => by
    simp only [isS] at h
    split at h
    · exact snd_cont
    · cases h
  | .pass, sc, st, X, W, hN, g, tk, hp, h => by
    simp only [isS] at h
    split at h
    · exact snd_pass
    · cases h
  | .forI tg vals a body, sc, st, X, W, hN, g, tk, hp, h => by
    simp only [isS] at h
    split at h
    · split at h
      · rename_i hv
        simp only [Bool.and_eq_true] at h
        obtain ⟨⟨⟨h1, h2⟩, h3⟩, h4⟩ := h
        exact snd_forI g hp hv (sndE a false sc _ hN g tk h3) (hN ▸ h2) (sndSs body sc _ hN g takes0 hp h4) h1
      · cases h
    · cases h
theorem sndSs : ∀ (ir : List IS) (sc : Scope) (st : List Stmt) {X : Cx} {W : WX'}, X.N = N → GX D G X sc → Takes X W → PassesOwn (model X.prog X.w) X.A X.env X.xe → isSs G.params N sc ir st = true → PSs X st (tSs D G W ir)
  | [], sc, [], X, W, hN, g, tk, hp, h => snd_snil
  | a :: as, sc, st :: sts, X, W, hN, g, tk, hp, h => by
    simp only [isSs, Bool.and_eq_true] at h
    exact snd_scons (sndS a sc st hN g tk hp h.1) (sndSs as sc sts hN g tk hp h.2)
  | [], sc, _ :: _, X, W, hN, g, tk, hp, h => by simp [isSs] at h
  | _ :: _, sc, [], X, W, hN, g, tk, hp, h => by simp [isSs] at h
end
end
end L2.TV

set_option maxHeartbeats 1000000
/-! Defs: their bodies keep what the interpreter says. -/
namespace L2.TV
open PySem PySem.Spec PyProof.Rows
section
variable {P : Program} {w : World} {K : PySem.W.Frag} {mg : Str → Option Value} {base : Heap}
theorem fnG_of {k : Nat} {f : Addr} {name qual : Str} {params : Arguments} {body : List Stmt} {scope : Scope} {dV kV doc pm cdv ct oc : Value} {an od : Option Addr}
    {osl : Array (Option Value)} {N ps : List Str} {sp : Sp} (lk : K.lookup f = some ⟨oc, od, .func (PySem.W.fnOf name qual params body scope dV kV doc pm an cdv ct), osl⟩) (hcd : PySem.W.codeIn K cdv qual = true) (S : FnScope N ps scope)
    (len : ∀ vs H Q E, sp vs H Q E → vs.length = ps.length)
    (hbody : ∀ (A : Around) (outer : List Env) (s : Shared) (H : Hp) (vs : List V) (Q : VK) (E : XK), Room k (A.deeper (envOfC qual scope s.heap.objs.size f cdv)) → A.guards = some [] → sp vs H Q E →
      ∃ t, PSs (cxOf (L2.CX P w) P w K mg base N qual scope f cdv A outer s H E) body t ∧ t { nx := fun _ H' => Q .non H', rt := Q } (start N vs) H) :
    FnG P w K mg base (k + 1) f (PySem.W.fnOf name qual params body scope dV kV doc pm an cdv ct) ps sp := by
  refine ⟨len, fun A outer s H args us vs Q E hr hgu e0 hb r hsp => ?_⟩
  have hl := len _ _ _ _ hsp
  have KX : K.In s.heap := e0.mod.kin.keeps fun b o e => (e0.bs b o e).1
  have lim : s.heap.NoLimit := e0.mod.nolimit.keeps fun b o e => (e0.bs b o e).1
  have hkind : ∀ y ∈ ps.zip us, scope.names.lookup y.1 = some .local ∨ (scope.names.lookup y.1 = some .cell ∧ ((cellsFrom (s.heap.objs.size + 1) scope.names []).lookup y.1).isSome = true) := fun ⟨n, v⟩ hy =>
    (S.par n (List.of_mem_zip hy).1).imp id fun q => ⟨q, PySem.W.cellsFrom_some _ _ _ (.inl q)⟩
  refine codeAny_call_function hr.depth (KX _ _ lk) rfl S.co S.gen rfl (PySem.W.codeRec_of KX hcd) (hb _ _ _ _ ?_)
  refine wpAny_newFunctionEnv_cells S.kind hkind fun env he s1 x => ?_
  subst he
  refine ⟨lim.keeps x.toInCall.keep, codeAny_func ?_⟩
  obtain ⟨t, ht, hq⟩ := hbody A outer s H vs Q E (hr.deeper _) hgu hsp
  have I : Inv (cxOf (L2.CX P w) P w K mg base N qual scope f cdv A outer s H E) [] (start N vs) H s1 := inv_start S hr.hd e0 hl r x
  refine wpAny_mono (ht.run [] s1 (start N vs) H _ I hq) (fun fl s' hs => ?_) fun e s' hs => hs
  cases fl with
  | ret u =>
    obtain ⟨v, σ', H', J, rv, q⟩ := hs
    exact ⟨v, H', J.os, J.bare, J.base, J.hok, rv, q⟩
  | next =>
    obtain ⟨σ', H', J, q⟩ := hs
    exact ⟨V.non, H', J.os, J.bare, J.base, J.hok, rfl, q⟩
  | brk => obtain ⟨_, _, _, q⟩ := hs; exact q.elim
  | cont => obtain ⟨_, _, _, q⟩ := hs; exact q.elim
end
section
variable {D : Wd} {O : OX} {ρ ρ' : List Addr} {σ σ' : St} {H H' : Hp} {s s' : S} {sto : List Cell}
def env0 (n : Nat) (ts : List T) : List Slot := ts.map .val ++ List.replicate (n - ts.length) .none
theorem env0_val {n : Nat} {ts : List T} {i : Nat} {x : Slot} (e : (env0 n ts)[i]? = some x) : (∃ t, ts[i]? = some t ∧ x = .val t) ∨ x = .none := by
  unfold env0 at e
  by_cases h : i < ts.length
  · rw [List.getElem?_append_left (by simpa using h), List.getElem?_map] at e
    cases e1 : ts[i]? with
    | none => rw [e1] at e; cases e
    | some t => rw [e1] at e; cases e; exact .inl ⟨t, rfl, rfl⟩
  · rw [List.getElem?_append_right (by simpa using h), List.getElem?_replicate] at e
    split at e
    · cases e; exact .inr rfl
    · cases e
theorem env0_own {n : Nat} {ts : List T} {a : Addr} : ¬ OwnA (env0 n ts) σ a := fun ⟨i, x, e1, e2, _⟩ => by
  rcases env0_val e1 with ⟨t, _, rfl⟩ | rfl
  · cases e2
  · cases e2
theorem RS.start {N : List Str} {vs : List V} {ts : List T} (rs : RS D.K D.cls O ρ ⟨[], sto⟩ [] H) (rv : RpL D.K ρ (Lv O ρ [] []) H vs ts) (hl : vs.length ≤ N.length) : RS D.K D.cls O ρ ⟨env0 N.length ts, sto⟩ (L2.start N vs) H := by
  have sub : ∀ a, Lv O ρ (env0 N.length ts) (L2.start N vs) a → Lv O ρ [] [] a := fun a l => by
    rcases l with l | l | l
    · exact .inl l
    · exact .inr (.inl l)
    · exact (env0_own l).elim
  refine ⟨rs.nd, rs.len, fun i t e => ?_, fun i x e1 e2 => ?_, fun i j x y a e1 _ e3 _ _ _ => ?_, fun n c a e1 e2 => (rs.cell n c a e1 e2).sub sub, rs.out, ?_⟩
  · rcases env0_val e with ⟨u, f, z⟩ | z
    · cases z
      obtain ⟨v, f1, f2⟩ := rv.get f
      have hi : i < vs.length := (List.getElem?_eq_some_iff.mp f1).1
      refine ⟨v, ?_, f2.sub sub⟩
      unfold L2.start
      rw [List.getElem?_append_left (by simpa using hi), List.getElem?_map, f1]
      rfl
    · cases z
  · rcases env0_val e1 with ⟨u, _, rfl⟩ | rfl
    · cases e2
    · cases e2
  · rcases env0_val e1 with ⟨u, _, rfl⟩ | rfl
    · cases e3
    · cases e3
  · show (env0 N.length ts).length = (L2.start N vs).length
    unfold env0 L2.start
    have := rv.len
    simp only [List.length_append, List.length_map, List.length_replicate]
    omega
theorem Le.frame {n : Nat} {ts : List T} {env : List Slot} (l : Le ρ (env0 n ts) σ H ρ' env σ' H') : Le ρ [] [] H ρ' [] [] H' := ⟨l.pre, l.fr, fun a o => (no_own o).elim, fun a o e n1 _ => l.kp a o e n1 env0_own, l.tr⟩
end
section
variable {P : Program} {w : World} {mg : Str → Option Value} {base : Heap}
/-- what the text's top gives to every def -/
structure Top (D : Wd) (G : Cfg) (P : Program) (w : World) (mg : Str → Option Value) (base : Heap) (k : Nat) : Prop where
  blt : ∀ x, x ∈ bltN → mg (Str.ofString x) = none
  sm : ∃ o, base.get? sysModules = some o
  cst : ∀ x t, G.cst x = some t → ∃ u v, mg (Str.ofString x) = some u ∧ RelV v u ∧ ∀ ρ L H, Rp D.K ρ L H v t
  tab : ∀ x tb, G.tab x = some tb → ∃ a, mg (Str.ofString x) = some (.ref a) ∧ TabOk D.K w a tb
  fnk : ∀ f ps, G.params f = some ps → ∃ a fd, FnG P w D.K mg base k a fd ps (spF D (G.call f) ps.length) ∧ mg (Str.ofString f) = some (.ref a) ∧ PySem.W.keepIn D.K (.ref a) = true ∧ Plain fd ps
theorem fnF {D : Wd} {G : Cfg} {k : Nat} {x qual : Str} {st : Stmt} {f : Addr} {fd : FuncData} {N : List Str} {d : FD} (F : Fun D.K x qual st f fd) (Sc : FnScope N d.params (defScope st)) (hs : d.slots = N.length) (T : Top D G P w mg base k) (hb : isSs G.params N (defScope st) d.body (defBody st) = true) :
    FnG P w D.K mg base (k + 1) f fd d.params (spF D (runF G d) d.params.length) := by
  obtain ⟨oc, od, kV, doc, pm, an, cdv, ct, osl, rfl, lk, hcd⟩ := F.ex
  refine fnG_of lk hcd Sc (fun vs H Q E h => ?_) fun A outer s H vs Q E hr hgu h => ?_
  · obtain ⟨_, _, _, _, h, _⟩ := h
    exact h
  · obtain ⟨O, ρ, sto, ts, hl, rs, rv, h⟩ := h
    have hNl : d.params.length ≤ N.length := by have := congrArg List.length Sc.pre; rw [List.length_take] at this; omega
    have g : GX D G (cxOf (L2.CX P w) P w D.K mg base N qual (defScope st) f cdv A outer s H E) (defScope st) :=
      { hK := rfl, nd := Sc.nd, calm := rfl, gu := hgu, un := by have := hr.un; show (A.deeper _).units + 200 < cLine; omega, kind := Sc.kind, loc := fun x kd h _ => h, fre := fun x h => .inr h, fn := fun x _ => rfl, blt := T.blt, sm := T.sm,
        fnk := fun f ps e => by
          obtain ⟨a, fd, h1, h2, h3, h4⟩ := T.fnk f ps e
          exact ⟨k, a, fd, h1, hr, h2, h3, h4⟩
        cst := T.cst
        tab := T.tab }
    have tk : Takes (cxOf (L2.CX P w) P w D.K mg base N qual (defScope st) f cdv A outer s H E) (fun cv d _ H => E cv d H) := takes_of rfl rfl rfl rfl
    have po : PassesOwn (model P w) (cxOf (L2.CX P w) P w D.K mg base N qual (defScope st) f cdv A outer s H E).A (cxOf (L2.CX P w) P w D.K mg base N qual (defScope st) f cdv A outer s H E).env (cxOf (L2.CX P w) P w D.K mg base N qual (defScope st) f cdv A outer s H E).xe := passes_of rfl
    refine ⟨_, sndSs d.body (defScope st) (defBody st) (X := cxOf (L2.CX P w) P w D.K mg base N qual (defScope st) f cdv A outer s H E) rfl g tk po hb, O, ρ, ⟨env0 N.length ts, sto⟩, rs.start rv (by omega), ?_⟩
    have htl : ts.length = d.params.length := by rw [← rv.len, hl]
    unfold runF at h
    rw [if_pos ⟨htl, by rw [hs]; exact hNl⟩, hs] at h
    show Fin D _ O _ ρ (env0 N.length ts) (L2.start N vs) H (exs G d.body ⟨env0 N.length ts, sto⟩)
    have h' : match (match exs G d.body ⟨env0 N.length ts, sto⟩ with
      | .ok .nx s => RC.ok .non s.sto
      | .ok (.ret t) s => .ok t s.sto
      | .ok _ _ => .bad
      | .err c fs s => .err c fs s.sto
      | .bad => .bad) with
      | .ok t sto' => ∀ v ρ' H', Le ρ [] [] H ρ' [] [] H' → RS D.K D.cls O ρ' ⟨[], sto'⟩ [] H' → Rp D.K ρ' (Lv O ρ' [] []) H' v t → Q v H'
      | .err c fs sto' => ∀ ρ' H' cv d, Le ρ [] [] H ρ' [] [] H' → XOk D O ρ' ⟨[], sto'⟩ [] H' c fs cv d → E cv d H'
      | .bad => False := h
    have ent : ∀ {ρ' : List Addr} {s' : S} {σ' : St} {H' : Hp}, RS D.K D.cls O ρ' s' σ' H' → RS D.K D.cls O ρ' ⟨[], s'.sto⟩ [] H' := fun r => r.enter fun a z => .inl z
    have sub : ∀ {ρ' : List Addr} {s' : S} {σ' : St}, ∀ a, Lv O ρ' [] [] a → Lv O ρ' s'.env σ' a := fun {ρ' s' σ'} a l => by
      rcases l with l | l | l
      · exact .inl l
      · exact .inr (.inl l)
      · exact (no_own l).elim
    cases e : exs G d.body ⟨env0 N.length ts, sto⟩ with
    | bad => rw [e] at h'; exact h'
    | err c fs s' =>
      rw [e] at h'
      intro ρ' σ' H' cv dd l x
      obtain ⟨r, C, f1, f2, f3⟩ := x
      exact h' ρ' H' cv dd l.frame ⟨ent r, C, f1, f2, f3.imp id fun ⟨x, gs, a1, a2, a3, a4⟩ => ⟨x, gs, a1, a2, a3, a4.sub sub⟩⟩
    | ok fl s' =>
      rw [e] at h'
      cases fl with
      | nx => exact fun ρ' σ' H' l r => h' .non ρ' H' l.frame (ent r) .non
      | ret t => exact fun v ρ' σ' H' l r rt => h' v ρ' H' l.frame (ent r) (rt.sub sub)
      | bk => exact h'.elim
      | ct => exact h'.elim
end
end L2.TV

set_option maxHeartbeats 1000000
/-! Programs, and the law's own call. -/
namespace L2.TV
open PySem PySem.Spec PyProof.Rows
section
variable {P : Program} {w : World} {mg : Str → Option Value} {base : Heap}
/-- a def of the program, as it stands behind the top -/
structure DefAt (D : Wd) (mg : Str → Option Value) (pm : String → Option (List Str)) (f : String) (d : FD) : Prop where
  at' : ∃ (a : Addr) (fd : FuncData) (st : Stmt) (N : List Str), Fun D.K (Str.ofString f) (Str.ofString f) st a fd ∧ FnScope N d.params (defScope st) ∧ d.slots = N.length ∧ isSs pm N (defScope st) d.body (defBody st) = true ∧ mg (Str.ofString f) = some (.ref a) ∧ Plain fd d.params
def pmOf (Q : Prog) : String → Option (List Str) := fun g => (Q.lookup g).map (·.params)
theorem prog_ok {D : Wd} {Q : Prog} {cst : String → Option T} {tab : String → Option Tab} {fuel : Nat} (hd : ∀ f d, Q.lookup f = some d → DefAt D mg (pmOf Q) f d) (hb : ∀ x, x ∈ bltN → mg (Str.ofString x) = none) (hs : ∃ o, base.get? sysModules = some o)
    (hc : ∀ x t, cst x = some t → ∃ u v, mg (Str.ofString x) = some u ∧ RelV v u ∧ ∀ ρ L H, Rp D.K ρ L H v t)
    (ht : ∀ x tb, tab x = some tb → ∃ a, mg (Str.ofString x) = some (.ref a) ∧ TabOk D.K w a tb) : ∀ k, Top D ⟨cst, tab, callN Q cst tab fuel k, pmOf Q, fuel⟩ P w mg base k := by
  intro k
  induction k with
  | zero =>
    refine ⟨hb, hs, hc, ht, fun f ps e => ?_⟩
    have e' : (Q.lookup f).map (·.params) = some ps := e
    cases q : Q.lookup f with
    | none => rw [q] at e'; cases e'
    | some d =>
      rw [q] at e'
      cases e'
      obtain ⟨a, fd, st, N, F, Sc, hn, hbd, hm, pl⟩ := (hd f d q).at'
      refine ⟨a, fd, ⟨fun vs H Q' E h => ?_, fun A outer s H args us vs Q' E _ _ _ _ _ h => ?_⟩, hm, F.kp, pl⟩
      · obtain ⟨_, _, _, _, h, _⟩ := h; exact h
      · obtain ⟨_, _, _, _, _, _, _, h⟩ := h; exact h.elim
  | succ k ih =>
    refine ⟨hb, hs, hc, ht, fun f ps e => ?_⟩
    have e' : (Q.lookup f).map (·.params) = some ps := e
    cases q : Q.lookup f with
    | none => rw [q] at e'; cases e'
    | some d =>
      rw [q] at e'
      cases e'
      obtain ⟨a, fd, st, N, F, Sc, hn, hbd, hm, pl⟩ := (hd f d q).at'
      have r := fnF F Sc hn ih hbd
      have eq : callN Q cst tab fuel (k + 1) f = runF ⟨cst, tab, callN Q cst tab fuel k, pmOf Q, fuel⟩ d := by
        funext ts sto
        simp only [callN, q]
        rfl
      refine ⟨a, fd, ?_, hm, F.kp, pl⟩
      show FnG P w D.K mg base (k + 1) a fd d.params (spF D (callN Q cst tab fuel (k + 1) f) d.params.length)
      rw [eq]
      exact r
end

/-! ### the law's call -/
theorem call_law {P : Program} {w : World} {K : PySem.W.Frag} {mg mb : Str → Option Value} {k : Nat} {fa a : Addr} {fd : FuncData} {x : Str} {sp : Sp} {s₁ : Shared} {vs : List Value} {ns : List Int}
    (KX : K.In s₁.heap) (hns : s₁.heap.Ns mainGlobals mg) (hsys : ∃ mm, s₁.heap.Ns sysModules mm) (hb : s₁.heap.Ns builtinsNs mb) (hbb : ∀ x : Str, x ≠ "__name__" → mb x = bootBuiltins x) (hlim : s₁.heap.NoLimit) (hg : s₁.gens = #[])
    (ha : s₁.heap.get? a = some { cls := .type "list", data := .seq vs.toArray }) (hi : IntsAre vs ns) (hl : ns.length ≤ sizeLine) (hr : Room k callerA)
    (F : ∀ base : Heap, K.In base → base.Ns mainGlobals mg → (∃ o, base.get? sysModules = some o) → FnG P w K mg base k fa fd [x] sp) (hbind : ∀ (s : Shared) (u : Value), BindsTo s fd ⟨[u], []⟩ [(x, u)])
    (hsp : ∀ H : Hp, Only H → SqF K H a (ns.map V.int) → sp [.ref a] H (fun v _ => v = .bl true) fun _ _ _ => False) :
    codeAny (model P w) callerA (.call (.ref fa) ⟨[.ref a], []⟩) (fun r s' => r = .ok (.ret (.bool true)) ∧ OldK s₁.heap s'.heap ∧ s'.os = s₁.os ∧ AllBare s'.gens) s₁ := by
  have rv := vals_ints hi
  have lenV := hi.length
  have core : ∀ H : Hp, Only H → SqF K H a (ns.map V.int) → HOk P w H s₁.heap → (∀ b, H b ≠ none → b = a) → (H a ≠ none → K.lookup a = none) →
      codeAny (model P w) callerA (.call (.ref fa) ⟨[.ref a], []⟩) (fun r s' => r = .ok (.ret (.bool true)) ∧ OldK s₁.heap s'.heap ∧ s'.os = s₁.os ∧ AllBare s'.gens) s₁ := by
    intro H hO hS hok hA hK
    have free : ∀ {b : Addr} {o : Obj}, s₁.heap.get? b = some o → (b = a → False) → H b = none := fun {b o} e n => by
      cases q : H b with
      | none => rfl
      | some u => exact (n (hA b (by rw [q]; simp))).elim
    have nsK : ∀ {b : Addr} {m : Str → Option Value}, s₁.heap.Ns b m → (hidT s₁.heap H).Ns b m := fun {b m} ⟨o, es, ep, e, d, r⟩ => ⟨o, es, ep, hidT_get e (free e fun z => by
      subst z
      rw [ha] at e; cases e
      cases (show Data.seq vs.toArray _ = Data.dict es ep from d)), d, r⟩
    have hKb : K.In (hidT s₁.heap H) := fun b o e => hidT_get (KX b o e) (by
      cases q : H b with
      | none => rfl
      | some u =>
        have z := hA b (by rw [q]; simp)
        subst z
        rw [hK (by rw [q]; simp)] at e; cases e)
    have hM : Mod K mg (hidT s₁.heap H) := ⟨hKb, nsK hns, ⟨mb, nsK hb, hbb⟩, let ⟨mc, h1, h2⟩ := hlim; ⟨mc, nsK h1, h2⟩⟩
    have e0 : Env0 P w K mg (hidT s₁.heap H) callerA [] s₁ H := ⟨rfl, hM, fun b o e => of_hidT e, Nat.le_of_eq (hidT_size _ _), trivial, fun b hb => absurd (show b ∈ ([] : List Addr) from hb) (by simp), hok, .of_eq hg⟩
    have hsm : ∃ o, (hidT s₁.heap H).get? sysModules = some o := by
      obtain ⟨mm, m⟩ := hsys
      obtain ⟨o, es, ep, e, _⟩ := nsK m
      exact ⟨o, e⟩
    refine codeAny_mono ((F _ hKb (nsK hns) hsm).go callerA [] s₁ H ⟨[.ref a], []⟩ [.ref a] [.ref a] _ _ hr rfl e0 (hbind s₁ (.ref a)) (.cons rfl .nil) (hsp H hO hS)) fun r s' h => ?_
    cases r with
    | error e =>
      obtain ⟨_, _, _, _, _, _, _, _, _, _, _, _, z⟩ := h
      exact z.elim
    | ok fl =>
      cases fl with
      | next => exact False.elim h
      | brk => exact False.elim h
      | cont => exact False.elim h
      | ret u =>
        obtain ⟨v, H', os, bare, un, hok', r', q⟩ := h
        have q' : v = .bl true := q
        subst q'
        obtain rfl : u = Value.bool true := r'
        refine ⟨rfl, OldK.of_keep fun b o e => ?_, os, bare⟩
        cases q : H b with
        | none => exact un.keep b o e q (fun z => absurd (show b ∈ ([] : List Addr) from z) (by simp)) (by simp)
        | some u =>
          rcases hO b with z | ⟨ob, xs, z⟩
          · rw [q] at z; cases z
          · obtain ⟨e1, _⟩ := hok b _ z
            obtain ⟨e2, _⟩ := hok' b _ (un.frzs b ob _ z)
            rw [e] at e1; cases e1
            exact e2
  cases hk : K.lookup a with
  | some o =>
    have e := KX a o hk
    rw [ha] at e
    cases e
    refine core (fun _ => none) (fun _ => .inl rfl) (.inr ⟨_, vs.toArray, _, hk, rfl, rfl, rfl, by rw [List.size_toArray, lenV]; exact hl, by simpa using rv⟩) (fun b u z => by cases (show (none : Option HO) = some u from z)) (fun b z => absurd rfl z) fun z => absurd rfl z
  | none =>
    refine core (fun b => if b = a then some (.frz { cls := .type "list", data := .seq vs.toArray } (.lst (ns.map V.int))) else none) (fun b => ?_) (.inl ⟨{ cls := .type "list", data := .seq vs.toArray }, if_pos rfl⟩) (fun b u z => ?_) (fun b z => ?_) fun _ => hk
    · by_cases hb : b = a
      · exact .inr ⟨_, _, if_pos hb⟩
      · exact .inl (if_neg hb)
    · by_cases hb : b = a
      · have z' := (if_pos hb).symm.trans z
        cases z'
        subst hb
        exact ⟨ha, by rw [List.length_map]; exact hl, vs, _, rv, ha⟩
      · cases (if_neg hb).symm.trans z
    · by_cases hb : b = a
      · exact hb
      · exact absurd (if_neg hb) z
theorem walkG {l : PySem.W.OpenLaw} {n k : Nat} {q : Program} {loose : List Str} {XP : (Str → Option Value) → Heap → Prop} {YP : World → Heap → Prop} {d : DefRec} {K : Params → PySem.W.Frag} {sp : World → Sp} {x : Str}
    (hn : l.most = some n) (hn2 : n ≤ sizeLine) (hdf : d.params.defaults = []) (hr : Room k callerA) (him : importsNone q = true)
    (hY : ∀ (w : World) (h : Heap), YP w h → (K w.params).In h)
    (F : ∀ (w : World) (mg : Str → Option Value) (fa : Addr) (h : Heap), (K w.params).In h → h.Ns mainGlobals mg → mg d.name = some (.ref fa) →
      ∃ fd : FuncData, (∀ (s : Shared) (u : Value), BindsTo s fd ⟨[u], []⟩ [(x, u)]) ∧
        ∀ base : Heap, (K w.params).In base → base.Ns mainGlobals mg → (∃ o, base.get? sysModules = some o) → FnG l.prog w (K w.params) mg base k fa fd [x] (sp w))
    (hsp : ∀ (w : World) (H : Hp) (a : Addr) (ns : List Int), ns.length ≤ n → Only H → SqF (K w.params) H a (ns.map V.int) → sp w [.ref a] H (fun v _ => v = .bl true) fun _ _ _ => False) :
    PySem.W.WalkO q loose XP YP l.row.toRowW d [] (fun f vs => PySem.call f vs) := by
  refine Att.attach_call hn hdf fun w s₀ s₁ mg mb fa o pm cd doc a vs ns G Y ho hd hcd hmg hobj hints hlen hg => ?_
  have KX := hY w _ Y
  obtain ⟨fd, hb, hF⟩ := F w mg fa _ KX G.T.g hmg
  obtain ⟨mm, hm, _⟩ := (G.T.seer him).mods
  exact call_law KX G.T.g ⟨mm, hm⟩ G.T.b G.T.builtins G.T.nolimit hg hobj hints (Nat.le_trans hlen hn2) hr hF hb fun H hO hS => hsp w H a ns hlen hO hS
/-- from what the interpreter says of the law -/
theorem law_of {D : Wd} {C : List T → List Cell → RC} {a : Addr} {ns : List Int} {H : Hp} (hO : Only H) (hS : SqF D.K H a (ns.map V.int)) (h : C [.scr ns] [] = .ok (.bl true) []) : spF D C 1 [.ref a] H (fun v _ => v = .bl true) fun _ _ _ => False := by
  refine ⟨fun _ => False, [], [], [.scr ns], rfl, ⟨List.nodup_nil, rfl, fun i t e => by simp at e, fun i x e _ => by simp at e, fun i j x y a e _ _ _ _ _ => by simp at e, fun n c a e _ => by simp at e, fun a z => z.elim, rfl⟩, .cons (.scr hS) .nil, ?_⟩
  rw [h]
  intro v ρ' H' _ _ r
  cases r
  rfl
/-- .. whatever is left in the store -/
theorem law_of' {D : Wd} {C : List T → List Cell → RC} {a : Addr} {ns : List Int} {H : Hp} (hO : Only H) (hS : SqF D.K H a (ns.map V.int)) (h : ∃ sto, C [.scr ns] [] = .ok (.bl true) sto) : spF D C 1 [.ref a] H (fun v _ => v = .bl true) fun _ _ _ => False := by
  obtain ⟨sto, h⟩ := h
  refine ⟨fun _ => False, [], [], [.scr ns], rfl, ⟨List.nodup_nil, rfl, fun i t e => by simp at e, fun i x e _ => by simp at e, fun i j x y a e _ _ _ _ _ => by simp at e, fun n c a e _ => by simp at e, fun a z => z.elim, rfl⟩, .cons (.scr hS) .nil, ?_⟩
  rw [h]
  intro v ρ' H' _ _ r
  cases r
  rfl
end L2.TV

set_option maxHeartbeats 1000000
/-! From what stands behind the top to the law. -/
namespace L2.TV
open PySem PySem.Spec PyProof.Rows
/-! ### constants of the text -/
mutual
def cstB (K : PySem.W.Frag) : T → Value → Bool
  | .non, .none => true
  | .bl b, .bool c => decide (b = c)
  | .int i, .int j _ => decide (i = j)
  | .str x, .str y _ => decide (x = y)
  | .tup ts, .ref a => match K.lookup a with
    | some ⟨.type c, none, .seq its _, _⟩ => decide (c = "tuple") && Nat.ble its.size sizeLine && !markT ts && cstBs K ts its.toList
    | _ => false
  | _, _ => false
def cstBs (K : PySem.W.Frag) : List T → List Value → Bool
  | [], [] => true
  | t :: ts, u :: us => cstB K t u && cstBs K ts us
  | _, _ => false
end
section
variable {K : PySem.W.Frag}
mutual
theorem cstB_ok : ∀ {t : T} {u : Value}, cstB K t u = true → ∃ v, RelV v u ∧ ∀ ρ L H, Rp K ρ L H v t
  | .non, u, h => by
    cases u <;> simp only [cstB] at h <;> first | exact ⟨.non, rfl, fun _ _ _ => .non⟩ | cases h
  | .bl b, u, h => by
    cases u <;> simp only [cstB] at h <;> first | cases h | skip
    exact ⟨.bl b, by rw [of_decide_eq_true h]; rfl, fun _ _ _ => .bl b⟩
  | .int i, u, h => by
    cases u <;> simp only [cstB] at h <;> first | cases h | skip
    rename_i j tk
    exact ⟨.int i, ⟨tk, by rw [of_decide_eq_true h]⟩, fun _ _ _ => .int i⟩
  | .str x, u, h => by
    cases u <;> simp only [cstB] at h <;> first | cases h | skip
    rename_i j tk
    exact ⟨.str x, ⟨tk, by rw [of_decide_eq_true h]⟩, fun _ _ _ => .str x⟩
  | .tup ts, u, h => by
    cases u <;> simp only [cstB] at h <;> first | cases h | skip
    rename_i a
    split at h
    · rename_i e
      simp only [Bool.and_eq_true, decide_eq_true_eq, Bool.not_eq_true'] at h
      obtain ⟨⟨⟨rfl, h2⟩, hm⟩, h3⟩ := h
      obtain ⟨xs, r, k⟩ := cstBs_ok h3
      exact ⟨.ref a, rfl, fun ρ L H => .tup ⟨.inr ⟨_, _, _, e, rfl, rfl, Nat.le_of_ble_eq_true h2, r⟩, fun z => by rw [hm] at z; cases z⟩ (k ρ L H)⟩
    · cases h
  | .lst _, _, h => by simp [cstB] at h
  | .dk _, _, h => by simp [cstB] at h
  | .dt _, _, h => by simp [cstB] at h
  | .scr _, _, h => by simp [cstB] at h
  | .ref _, _, h => by simp [cstB] at h
theorem cstBs_ok : ∀ {ts : List T} {us : List Value}, cstBs K ts us = true → ∃ xs, Vals xs us ∧ ∀ ρ L H, RpL K ρ L H xs ts
  | [], [], _ => ⟨[], .nil, fun _ _ _ => .nil⟩
  | t :: ts, u :: us, h => by
    simp only [cstBs, Bool.and_eq_true] at h
    obtain ⟨v, r1, k1⟩ := cstB_ok h.1
    obtain ⟨vs, r2, k2⟩ := cstBs_ok h.2
    exact ⟨v :: vs, .cons r1 r2, fun ρ L H => .cons (k1 ρ L H) (k2 ρ L H)⟩
  | [], _ :: _, h => by simp [cstBs] at h
  | _ :: _, [], h => by simp [cstBs] at h
end
/-- each constant stands at the top -/
def csB (cs : List (String × T)) (K : PySem.W.Frag) : Bool := cs.all fun p => match PySem.W.nsIn K mainGlobals (Str.ofString p.1) with
  | some (some u) => cstB K p.2 u
  | _ => false
theorem csB_ok {cs : List (String × T)} {h : Heap} {mg : Str → Option Value} (X : K.In h) (G : h.Ns mainGlobals mg) (e : csB cs K = true) {x : String} {t : T} (hx : cs.lookup x = some t) : ∃ u v, mg (Str.ofString x) = some u ∧ RelV v u ∧ ∀ ρ L H, Rp K ρ L H v t := by
  have key : ∀ {l : List (String × T)}, l.lookup x = some t → (x, t) ∈ l := by
    intro l
    induction l with
    | nil => intro h; cases h
    | cons p l ih =>
      intro h
      obtain ⟨y, u⟩ := p
      rw [List.lookup_cons] at h
      cases hxy : x == y with
      | true =>
        rw [hxy] at h
        have : x = y := by simpa using hxy
        subst this
        cases h
        exact List.mem_cons_self
      | false => rw [hxy] at h; exact List.mem_cons_of_mem _ (ih h)
  have := List.all_eq_true.mp e _ (key hx)
  dsimp only at this
  split at this
  · rename_i u hu
    obtain ⟨v, r, k⟩ := cstB_ok this
    exact ⟨u, v, PySem.W.mg_of X G hu, r, k⟩
  · cases this
end
/-! ### tables of the text -/
inductive CK where
  | s (x : Str) | b (b : Bool)
def keyO (e : DictEntry) : Option (CK × Int) := match e.key with
  | .str x _ => some (.s x, e.hash)
  | .bool b => some (.b b, e.hash)
  | _ => none
def tabAt (K : PySem.W.Frag) (x : String) : Option (Addr × Array DictEntry) := match PySem.W.nsIn K mainGlobals (Str.ofString x) with
  | some (some (.ref a)) => match K.lookup a with
    | some ⟨.type c, none, .dict es _, sl⟩ => bif decide (c = "dict") && (sl.isEmpty && !(a == sysModules)) then some (a, es) else none
    | _ => none
  | _ => none
def tabObs (K : PySem.W.Frag) (x : String) : Option (List (Option (CK × Int))) := (tabAt K x).map fun p => p.2.toList.map keyO
def hashC (w : World) : CK → Int
  | .s x => hashStr w x
  | .b b => PpSet.hB b
def tabKeys : Tab → List CK
  | .s l => l.map fun p => .s p.1
  | .b l => l.map fun p => .b p.1
def tabVals : Tab → List T
  | .s l => l.map (·.2)
  | .b l => l.map (·.2)
def tabVal (w : World) (tb : Tab) : Option (List (Option (CK × Int))) := some ((tabKeys tb).map fun k => some (k, hashC w k))
def tabsB (ts : List (String × Tab)) (K : PySem.W.Frag) : Bool := ts.all fun p => match tabAt K p.1 with
  | some (_, es) => cstBs K (tabVals p.2) (es.toList.map (·.val))
  | none => false
theorem tabAt_ok {K : PySem.W.Frag} {x : String} {a : Addr} {es : Array DictEntry} (h : tabAt K x = some (a, es)) : PySem.W.nsIn K mainGlobals (Str.ofString x) = some (some (.ref a)) ∧ (∃ n, K.lookup a = some ⟨.type "dict", none, .dict es n, #[]⟩) ∧ (a == sysModules) = false := by
  unfold tabAt at h
  split at h
  · rename_i a' e
    split at h
    · rename_i c es' n sl e2
      cases hc : (decide (c = "dict") && (sl.isEmpty && !(a' == sysModules))) with
      | false => rw [hc] at h; cases h
      | true =>
        rw [hc] at h
        cases h
        simp only [Bool.and_eq_true, decide_eq_true_eq, Bool.not_eq_true', Array.isEmpty_iff] at hc
        obtain ⟨rfl, rfl, h3⟩ := hc
        exact ⟨e, ⟨n, e2⟩, h3⟩
    · cases h
  · cases h
section
variable {K : PySem.W.Frag}
theorem ent_s {w : World} : ∀ {es : List DictEntry} {l : List (Str × T)}, es.map keyO = (l.map fun p => CK.s p.1).map (fun k => some (k, hashC w k)) → cstBs K (l.map (·.2)) (es.map (·.val)) = true → EntOk K (hashStr w) Value.isStrOf es l
  | [], [], _, _ => trivial
  | e :: es, p :: l, h, h2 => by
    simp only [List.map_cons, List.cons.injEq] at h
    simp only [List.map_cons, cstBs, Bool.and_eq_true] at h2
    obtain ⟨h1, h3⟩ := h
    unfold keyO at h1
    split at h1
    · rename_i x t e1
      simp only [Option.some.injEq, Prod.mk.injEq, CK.s.injEq] at h1
      refine ⟨by rw [e1, h1.1]; simp [Value.isStrOf], by rw [h1.2]; rfl, cstB_ok h2.1, ent_s h3 h2.2⟩
    · simp at h1
    · cases h1
  | [], _ :: _, h, _ => by simp at h
  | _ :: _, [], h, _ => by simp at h
theorem ent_b {w : World} : ∀ {es : List DictEntry} {l : List (Bool × T)}, es.map keyO = (l.map fun p => CK.b p.1).map (fun k => some (k, hashC w k)) → cstBs K (l.map (·.2)) (es.map (·.val)) = true → EntOk K PpSet.hB PpSet.isB es l
  | [], [], _, _ => trivial
  | e :: es, p :: l, h, h2 => by
    simp only [List.map_cons, List.cons.injEq] at h
    simp only [List.map_cons, cstBs, Bool.and_eq_true] at h2
    obtain ⟨h1, h3⟩ := h
    unfold keyO at h1
    split at h1
    · simp at h1
    · rename_i b e1
      simp only [Option.some.injEq, Prod.mk.injEq, CK.b.injEq] at h1
      refine ⟨by rw [e1, h1.1]; simp [PpSet.isB], by rw [h1.2]; rfl, cstB_ok h2.1, ent_b h3 h2.2⟩
    · cases h1
  | [], _ :: _, h, _ => by simp at h
  | _ :: _, [], h, _ => by simp at h
end
theorem lookup_mem {α : Type} : ∀ {l : List (String × α)} {x : String} {t : α}, l.lookup x = some t → (x, t) ∈ l
  | [], _, _, h => by cases h
  | p :: l, x, t, h => by
    obtain ⟨y, u⟩ := p
    rw [List.lookup_cons] at h
    cases hxy : x == y with
    | true =>
      rw [hxy] at h
      have : x = y := by simpa using hxy
      subst this
      cases h
      exact List.mem_cons_self
    | false => rw [hxy] at h; exact List.mem_cons_of_mem _ (lookup_mem h)
theorem tabs_ok {ts : List (String × Tab)} {K : PySem.W.Frag} {w : World} {h : Heap} {mg : Str → Option Value} (X : K.In h) (G : h.Ns mainGlobals mg) (e : tabsB ts K = true) (o : ts.map (fun p => tabObs K p.1) = ts.map fun p => tabVal w p.2) {x : String} {tb : Tab} (hx : ts.lookup x = some tb) :
    ∃ a, mg (Str.ofString x) = some (.ref a) ∧ TabOk K w a tb := by
  have hm := lookup_mem hx
  obtain ⟨i, hi, ei⟩ := List.mem_iff_getElem.mp hm
  have o1 : tabObs K x = tabVal w tb := by
    have := congrArg (fun l => l[i]?) o
    simp only [List.getElem?_map, List.getElem?_eq_getElem hi, Option.map_some, Option.some.injEq, ei] at this
    exact this
  have e1 := List.all_eq_true.mp e _ hm
  dsimp only at e1
  unfold tabObs tabVal at o1
  cases q : tabAt K x with
  | none => rw [q] at e1; cases e1
  | some p =>
    obtain ⟨a, es⟩ := p
    rw [q] at e1 o1
    simp only [Option.map_some, Option.some.injEq] at e1 o1
    obtain ⟨q1, ⟨n, q2⟩, q3⟩ := tabAt_ok q
    refine ⟨a, PySem.W.mg_of X G q1, es, n, q2, q3, ?_⟩
    cases tb with
    | s l => exact ent_s o1 e1
    | b l => exact ent_b o1 e1
/-! ### the head's hook -/
abbrev AlM : Type := He.AlD × Bool × List (Option (List (Option (CK × Int))))
def obsM (n : Nat) (fa : List He.Fa) (fn : List He.DefD) (ex : PySem.W.Frag → Bool) (ts : List (String × Tab)) (g : Addr → Option Obj) : AlM := (He.obsD fa fn (He.frG g (He.asD g n)), ex (He.frG g (He.asD g n)), ts.map fun p => tabObs (He.frG g (He.asD g n)) p.1)
def hookM (n : Nat) (fa : List He.Fa) (fn : List He.DefD) (ex : PySem.W.Frag → Bool) (ts : List (String × Tab)) : PySem.W.Hook where
  α := AlM
  obs := fun s => obsM n fa fn ex ts s.heap.get?
  val := fun w => ((He.valD fn, true, ts.map fun (p : String × Tab) => tabVal w p.2) : AlM)
  says := fun w h => ∃ K : PySem.W.Frag, K.In h ∧ He.SaysD fa fn K ∧ ex K = true ∧ ts.map (fun p => tabObs K p.1) = ts.map fun p => tabVal w p.2
  of := fun _ _ e => ⟨_, He.frG_in, congrArg (fun z : AlM => z.1) e, congrArg (fun z : AlM => z.2.1) e, congrArg (fun z : AlM => z.2.2) e⟩
  keeps := fun _ _ _ ⟨K, hK, c⟩ k => ⟨K, PySem.W.Frag.In.keeps hK k, c⟩
theorem obsM_eq {n : Nat} {fa : List He.Fa} {fn : List He.DefD} {ex : PySem.W.Frag → Bool} {ts : List (String × Tab)} {g : Addr → Option Obj} {s : Shared} (h : ∀ a, g a = s.heap.get? a) : obsM n fa fn ex ts g = (hookM n fa fn ex ts).obs s := by
  have e : g = s.heap.get? := funext h
  rw [e]; rfl
/-! ### defs -/
structure Row where
  nm : String
  st : Stmt
  N : List Str
  d : FD
def Row.dd (r : Row) : He.DefD := ⟨(Str.ofString r.nm, none), Str.ofString r.nm, Str.ofString r.nm, defArgs r.st, defBody r.st, defScope r.st, [], []⟩
def isFnK : ScopeKind → Bool
  | .function => true | _ => false
def isLc : Option NameKind → Bool
  | some .local => true | some .cell => true | _ => false
def isFree : NameKind → Bool
  | .free => true | _ => false
def scopeB (N ps : List Str) (sc : Scope) : Bool := isFnK sc.kind && !sc.isCoroutine && !sc.isGenerator && decide N.Nodup && decide (N.take ps.length = ps) && ps.all (fun x => isLc (sc.names.lookup x)) && sc.names.all fun y => !isFree y.2
theorem scopeB_ok {N ps : List Str} {sc : Scope} (h : scopeB N ps sc = true) : FnScope N ps sc := by
  simp only [scopeB, Bool.and_eq_true, decide_eq_true_eq, Bool.not_eq_true', List.all_eq_true] at h
  obtain ⟨⟨⟨⟨⟨⟨h1, h2⟩, h3⟩, h4⟩, h5⟩, h6⟩, h7⟩ := h
  refine ⟨?_, h2, h3, h4, h5, fun x hx => ?_, fun y hy e => ?_⟩
  · cases e : sc.kind <;> rw [e] at h1 <;> first | rfl | cases h1
  · have := h6 x hx
    revert this
    unfold isLc
    split <;> intro z <;> first | (rename_i e; exact .inl e) | (rename_i e; exact .inr e) | cases z
  · have := h7 y hy
    rw [e] at this; cases this
def Row.argsB (r : Row) : Bool := (defArgs r.st).posonlyargs.isEmpty && (defArgs r.st).kwonlyargs.isEmpty && (defArgs r.st).vararg.isNone && (defArgs r.st).kwarg.isNone && decide ((defArgs r.st).args.map (·.arg) = r.d.params)
def Row.okB (pm : String → Option (List Str)) (r : Row) : Bool := scopeB r.N r.d.params (defScope r.st) && decide (r.d.slots = r.N.length) && isSs pm r.N (defScope r.st) r.d.body (defBody r.st) && r.argsB
def progOf (rs : List Row) : Prog := rs.map fun r => (r.nm, r.d)
theorem lookup_row {rs : List Row} {f : String} {d : FD} (h : (progOf rs).lookup f = some d) : ∃ r ∈ rs, r.nm = f ∧ r.d = d := by
  induction rs with
  | nil => cases h
  | cons r rs ih =>
    have h' : List.lookup f ((r.nm, r.d) :: progOf rs) = some d := h
    rw [List.lookup_cons] at h'
    cases e : f == r.nm with
    | true =>
      rw [e] at h'
      have : f = r.nm := by simpa using e
      exact ⟨r, List.mem_cons_self, this.symm, by simpa using h'⟩
    | false =>
      rw [e] at h'
      obtain ⟨r', m, k⟩ := ih h'
      exact ⟨r', List.mem_cons_of_mem _ m, k⟩
theorem FunD.to {K : PySem.W.Frag} {x qual : Str} {st : Stmt} {f : Addr} {fd : FuncData} (F : FunD K x qual (defArgs st) (defBody st) (defScope st) [] [] f fd) : Fun K x qual st f fd ∧ fd.defaults = .none ∧ fd.params = defArgs st := by
  obtain ⟨oc, od, dV, kV, doc, pm, an, cdv, ct, osl, rfl, lk, hcd, hd, _⟩ := F.ex
  have e : dV = .none := by
    rcases hd with ⟨_, e⟩ | ⟨e, _⟩
    · exact e
    · exact (e rfl).elim
  subst e
  exact ⟨⟨⟨oc, od, kV, doc, pm, an, cdv, ct, osl, rfl, lk, hcd⟩, F.kp⟩, rfl, rfl⟩
/-- facts asked of the names -/
def factsOf (rs : List Row) : List He.Fa := (rs.map fun r => He.Fa.glo (Str.ofString r.nm)) ++ bltN.map fun x => He.Fa.free (Str.ofString x)
section
variable {rs : List Row} {K : PySem.W.Frag} {h : Heap} {mg : Str → Option Value} {cls : Str → Option Addr}
theorem saysDef {fa : List He.Fa} {fn : List He.DefD} (c : He.SaysD fa fn K) {d : He.DefD} (m : d ∈ fn) : ∃ fd, FunD K d.name d.qual d.params d.body d.scope (d.dvs K) (d.kws K) (He.fAd K d.at_) fd := by
  obtain ⟨i, hi, e⟩ := List.mem_iff_getElem.mp m
  exact c.def_ i (d := d) (by rw [List.getElem?_eq_getElem hi, e])
theorem saysFa {fa : List He.Fa} {fn : List He.DefD} (c : He.SaysD fa fn K) {f : He.Fa} (m : f ∈ fa) : f.ok K = true := by
  obtain ⟨i, hi, e⟩ := List.mem_iff_getElem.mp m
  exact c.fact i (f := f) (by rw [List.getElem?_eq_getElem hi, e])
theorem row_at (X : K.In h) (G : h.Ns mainGlobals mg) (c : He.SaysD (factsOf rs) (rs.map Row.dd) K) (ok : rs.all (Row.okB (pmOf (progOf rs))) = true) {f : String} {d : FD} (e : (progOf rs).lookup f = some d) : DefAt ⟨K, cls⟩ mg (pmOf (progOf rs)) f d := by
  obtain ⟨r, m, rfl, rfl⟩ := lookup_row e
  obtain ⟨fd, F⟩ := saysDef c (List.mem_map.mpr ⟨r, m, rfl⟩)
  obtain ⟨F1, F2, F3⟩ := FunD.to (st := r.st) F
  have hb := List.all_eq_true.mp ok r m
  simp only [Row.okB, Bool.and_eq_true, decide_eq_true_eq] at hb
  obtain ⟨⟨⟨b1, b2⟩, b3⟩, b4⟩ := hb
  simp only [Row.argsB, Bool.and_eq_true, decide_eq_true_eq, List.isEmpty_iff, Option.isNone_iff_eq_none] at b4
  obtain ⟨⟨⟨⟨a1, a2⟩, a3⟩, a4⟩, a5⟩ := b4
  have hg := He.glo_ok X G (saysFa c (f := .glo (Str.ofString r.nm)) (List.mem_append_left _ (List.mem_map.mpr ⟨r, m, rfl⟩)))
  exact ⟨_, fd, r.st, r.N, F1, scopeB_ok b1, b2, b3, hg, ⟨by rw [F3]; exact a1, by rw [F3]; exact a2, by rw [F3]; exact a3, by rw [F3]; exact a4, F2, by rw [F3]; exact a5⟩⟩
theorem free_at (X : K.In h) (G : h.Ns mainGlobals mg) (c : He.SaysD (factsOf rs) (rs.map Row.dd) K) : ∀ x, x ∈ bltN → mg (Str.ofString x) = none := fun x hx =>
  He.free_ok X G (saysFa c (f := .free (Str.ofString x)) (List.mem_append_right _ (List.mem_map.mpr ⟨x, hx, rfl⟩)))
end
/-! ### the walk of a law -/
theorem walkE {l : PySem.W.OpenLaw} {n k : Nat} {q : Program} {loose : List Str} {XP : (Str → Option Value) → Heap → Prop} {YP : World → Heap → Prop} {d : DefRec} {x : Str}
    (hn : l.most = some n) (hn2 : n ≤ sizeLine) (hdf : d.params.defaults = []) (hr : Room k callerA) (him : importsNone q = true)
    (F : ∀ (w : World) (mg : Str → Option Value) (fa : Addr) (h : Heap), YP w h → h.Ns mainGlobals mg → mg d.name = some (.ref fa) →
      ∃ (K : PySem.W.Frag) (fd : FuncData) (sp : Sp), K.In h ∧ (∀ (s : Shared) (u : Value), BindsTo s fd ⟨[u], []⟩ [(x, u)]) ∧
        (∀ (H : Hp) (a : Addr) (ns : List Int), ns.length ≤ n → Only H → SqF K H a (ns.map V.int) → sp [.ref a] H (fun v _ => v = .bl true) fun _ _ _ => False) ∧
        ∀ base : Heap, K.In base → base.Ns mainGlobals mg → (∃ o, base.get? sysModules = some o) → FnG l.prog w K mg base k fa fd [x] sp) :
    PySem.W.WalkO q loose XP YP l.row.toRowW d [] (fun f vs => PySem.call f vs) := by
  refine Att.attach_call hn hdf fun w s₀ s₁ mg mb fa o pm cd doc a vs ns G Y ho hd hcd hmg hobj hints hlen hg => ?_
  obtain ⟨K, fd, sp, KX, hb, hsp, hF⟩ := F w mg fa _ Y G.T.g hmg
  obtain ⟨mm, hm, _⟩ := (G.T.seer him).mods
  exact call_law KX G.T.g ⟨mm, hm⟩ G.T.b G.T.builtins G.T.nolimit hg hobj hints (Nat.le_trans hlen hn2) hr hF hb fun H hO hS => hsp H a ns hlen hO hS
/-- all together: the defs' checks, the constants, the law's answer by the interpreter -/
theorem law_walk {l : PySem.W.OpenLaw} {n k fuel : Nat} {q : Program} {loose : List Str} {XP : (Str → Option Value) → Heap → Prop} {d : DefRec} {rs : List Row} {cs : List (String × T)} {ts : List (String × Tab)} {lm : Nat} {x : String} {dl : FD}
    (hn : l.most = some n) (hn2 : n ≤ sizeLine) (hdf : d.params.defaults = []) (hr : Room (k + 1) callerA) (him : importsNone q = true) (hnm : d.name = Str.ofString "law") (ok : rs.all (Row.okB (pmOf (progOf rs))) = true)
    (hl : (progOf rs).lookup "law" = some dl) (hx : dl.params = [Str.ofString x])
    (main : ∀ ns : List Int, ns.length ≤ n → ∃ sto, callN (progOf rs) (fun y => cs.lookup y) (fun y => ts.lookup y) fuel (k + 1) "law" [.scr ns] [] = .ok (.bl true) sto) :
    PySem.W.WalkO q loose XP (hookM lm (factsOf rs) (rs.map Row.dd) (fun K => csB cs K && tabsB ts K) ts).says l.row.toRowW d [] (fun f vs => PySem.call f vs) := by
  refine walkE (x := Str.ofString x) hn hn2 hdf hr him fun w mg fa h Y G hmg => ?_
  obtain ⟨K, KX, c, ex0, et⟩ := Y
  rw [Bool.and_eq_true] at ex0
  obtain ⟨ex, ex2⟩ := ex0
  have hd : ∀ f d, (progOf rs).lookup f = some d → DefAt ⟨K, fun _ => none⟩ mg (pmOf (progOf rs)) f d := fun f d e => row_at KX G c ok e
  rw [hnm] at hmg
  obtain ⟨a0, fd, st, N, F, Sc, hs, hb, hm, pl⟩ := (hd _ _ hl).at'
  have ea : a0 = fa := by rw [hm] at hmg; cases hmg; rfl
  subst ea
  refine ⟨K, fd, spF ⟨K, fun _ => none⟩ (callN (progOf rs) (fun y => cs.lookup y) (fun y => ts.lookup y) fuel (k + 1) "law") 1, KX, fun s u => ?_, fun H a ns hlen hO hS => law_of' (D := ⟨K, fun _ => none⟩) hO hS (main ns hlen), fun base hK hG hsm => ?_⟩
  · have := Plain.to pl (us := [u]) (ws := []) (ks := []) (by rw [hx]; simp [kwOk]) rfl
    rw [hx] at this
    exact .of_eq (by simpa [kwArgs] using this)
  · have T := prog_ok (P := l.prog) (w := w) (cst := fun y => cs.lookup y) (tab := fun y => ts.lookup y) (fuel := fuel) hd (free_at KX G c) hsm (fun x t e => csB_ok KX G ex e) (fun x tb e => tabs_ok KX G ex2 et e) k
    have r := fnF F Sc hs T hb
    have eq : callN (progOf rs) (fun y => cs.lookup y) (fun y => ts.lookup y) fuel (k + 1) "law" = runF ⟨fun y => cs.lookup y, fun y => ts.lookup y, callN (progOf rs) (fun y => cs.lookup y) (fun y => ts.lookup y) fuel k, pmOf (progOf rs), fuel⟩ dl := by
      funext ts sto
      simp only [callN, hl]
      rfl
    rw [eq]
    rw [hx] at r
    exact r
end L2.TV

set_option maxHeartbeats 1000000
/-! Plain laws of the interpreter. -/
namespace L2.TV
open PySem PySem.Spec PyProof.Rows
namespace Sh
def d__law_take : FD := ⟨["_law_pot_here", "_law_many"], 5, [.ite (.cmp .gt (.ix (.var 0) (.int 0)) (.int 0)) [.setv 4 (.bin .mod (.ix (.var 0) (.int 0)) (.var 1)),
    .six (.var 0) (.int 0) (.bin .fdiv (.ix (.var 0) (.int 0)) (.var 1)),
    .ret (.var 4)] [],
    .six (.var 0) (.int 2) (.bin .add (.ix (.var 0) (.int 2)) (.int 1)),
    .setv 2 (.ix (.lst [.int 2147483647, .int 2147483629, .int 2147483587, .int 2147483579, .int 2147483563]) (.bin .mod (.ix (.var 0) (.int 2)) (.int 5))),
    .setv 3 (.bin .mod (.bin .pow (.bin .add (.bin .add (.ix (.var 0) (.int 1)) (.bin .mul (.bin .mul (.int 65537) (.ix (.var 0) (.int 2))) (.ix (.var 0) (.int 2)))) (.int 41)) (.int 3)) (.var 2)),
    .ret (.bin .mod (.bin .fdiv (.bin .mod (.bin .mul (.var 3) (.bin .add (.bin .mod (.var 3) (.int 10007)) (.bin .mul (.int 89) (.ix (.var 0) (.int 2))))) (.int 2305843009213693921)) (.int 101)) (.var 1))]⟩
def d__law_of : FD := ⟨["_law_pot_here", "_law_some"], 2, [.ret (.ix (.var 1) (.call "_law_take" [.var 0, .fn .len [.var 1]]))]⟩
def d__law_pot : FD := ⟨["_law_script", "_law_k"], 4, [.setv 2 (.ife (.cmp .lt (.var 1) (.fn .len [.var 0])) (.ix (.var 0) (.var 1)) (.bin .add (.bin .mul (.int 17) (.var 1)) (.int 5))),
    .setv 3 (.bin .mul (.bin .mod (.fn .abs [.var 2]) (.bin .pow (.bin .pow (.int 10) (.int 60)) (.int 5))) (.fn .int [.cmp .ge (.fn .abs [.var 2]) (.bin .pow (.int 10) (.int 18))])),
    .ret (.cel [.var 3, .bin .mod (.bin .add (.bin .add (.bin .mul (.bin .mod (.var 2) (.int 2305843009213693951)) (.int 48271)) (.bin .mul (.bin .mul (.int 6907) (.var 1)) (.var 1))) (.int 23)) (.int 2305843009213693907), .int 0])]⟩
/-- the law over the first cells, at most m -/
def d_law (m : Int) : FD := ⟨["_law_script"], 2, [.for_ (.name 1) (.range1 (.fn .max2 [.int 1, .fn .min2 [.int m, .fn .len [.var 0]]])) [.ite (.not (.call "_law_right" [.call "_law_pot" [.var 0, .var 1]])) [.ret (.bl false)] []],
    .ret (.bl true)]⟩
end Sh
/-- a pot at n: its mixer has been asked at most k times -/
def Pot (n k : Nat) (sto : List Cell) : Prop := sto.all Cell.flat = true ∧ ∃ a b c : Int, sto[n]? = some (.lst [.int a, .int b, .int c]) ∧ 0 ≤ b ∧ b < 2 ^ 100 ∧ 0 ≤ c ∧ c ≤ k
theorem flat_set {sto : List Cell} {n : Nat} {c : Cell} (h : sto.all Cell.flat = true) (hc : c.flat = true) : (sto.set n c).all Cell.flat = true := by
  rw [List.all_eq_true] at *
  intro x hx
  rcases List.mem_or_eq_of_mem_set hx with hx | rfl
  · exact h x hx
  · exact hc
theorem evs_nil (G : Cfg) (s : S) : evs G [] s = .ok [] s := by simp only [evs]
theorem log2_lt {i : Int} {n : Nat} (h : i.natAbs < 2 ^ n) (hn : 0 < n) : i.natAbs.log2 < n := by
  by_cases z : i.natAbs = 0
  · rw [z]; simpa using hn
  · exact (Nat.log2_lt z).mpr h
theorem natAbs_lt {i : Int} {n : Nat} (h0 : 0 ≤ i) (h : i < 2 ^ n) : i.natAbs < 2 ^ n := by
  have : ((i.natAbs : Nat) : Int) < ((2 ^ n : Nat) : Int) := by push_cast; omega
  exact_mod_cast this
theorem take_ok (G : Cfg) {n k : Nat} {m : Int} {sto : List Cell} (hp : Pot n k sto) (hk : k < 2 ^ 64) (hm : 0 < m) (hm2 : m < 2 ^ 64) : ∃ d sto', 0 ≤ d ∧ d < m ∧ runF G Sh.d__law_take [.ref n, .int m] sto = .ok (.int d) sto' ∧ Pot n (k + 1) sto' ∧ ∃ c, sto' = sto.set n c := by
  obtain ⟨hfl, a, b, c, h, b0, b1, c0, c1⟩ := hp
  have hl : n < sto.length := (List.getElem?_eq_some_iff.mp h).1
  have hm3 : m.natAbs.log2 < 9000 := log2_lt (Nat.lt_of_lt_of_le (natAbs_lt (Int.le_of_lt hm) hm2) (Nat.pow_le_pow_right (by decide) (by decide))) (by decide)
  by_cases ha : 0 < a
  · refine ⟨a % m, sto.set n (.lst [.int (a / m), .int b, .int c]), Int.emod_nonneg _ (by omega), Int.emod_lt_of_pos _ hm, ?_, ⟨flat_set hfl rfl, a / m, b, c, by simp [hl], b0, b1, c0, by omega⟩, _, rfl⟩
    simp [runF, Sh.d__law_take, exs, ex, evB, ev, rdVar, R.bind, R.opt, h, Rt.res, Rt.t, binT, modT, cmpT, setE, truth, atI, ixN, hm, ha, fdivT, hm3, setR, Rt.slot]
  · have hc : ((c + 1) % 5 = 0) ∨ ((c + 1) % 5 = 1) ∨ ((c + 1) % 5 = 2) ∨ ((c + 1) % 5 = 3) ∨ ((c + 1) % 5 = 4) := by omega
    have cb : c + 1 < 2 ^ 65 := by omega
    have sm : ∀ {i : Int} {e : Nat}, 0 ≤ i → i < 2 ^ e → 0 < e → i.natAbs.log2 < e := fun h0 h1 h2 => log2_lt (natAbs_lt h0 h1) h2
    have n1 : Nat.log2 65537 = 16 := by decide +kernel
    have h1 : 16 + (c + 1).natAbs.log2 < 1000000 := by
      have := sm (e := 65) (show 0 ≤ c + 1 by omega) cb (by decide)
      omega
    have sq : (c + 1) * (c + 1) ≤ 2 ^ 65 * 2 ^ 65 := Int.mul_le_mul (by omega) (by omega) (by omega) (by omega)
    have e0 : 65537 * (c + 1) * (c + 1) = 65537 * ((c + 1) * (c + 1)) := Int.mul_assoc _ _ _
    have sq0 : 0 ≤ (c + 1) * (c + 1) := Int.mul_nonneg (by omega) (by omega)
    have h2 : (65537 * (c + 1)).natAbs.log2 + (c + 1).natAbs.log2 < 1000000 := by
      have := sm (e := 65) (show 0 ≤ c + 1 by omega) cb (by decide)
      have := sm (e := 90) (show 0 ≤ 65537 * (c + 1) by omega) (by omega) (by decide)
      omega
    generalize hX : b + 65537 * (c + 1) * (c + 1) + 41 = X
    have X0 : 0 ≤ X := by rw [← hX, e0]; omega
    have X1 : X < 2 ^ 160 := by rw [← hX, e0]; omega
    have h3 : ((Builtin.Int.intBits X : Nat) : Int) * 3 ≤ 134217728 := by
      have := sm (e := 160) X0 X1 (by decide)
      unfold Builtin.Int.intBits
      split <;> omega
    have fin : ∀ p : Int, 0 < p → p < 2 ^ 31 → ((c + 1) % 5 = 0 ∧ p = 2147483647 ∨ (c + 1) % 5 = 1 ∧ p = 2147483629 ∨ (c + 1) % 5 = 2 ∧ p = 2147483587 ∨ (c + 1) % 5 = 3 ∧ p = 2147483579 ∨ (c + 1) % 5 = 4 ∧ p = 2147483563) →
        ∃ d sto', 0 ≤ d ∧ d < m ∧ runF G Sh.d__law_take [.ref n, .int m] sto = .ok (.int d) sto' ∧ Pot n (k + 1) sto' ∧ ∃ c, sto' = sto.set n c := fun p p0 p1 hp => by
      generalize hM : X ^ 3 % p = M
      have M0 : 0 ≤ M := by rw [← hM]; exact Int.emod_nonneg _ (by omega)
      have M1 : M < 2 ^ 31 := by rw [← hM]; have := Int.emod_lt_of_pos (X ^ 3) p0; omega
      have n2 : Nat.log2 89 = 6 := by decide +kernel
      have h4 : 6 + (c + 1).natAbs.log2 < 1000000 := by
        have := sm (e := 65) (show 0 ≤ c + 1 by omega) cb (by decide)
        omega
      have h5 : M.natAbs.log2 + (M % 10007 + 89 * (c + 1)).natAbs.log2 < 1000000 := by
        have := sm (e := 31) M0 M1 (by decide)
        have := sm (e := 90) (show 0 ≤ M % 10007 + 89 * (c + 1) by omega) (by omega) (by decide)
        omega
      refine ⟨M * (M % 10007 + 89 * (c + 1)) % 2305843009213693921 / 101 % m, sto.set n (.lst [.int a, .int b, .int (c + 1)]), Int.emod_nonneg _ (by omega), Int.emod_lt_of_pos _ hm, ?_, ⟨flat_set hfl rfl, a, b, c + 1, by simp [hl], b0, b1, by omega, by omega⟩, _, rfl⟩
      have hs : ∀ x, (sto.set n x)[n]? = some x := fun x => by simp [hl]
      have n3 : Nat.log2 101 = 6 := by decide +kernel
      rcases hp with ⟨e, rfl⟩ | ⟨e, rfl⟩ | ⟨e, rfl⟩ | ⟨e, rfl⟩ | ⟨e, rfl⟩ <;>
        simp [runF, Sh.d__law_take, exs, ex, evB, ev, evs, rdVar, R.bind, R.opt, h, Rt.res, Rt.t, binT, addT, mulT, powT, modT, cmpT, setE, truth, atI, ixN, hm, ha, fdivT, setR, Rt.slot, hs, e, h1, h2, h4, h5, ixT, hX, h3, hM, sizeLine_eq, n1, n2, n3]
    rcases hc with e | e | e | e | e
    · exact fin 2147483647 (by decide) (by decide) (.inl ⟨e, rfl⟩)
    · exact fin 2147483629 (by decide) (by decide) (.inr (.inl ⟨e, rfl⟩))
    · exact fin 2147483587 (by decide) (by decide) (.inr (.inr (.inl ⟨e, rfl⟩)))
    · exact fin 2147483579 (by decide) (by decide) (.inr (.inr (.inr (.inl ⟨e, rfl⟩))))
    · exact fin 2147483563 (by decide) (by decide) (.inr (.inr (.inr (.inr ⟨e, rfl⟩))))
end L2.TV

set_option maxHeartbeats 1000000
/-! A calculus of outcomes: it ends well, and so. -/
namespace L2.TV
open PySem PySem.Spec PyProof.Rows
def Ok1 {α : Type} (r : R α) (P : α → S → Prop) : Prop := match r with
  | .ok a s => P a s
  | _ => False
def OkC (r : RC) (P : T → List Cell → Prop) : Prop := match r with
  | .ok t sto => P t sto
  | _ => False
section
variable {α β : Type} {G : Cfg} {s : S}
@[simp] theorem ok1_ok (a : α) (s : S) (P : α → S → Prop) : Ok1 (.ok a s) P = P a s := rfl
@[simp] theorem ok1_bad (P : α → S → Prop) : Ok1 (.bad : R α) P = False := rfl
@[simp] theorem ok1_err (c : String) (fs : List (Str × T)) (s : S) (P : α → S → Prop) : Ok1 (.err c fs s : R α) P = False := rfl
@[simp] theorem ok1_bind (r : R α) (f : α → S → R β) (P : β → S → Prop) : Ok1 (r.bind f) P = Ok1 r (fun a s => Ok1 (f a s) P) := by cases r <;> rfl
@[simp] theorem ok1_quiet (r : R α) (P : α → S → Prop) : Ok1 r.quiet P = Ok1 r P := by cases r <;> rfl
theorem ok1_opt (o : Option α) (s : S) (P : α → S → Prop) : Ok1 (R.opt o s) P = ∃ a, o = some a ∧ P a s := by
  cases o with
  | none => simp [R.opt]
  | some a => simp [R.opt]
theorem ok1_some (a : α) (s : S) (P : α → S → Prop) : Ok1 (R.opt (some a) s) P = P a s := rfl
theorem Ok1.mono {r : R α} {P P' : α → S → Prop} (h : Ok1 r P) (f : ∀ a s, P a s → P' a s) : Ok1 r P' := by
  cases r with
  | ok a s => exact f a s h
  | _ => exact h
theorem OkC.mono {r : RC} {P P' : T → List Cell → Prop} (h : OkC r P) (f : ∀ a s, P a s → P' a s) : OkC r P' := by
  cases r with
  | ok a s => exact f a s h
  | _ => exact h
theorem OkC.ok {r : RC} {P : T → List Cell → Prop} (h : OkC r P) : ∃ t sto, r = .ok t sto ∧ P t sto := by
  cases r with
  | ok a s => exact ⟨a, s, rfl, h⟩
  | _ => exact h.elim
theorem Ok1.ok {r : R α} {P : α → S → Prop} (h : Ok1 r P) : ∃ a s, r = .ok a s ∧ P a s := by
  cases r with
  | ok a s => exact ⟨a, s, rfl, h⟩
  | _ => exact h.elim
@[simp] theorem rbind_ok {α β : Type} (a : α) (s : S) (f : α → S → R β) : (R.ok a s).bind f = f a s := rfl
@[simp] theorem rbind_bad {α β : Type} (f : α → S → R β) : (R.bad : R α).bind f = .bad := rfl
@[simp] theorem ropt_some {α : Type} (a : α) (s : S) : R.opt (some a) s = .ok a s := rfl
@[simp] theorem ropt_none {α : Type} (s : S) : R.opt (none : Option α) s = .bad := rfl
@[simp] theorem res_v (t : T) (s : S) : (Rt.v t).res s = some t := rfl
@[simp] theorem res_l (t : List T) (s : S) : (Rt.l t).res s = some (.lst t) := rfl
@[simp] theorem res_k (t : List (Key × T)) (s : S) : (Rt.k t).res s = some (.dk t) := rfl
@[simp] theorem res_d (t : List (List Key × T)) (s : S) : (Rt.d t).res s = some (.dt t) := rfl
@[simp] theorem res_b (i : Nat) (s : S) : (Rt.b i).res s = match s.env[i]? with
    | some (.own xs) => some (.lst xs)
    | some (.ownK xs) => some (.dk xs)
    | some (.ownT xs) => some (.dt xs)
    | some (.val t) => some t
    | _ => none := rfl
@[simp] theorem t_v (t : T) : (Rt.v t).t = some t := rfl
@[simp] theorem t_l (t : List T) : (Rt.l t).t = some (.lst t) := rfl
@[simp] theorem t_k (t : List (Key × T)) : (Rt.k t).t = some (.dk t) := rfl
@[simp] theorem t_d (t : List (List Key × T)) : (Rt.d t).t = some (.dt t) := rfl
@[simp] theorem sl_v (t : T) : (Rt.v t).slot = some (.val t) := rfl
@[simp] theorem sl_l (t : List T) : (Rt.l t).slot = some (.own t) := rfl
@[simp] theorem sl_k (t : List (Key × T)) : (Rt.k t).slot = some (.ownK t) := rfl
@[simp] theorem sl_d (t : List (List Key × T)) : (Rt.d t).slot = some (.ownT t) := rfl
@[simp] theorem lent_v (t : T) : (Rt.v t).lent = false := rfl
@[simp] theorem lent_l (t : List T) : (Rt.l t).lent = false := rfl
@[simp] theorem lent_b (i : Nat) : (Rt.b i).lent = true := rfl
@[simp] theorem setE_eq (s : S) (i : Nat) (x : Slot) : setE s i x = { s with env := s.env.set i x } := rfl
@[simp] theorem setR_eq (i : Nat) (x : Rt) (s : S) : setR i x s = match x.slot with
  | some y => .ok .nx (setE s i y)
  | none => .bad := rfl
@[simp] theorem setRs_nil (s : S) : setRs [] [] s = .ok .nx s := rfl
@[simp] theorem setRs_cons (i : Nat) (is : List Nat) (x : Rt) (xs : List Rt) (s : S) : setRs (i :: is) (x :: xs) s = (setR i x s).bind fun _ s1 => setRs is xs s1 := rfl
@[simp] theorem rdVar_eq (i : Nat) (s : S) : rdVar i s = match s.env[i]? with
  | some (.val t) => .ok (.v t) s
  | some (.own l) => .ok (.v (.lst l)) (setE s i (.val (.lst l)))
  | some (.ownK l) => .ok (.v (.dk l)) (setE s i (.val (.dk l)))
  | some (.ownT l) => .ok (.v (.dt l)) (setE s i (.val (.dt l)))
  | _ => .bad := rfl
@[simp] theorem ownL_eq (s : S) (i : Nat) : ownL s i = match s.env[i]? with
  | some (.own _) => true
  | _ => false := rfl
@[simp] theorem boundS_eq (s : S) (i : Nat) : boundS s i = match s.env[i]? with
  | some .none => false
  | none => false
  | _ => true := rfl
@[simp] theorem tr_bl (b : Bool) : truth (.bl b) = some b := rfl
@[simp] theorem tr_int (b : Int) : truth (.int b) = some (b != 0) := rfl
@[simp] theorem szLine : sizeLine = 16777216 := sizeLine_eq
@[simp] theorem c_eq (a b : T) : cmpT .eq a b = eqB a b := rfl
@[simp] theorem c_ne (a b : T) : cmpT .ne a b = (eqB a b).map (!·) := rfl
@[simp] theorem c_lt (a b : T) : cmpT .lt a b = ltB a b := rfl
@[simp] theorem c_gt (a b : Int) : cmpT .gt (.int a) (.int b) = some (decide (b < a)) := rfl
@[simp] theorem c_le (a b : Int) : cmpT .le (.int a) (.int b) = some (decide (a ≤ b)) := rfl
@[simp] theorem c_ge (a b : Int) : cmpT .ge (.int a) (.int b) = some (decide (b ≤ a)) := rfl
@[simp] theorem c_in (a b : T) : cmpT .isin a b = inB a b := rfl
@[simp] theorem c_nin (a b : T) : cmpT .notin a b = (inB a b).map (!·) := rfl
@[simp] theorem c_is (a b : T) : cmpT .is a b = isB a b := rfl
@[simp] theorem c_isn (a b : T) : cmpT .isnot a b = (isB a b).map (!·) := rfl
@[simp] theorem lt_ii (a b : Int) : ltB (.int a) (.int b) = some (decide (a < b)) := rfl
@[simp] theorem b_add (a b : T) : binT .add a b = addT a b := rfl
@[simp] theorem b_sub (a b : T) : binT .sub a b = subT a b := rfl
@[simp] theorem b_mul (a b : T) : binT .mul a b = mulT a b := rfl
@[simp] theorem add_ii (a b : Int) : addT (.int a) (.int b) = some (.v (.int (a + b))) := rfl
@[simp] theorem sub_ii (a b : Int) : subT (.int a) (.int b) = some (.v (.int (a - b))) := rfl
@[simp] theorem f_len (t : T) : fnT .len [t] = lenT t := rfl
@[simp] theorem f_tuple (t : T) : fnT .tuple [t] = tupT t := rfl
@[simp] theorem f_list (t : T) : fnT .list [t] = lstT t := rfl
@[simp] theorem f_all (t : T) : fnT .all [t] = allT t := rfl
@[simp] theorem f_any (t : T) : fnT .any [t] = anyT t := rfl
@[simp] theorem f_repr (t : T) : fnT .repr [t] = reprT t := rfl
@[simp] theorem f_sorted (t : T) : fnT .sorted [t] = sortT t := rfl
@[simp] theorem f_sset (t : T) : fnT .sortset [t] = sortSetT t := rfl
@[simp] theorem f_min2 (t u : T) : fnT .min2 [t, u] = min2T t u := rfl
@[simp] theorem f_max2 (t u : T) : fnT .max2 [t, u] = max2T t u := rfl
@[simp] theorem f_dict (t : T) : fnT .dictK [t] = dictT t := rfl
@[simp] theorem len_tup (l : List T) : lenT (.tup l) = some (.v (.int l.length)) := rfl
@[simp] theorem len_lst (l : List T) : lenT (.lst l) = some (.v (.int l.length)) := rfl
@[simp] theorem len_scr (l : List Int) : lenT (.scr l) = some (.v (.int l.length)) := rfl
@[simp] theorem tup_lst (l : List T) : tupT (.lst l) = some (.v (.tup l)) := rfl
@[simp] theorem tup_tup (l : List T) : tupT (.tup l) = some (.v (.tup l)) := rfl
@[simp] theorem lst_lst (l : List T) : lstT (.lst l) = some (.l l) := rfl
@[simp] theorem lst_tup (l : List T) : lstT (.tup l) = some (.l l) := rfl
@[simp] theorem lo_lst (l : List T) : listOf (.lst l) = some l := rfl
@[simp] theorem lo_tup (l : List T) : listOf (.tup l) = some l := rfl
@[simp] theorem eqB_ii (a b : Int) : eqB (.int a) (.int b) = some (decide (a = b)) := by
  have e : SeqAt.shaped (.int a) = true ∧ SeqAt.shaped (.int b) = true := ⟨rfl, rfl⟩
  show (if SeqAt.shaped (.int a) = true ∧ SeqAt.shaped (.int b) = true then some (PyData.eqv (.int a) (.int b)) else none) = _
  rw [if_pos e]
  rfl
@[simp] theorem eqB_ss (a b : Str) : eqB (.str a) (.str b) = some (decide (a = b)) := rfl
/-! ### expressions -/
@[simp] theorem e_var (i : Nat) : ev G (.var i) s = rdVar i s := by simp only [ev] <;> rfl
@[simp] theorem e_peek (i : Nat) : ev G (.peek i) s = if boundS s i then .ok (.b i) s else .bad := by simp only [ev] <;> rfl
@[simp] theorem e_int (i : Int) : ev G (.int i) s = .ok (.v (.int i)) s := by simp only [ev] <;> rfl
@[simp] theorem e_str (x : String) : ev G (.str x) s = .ok (.v (.str (Str.ofString x))) s := by simp only [ev] <;> rfl
@[simp] theorem e_bl (b : Bool) : ev G (.bl b) s = .ok (.v (.bl b)) s := by simp only [ev] <;> rfl
@[simp] theorem e_non : ev G .non s = .ok (.v .non) s := by simp only [ev] <;> rfl
@[simp] theorem e_cst (x : String) : ev G (.cst x) s = match G.cst x with | some t => .ok (.v t) s | none => .bad := by simp only [ev] <;> rfl
@[simp] theorem e_bin (o : Bop) (a b : IE) : ev G (.bin o a b) s = (ev G a s).bind fun x s1 => (ev G b s1).bind fun y s2 => match x.res s2, y.res s2 with
    | some t, some u => R.opt (binT o t u) s2
    | _, _ => .bad := by simp only [ev] <;> rfl
@[simp] theorem e_cmp (o : Cop) (a b : IE) : ev G (.cmp o a b) s = (ev G a s).bind fun x s1 => (ev G b s1).bind fun y s2 => match x.res s2, y.res s2 with
    | some t, some u => R.opt ((cmpT o t u).map fun k => .v (.bl k)) s2
    | _, _ => .bad := by simp only [ev] <;> rfl
@[simp] theorem e_and (a b : IE) : ev G (.and a b) s = (ev G a s).bind fun x s1 => match x.t with
    | some t => (R.opt (truth t) s1).bind fun k s2 => if k then ev G b s2 else .ok (.v t) s2
    | none => .bad := by simp only [ev] <;> rfl
@[simp] theorem e_or (a b : IE) : ev G (.or a b) s = (ev G a s).bind fun x s1 => match x.t with
    | some t => (R.opt (truth t) s1).bind fun k s2 => if k then .ok (.v t) s2 else ev G b s2
    | none => .bad := by simp only [ev] <;> rfl
@[simp] theorem e_not (a : IE) : ev G (.not a) s = (ev G a s).bind fun x s1 => match x.res s1 with
    | some t => (R.opt (truth t) s1).bind fun k s2 => .ok (.v (.bl (!k))) s2
    | none => .bad := by simp only [ev] <;> rfl
@[simp] theorem e_ife (c a b : IE) : ev G (.ife c a b) s = (evB G c s).bind fun k s1 => if k then ev G a s1 else ev G b s1 := by simp only [ev] <;> rfl
@[simp] theorem e_tup (es : List IE) : ev G (.tup es) s = (evs G es s).bind fun ts s1 => if ts.length ≤ sizeLine then .ok (.v (.tup ts)) s1 else .bad := by simp only [ev] <;> rfl
@[simp] theorem e_lst (es : List IE) : ev G (.lst es) s = (evs G es s).bind fun ts s1 => if ts.length ≤ sizeLine then .ok (.l ts) s1 else .bad := by simp only [ev] <;> rfl
@[simp] theorem e_cel (es : List IE) : ev G (.cel es) s = (evs G es s).bind fun ts s1 => if ts.length ≤ sizeLine then .ok (.v (.ref s1.sto.length)) { s1 with sto := s1.sto ++ [.lst ts] } else .bad := by simp only [ev] <;> rfl
@[simp] theorem e_newK : ev G .newK s = .ok (.k []) s := by simp only [ev] <;> rfl
@[simp] theorem e_ix (a b : IE) : ev G (.ix a b) s = (ev G a s).bind fun x s1 => (ev G b s1).bind fun y s2 => match x.res s2, y.t with
    | some (.ref n), some (.int i) => match s2.sto[n]? with
      | some (.lst l) => R.opt ((atI l i).map .v) s2
      | _ => .bad
    | some t, some u => R.opt ((ixT t u).map .v) s2
    | _, _ => .bad := by simp only [ev] <;> rfl
@[simp] theorem e_sl (a : IE) (lo hi : Option IE) : ev G (.sl a lo hi) s = (ev G a s).bind fun x s1 => (evO G lo s1).bind fun l s2 => (evO G hi s2).bind fun h s3 => match x.res s3 with
    | some t => R.opt (slT t l h) s3
    | none => .bad := by simp only [ev] <;> rfl
theorem e_lc (elt : IE) (tg : Tg) (src : Src) (cond : Option IE) (own : List Nat) : ev G (.lc elt tg src cond own) s = (evSrc G src s).bind fun ts s1 => if (own.any fun i => (s1.env.getD i .none).isOwn) then .bad else
      (lcTurns own tg (fun s => evC G cond s) (fun s => (ev G elt s).bind fun y s' => R.opt y.t s') ts s1 []).quiet.bind fun ys s2 => .ok (.l ys) { s2 with env := backE s1.env s2.env own } := by simp only [ev] <;> rfl
theorem e_lc2 (elt : IE) (tg : Tg) (src : Src) (cond : Option IE) (tg1 : Tg) (src1 : Src) (cond1 : Option IE) (own own1 : List Nat) : ev G (.lc2 elt tg src cond tg1 src1 cond1 own own1) s = (evSrc G src s).bind fun ts s1 => if (own.any fun i => (s1.env.getD i .none).isOwn) then .bad else
      (lc2Turns own own1 tg tg1 (fun s => evC G cond s) (fun s => evSrc G src1 s) (fun s => evC G cond1 s) (fun s => (ev G elt s).bind fun y s' => R.opt y.t s') ts s1 []).quiet.bind fun ys s2 => .ok (.l ys) { s2 with env := backE s1.env s2.env own } := by simp only [ev] <;> rfl
@[simp] theorem e_fn1 (f : Fn) (a : IE) : ev G (.fn f [a]) s = (ev G a s).bind fun x s1 => match x.res s1 with
      | some t => R.opt (fnT f [t]) s1
      | none => .bad := by simp only [ev] <;> rfl
@[simp] theorem e_fn2 (f : Fn) (a b : IE) : ev G (.fn f [a, b]) s = (ev G a s).bind fun x s1 => (ev G b s1).bind fun y s2 => match x.res s2, y.res s2 with
      | some t, some u => R.opt (fnT f [t, u]) s2
      | _, _ => .bad := by simp only [ev] <;> rfl
@[simp] theorem e_pop0 (i : Nat) : ev G (.pop i none) s = if !(ownL s i) then .bad else match s.env[i]? with
      | some (.own l) => match l.getLast? with
        | some t => .ok (.v t) (setE s i (.own l.dropLast))
        | none => .bad
      | _ => .bad := by simp only [ev] <;> rfl
@[simp] theorem e_pop1 (i : Nat) (a : IE) : ev G (.pop i (some a)) s = if !(ownL s i) then .bad else (ev G a s).bind fun x s1 => match x.t, s1.env[i]? with
      | some (.int k), some (.own l) => if 0 ≤ k ∧ k < 2 ^ 63 then (match l[k.toNat]? with
        | some t => .ok (.v t) (setE s1 i (.own (l.eraseIdx k.toNat)))
        | none => .bad) else .bad
      | _, _ => .bad := by simp only [ev] <;> rfl
@[simp] theorem e_call (f : String) (es : List IE) : ev G (.call f es) s = (evL G es s).bind fun xs s1 => callR G f none xs s1 := by simp only [ev] <;> rfl
@[simp] theorem e_callK (f : String) (es : List IE) (is : List Nat) : ev G (.callK f es is) s = (evL G es s).bind fun xs s1 => callR G f (some is) xs s1 := by simp only [ev] <;> rfl
@[simp] theorem e_rng0 (l : Bool) (a : IE) : ev G (.rng l a none) s = (ev G a s).bind fun x s1 => match x.t with
      | some (.int n) => R.opt (rngT l 0 n) s1
      | _ => .bad := by simp only [ev] <;> rfl
@[simp] theorem evL_nil : evL G [] s = .ok [] s := by simp only [evL] <;> rfl
@[simp] theorem evL_cons (e : IE) (es : List IE) : evL G (e :: es) s = (ev G e s).bind fun x s1 => (evL G es s1).bind fun xs s2 => .ok (x :: xs) s2 := by simp only [evL] <;> rfl
@[simp] theorem evs_nil' : evs G [] s = .ok [] s := by simp only [evs] <;> rfl
@[simp] theorem evs_cons (e : IE) (es : List IE) : evs G (e :: es) s = (ev G e s).bind fun x s1 => match x.t with
    | some t => (evs G es s1).bind fun ts s2 => .ok (t :: ts) s2
    | none => .bad := by simp only [evs] <;> rfl
@[simp] theorem evO_none : evO G none s = .ok none s := by simp only [evO] <;> rfl
@[simp] theorem evO_some (e : IE) : evO G (some e) s = (ev G e s).bind fun x s1 => match x.t with
    | some (.int i) => .ok (some i) s1
    | _ => .bad := by simp only [evO] <;> rfl
@[simp] theorem evC_none : evC G none s = .ok true s := by simp only [evC] <;> rfl
@[simp] theorem evC_some (e : IE) : evC G (some e) s = evB G e s := by simp only [evC] <;> rfl
@[simp] theorem evB_and (a b : IE) : evB G (.and a b) s = (evB G a s).bind fun k s1 => if k then evB G b s1 else .ok false s1 := by simp only [evB] <;> rfl
@[simp] theorem evB_or (a b : IE) : evB G (.or a b) s = (evB G a s).bind fun k s1 => if k then .ok true s1 else evB G b s1 := by simp only [evB] <;> rfl
@[simp] theorem evB_not (a : IE) : evB G (.not a) s = (evB G a s).bind fun k s1 => .ok (!k) s1 := by simp only [evB] <;> rfl
@[simp] theorem evB_cmp (o : Cop) (a b : IE) : evB G (.cmp o a b) s = (ev G (.cmp o a b) s).bind fun x s1 => match x.res s1 with
    | some t => R.opt (truth t) s1
    | none => .bad := by simp only [evB] <;> rfl
@[simp] theorem evB_var (i : Nat) : evB G (.var i) s = (ev G (.var i) s).bind fun x s1 => match x.res s1 with
    | some t => R.opt (truth t) s1
    | none => .bad := by simp only [evB] <;> rfl
@[simp] theorem evB_call (f : String) (es : List IE) : evB G (.call f es) s = (ev G (.call f es) s).bind fun x s1 => match x.res s1 with
    | some t => R.opt (truth t) s1
    | none => .bad := by simp only [evB] <;> rfl
@[simp] theorem src_e' (a : IE) : evSrc G (.e a) s = (ev G a s).bind fun x s1 => match x.t with
    | some t => R.opt (listOf t) s1
    | none => .bad := by simp only [evSrc] <;> rfl
@[simp] theorem src_r1 (a : IE) : evSrc G (.range1 a) s = (ev G a s).bind fun x s1 => match x.t with
    | some (.int i) => if ok62 i then .ok (rangeL 0 i) s1 else .bad
    | _ => .bad := by simp only [evSrc] <;> rfl
@[simp] theorem src_en (a : IE) : evSrc G (.enum a) s = (ev G a s).bind fun x s1 => match x.t with
    | some t => R.opt ((listOf t).map enumL) s1
    | none => .bad := by simp only [evSrc] <;> rfl
/-! ### statements -/
@[simp] theorem x_set (i : Nat) (e : IE) : ex G (.set i e) s = (ev G e s).bind fun x s1 => setR i x s1 := by simp only [ex] <;> rfl
@[simp] theorem x_setv (i : Nat) (e : IE) : ex G (.setv i e) s = (ev G e s).bind fun x s1 => match x.t with
    | some t => .ok .nx (setE s1 i (.val t))
    | none => .bad := by simp only [ex] <;> rfl
@[simp] theorem x_par (is : List Nat) (es : List IE) : ex G (.par is es) s = (evL G es s).bind fun xs s1 => setRs is xs s1 := by simp only [ex] <;> rfl
@[simp] theorem x_mapp (i : Nat) (e : IE) : ex G (.mapp i e) s = if ownL s i then (ev G e s).bind fun x s1 => match x.t, s1.env[i]? with
      | some t, some (.own l) => if l.length < sizeLine then .ok .nx (setE s1 i (.own (l ++ [t]))) else .bad
      | _, _ => .bad
    else .bad := by simp only [ex] <;> rfl
@[simp] theorem x_mext (i : Nat) (e : IE) : ex G (.mext i e) s = if ownL s i then (ev G e s).bind fun x s1 => match x.t, s1.env[i]? with
      | some (.lst m), some (.own l) => if l.length + m.length ≤ sizeLine then .ok .nx (setE s1 i (.own (l ++ m))) else .bad
      | _, _ => .bad
    else .bad := by simp only [ex] <;> rfl
@[simp] theorem x_six (o k e : IE) : ex G (.six o k e) s = (ev G e s).bind fun y s1 => match y.t with
    | none => .bad
    | some t => (ev G o s1).bind fun x s2 => (ev G k s2).bind fun z s3 => match z.t with
      | none => .bad
      | some u => match x with
        | .b i => match s3.env[i]? with
          | some (.own l) => match u with
            | .int j => match ixN l.length j with
              | some n => .ok .nx (setE s3 i (.own (l.set n t)))
              | none => .bad
            | _ => .bad
          | some (.ownK l) => match keyT u with
            | some kk => if l.length < sizeLine then .ok .nx (setE s3 i (.ownK (putT l kk t))) else .bad
            | none => .bad
          | _ => .bad
        | .v (.ref n) => match s3.sto[n]? with
          | some (.lst l) => match u with
            | .int j => match ixN l.length j with
              | some m => .ok .nx { s3 with sto := s3.sto.set n (.lst (l.set m t)) }
              | none => .bad
            | _ => .bad
          | _ => .bad
        | _ => .bad := by simp only [ex] <;> rfl
@[simp] theorem x_tg (g : Tg) (e : IE) : ex G (.tg g e) s = (ev G e s).bind fun x s1 => match x.t with
    | some t => match bindTg g t s1.env with
      | some env => .ok .nx { s1 with env := env }
      | none => .bad
    | none => .bad := by simp only [ex] <;> rfl
@[simp] theorem x_mrem (i : Nat) (e : IE) : ex G (.mrem i e) s = if ownL s i then (ev G e s).bind fun x s1 => match x.t, s1.env[i]? with
      | some t, some (.own l) => match remT t l with
        | some m => .ok .nx (setE s1 i (.own m))
        | none => .bad
      | _, _ => .bad
    else .bad := by simp only [ex] <;> rfl
@[simp] theorem x_expr (e : IE) : ex G (.expr e) s = (ev G e s).bind fun _ s1 => .ok .nx s1 := by simp only [ex] <;> rfl
@[simp] theorem x_ret (e : IE) : ex G (.ret e) s = (ev G e s).bind fun x s1 => match x.t with
    | some t => .ok (.ret t) s1
    | none => .bad := by simp only [ex] <;> rfl
@[simp] theorem x_ite (c : IE) (a b : List IS) : ex G (.ite c a b) s = (evB G c s).bind fun k s1 => if k then exs G a s1 else exs G b s1 := by simp only [ex] <;> rfl
theorem x_for (g : Tg) (src : Src) (body : List IS) : ex G (.for_ g src body) s = (evSrc G src s).bind fun ts s1 => forT (fun s => exs G body s) g ts s1 := by simp only [ex] <;> rfl
theorem x_whl (c : IE) (body : List IS) : ex G (.whl c body) s = whlT (fun s => evB G c s) (fun s => exs G body s) G.fuel s := by simp only [ex] <;> rfl
@[simp] theorem xs_nil : exs G [] s = .ok .nx s := by simp only [exs] <;> rfl
theorem xs_cons (a : IS) (b : List IS) : exs G (a :: b) s = (ex G a s).bind fun fl s1 => match fl with
    | .nx => exs G b s1
    | _ => .ok fl s1 := by simp only [exs] <;> rfl
/-- .. in a row -/
theorem Ok1.seq {a : IS} {b : List IS} {P : Fl → S → Prop} (h : Ok1 (ex G a s) fun fl s1 => match fl with
    | .nx => Ok1 (exs G b s1) P
    | fl => P fl s1) : Ok1 (exs G (a :: b) s) P := by
  rw [xs_cons, ok1_bind]
  refine h.mono fun fl s1 q => ?_
  cases fl <;> exact q
/-! ### loops -/
theorem Ok1.for_ {own : S → R Fl} {g : Tg} {P : Fl → S → Prop} (I : Nat → S → Prop) : ∀ {ts : List T} {j : Nat} {s : S}, I j s →
    (∀ i t s, ts[i]? = some t → I (j + i) s → ∃ env, bindTg g t s.env = some env ∧ Ok1 (own { s with env := env }) fun fl s' => match fl with
      | .nx => I (j + i + 1) s'
      | .ct => I (j + i + 1) s'
      | .bk => P .nx s'
      | .ret t => P (.ret t) s') → (∀ s, I (j + ts.length) s → P .nx s) → Ok1 (forT own g ts s) P
  | [], j, s, h0, _, fin => fin s (by simpa using h0)
  | t :: ts, j, s, h0, step, fin => by
    obtain ⟨env, e1, e2⟩ := step 0 t s rfl (by simpa using h0)
    unfold forT
    rw [e1]
    dsimp only
    rw [ok1_bind]
    refine e2.mono fun fl s' q => ?_
    have nx : I (j + 0 + 1) s' → Ok1 (forT own g ts s') P := fun q => Ok1.for_ I (j := j + 1) (by simpa using q) (fun i t s a b => by
      have := step (i + 1) t s (by simpa using a) (by rw [show j + (i + 1) = j + 1 + i by omega]; exact b)
      rw [show j + (i + 1) = j + 1 + i by omega] at this
      exact this) (fun s q => fin s (by rw [List.length_cons, show j + (ts.length + 1) = j + 1 + ts.length by omega]; exact q))
    cases fl with
    | nx => exact nx q
    | ct => exact nx q
    | bk => exact q
    | ret t => exact q
theorem Ok1.turns {own : List Nat} {tg : Tg} {cond : S → R Bool} {elt : S → R T} {P : List T → S → Prop} (I : Nat → S → List T → Prop) : ∀ {ts : List T} {j : Nat} {s : S} {acc : List T}, I j s acc →
    (∀ i t s acc, ts[i]? = some t → I (j + i) s acc → ∃ env, bindTg tg t (wipeE s.env own) = some env ∧ Ok1 (cond { s with env := env }) fun k s1 => (k = true → Ok1 (elt s1) fun y s2 => acc.length < sizeLine ∧ I (j + i + 1) s2 (acc ++ [y])) ∧ (k = false → I (j + i + 1) s1 acc)) →
    (∀ s acc, I (j + ts.length) s acc → P acc s) → Ok1 (lcTurns own tg cond elt ts s acc) P
  | [], j, s, acc, h0, _, fin => fin s acc (by simpa using h0)
  | t :: ts, j, s, acc, h0, step, fin => by
    obtain ⟨env, e1, e2⟩ := step 0 t s acc rfl (by simpa using h0)
    unfold lcTurns
    rw [e1]
    dsimp only
    rw [ok1_bind]
    refine e2.mono fun k s1 ⟨q1, q2⟩ => ?_
    have nx : ∀ {s' acc'}, I (j + 0 + 1) s' acc' → Ok1 (lcTurns own tg cond elt ts s' acc') P := fun q => Ok1.turns I (j := j + 1) (by simpa using q) (fun i t s acc a b => by
      have := step (i + 1) t s acc (by simpa using a) (by rw [show j + (i + 1) = j + 1 + i by omega]; exact b)
      rw [show j + (i + 1) = j + 1 + i by omega] at this
      exact this) (fun s acc q => fin s acc (by rw [List.length_cons, show j + (ts.length + 1) = j + 1 + ts.length by omega]; exact q))
    cases k with
    | true =>
      simp only [if_true, ok1_bind]
      refine (q1 rfl).mono fun y s2 ⟨z1, z2⟩ => ?_
      rw [if_pos z1]
      exact nx z2
    | false =>
      simp only [Bool.false_eq_true, if_false]
      exact nx (q2 rfl)
theorem Ok1.turns2 {own own1 : List Nat} {tg tg1 : Tg} {cond cond1 : S → R Bool} {src1 : S → R (List T)} {elt : S → R T} {P : List T → S → Prop} (I : Nat → S → List T → Prop) : ∀ {ts : List T} {j : Nat} {s : S} {acc : List T}, I j s acc →
    (∀ i t s acc, ts[i]? = some t → I (j + i) s acc → ∃ env, bindTg tg t (wipeE s.env own) = some env ∧ Ok1 (cond { s with env := env }) fun k s1 => (k = true → Ok1 (src1 s1) fun us s2 => Ok1 (lcTurns own1 tg1 cond1 elt us s2 acc) fun acc' s3 => I (j + i + 1) s3 acc') ∧ (k = false → I (j + i + 1) s1 acc)) →
    (∀ s acc, I (j + ts.length) s acc → P acc s) → Ok1 (lc2Turns own own1 tg tg1 cond src1 cond1 elt ts s acc) P
  | [], j, s, acc, h0, _, fin => fin s acc (by simpa using h0)
  | t :: ts, j, s, acc, h0, step, fin => by
    obtain ⟨env, e1, e2⟩ := step 0 t s acc rfl (by simpa using h0)
    unfold lc2Turns
    rw [e1]
    dsimp only
    rw [ok1_bind]
    refine e2.mono fun k s1 ⟨q1, q2⟩ => ?_
    have nx : ∀ {s' acc'}, I (j + 0 + 1) s' acc' → Ok1 (lc2Turns own own1 tg tg1 cond src1 cond1 elt ts s' acc') P := fun q => Ok1.turns2 I (j := j + 1) (by simpa using q) (fun i t s acc a b => by
      have := step (i + 1) t s acc (by simpa using a) (by rw [show j + (i + 1) = j + 1 + i by omega]; exact b)
      rw [show j + (i + 1) = j + 1 + i by omega] at this
      exact this) (fun s acc q => fin s acc (by rw [List.length_cons, show j + (ts.length + 1) = j + 1 + ts.length by omega]; exact q))
    cases k with
    | true =>
      simp only [if_true, ok1_bind]
      exact (q1 rfl).mono fun us s2 q => q.mono fun acc' s3 q => nx q
    | false =>
      simp only [Bool.false_eq_true, if_false]
      exact nx (q2 rfl)
theorem Ok1.whl {c : S → R Bool} {body : S → R Fl} {P : Fl → S → Prop} (I : Nat → S → Prop) (step : ∀ m s, I m s → Ok1 (c s) fun k s1 => (k = true → Ok1 (body s1) fun fl s2 => match fl with
      | .nx => ∃ m', m' < m ∧ I m' s2
      | .ct => ∃ m', m' < m ∧ I m' s2
      | .bk => P .nx s2
      | .ret t => P (.ret t) s2) ∧ (k = false → P .nx s1)) : ∀ {n m : Nat} {s : S}, m < n → I m s → Ok1 (whlT c body n s) P
  | 0, m, s, h, _ => by omega
  | n + 1, m, s, h, h0 => by
    unfold whlT
    rw [ok1_bind]
    refine (step m s h0).mono fun k s1 ⟨q1, q2⟩ => ?_
    cases k with
    | true =>
      simp only [if_true, ok1_bind]
      refine (q1 rfl).mono fun fl s2 q => ?_
      cases fl with
      | nx => obtain ⟨m', lt, q⟩ := q; exact Ok1.whl I step (by omega) q
      | ct => obtain ⟨m', lt, q⟩ := q; exact Ok1.whl I step (by omega) q
      | bk => exact q
      | ret t => exact q
    | false =>
      simp only [Bool.false_eq_true, if_false]
      exact q2 rfl
/-! ### calls -/
theorem runF_ok {d : FD} {ts : List T} {sto : List Cell} {P : T → List Cell → Prop} (h1 : ts.length = d.params.length) (h2 : d.params.length ≤ d.slots)
    (h : Ok1 (exs G d.body ⟨ts.map .val ++ List.replicate (d.slots - ts.length) .none, sto⟩) fun fl s => match fl with
      | .nx => P .non s.sto
      | .ret t => P t s.sto
      | _ => False) : OkC (runF G d ts sto) P := by
  unfold runF
  rw [if_pos ⟨h1, h2⟩]
  cases e : exs G d.body ⟨ts.map .val ++ List.replicate (d.slots - ts.length) .none, sto⟩ with
  | ok fl s => rw [e] at h; cases fl <;> exact h
  | err c fs s => rw [e] at h; exact h
  | bad => rw [e] at h; exact h
theorem runF_ok' {d : FD} {ts : List T} {sto : List Cell} {P : T → List Cell → Prop} {env : List Slot} (h1 : ts.length = d.params.length) (h2 : d.params.length ≤ d.slots) (he : ts.map .val ++ List.replicate (d.slots - ts.length) .none = env)
    (h : Ok1 (exs G d.body ⟨env, sto⟩) fun fl s => match fl with
      | .nx => P .non s.sto
      | .ret t => P t s.sto
      | _ => False) : OkC (runF G d ts sto) P := runF_ok h1 h2 (by rw [he]; exact h)
/-- f stands in G as the def d, which runs in G' -/
structure HasD (G : Cfg) (f : String) (d : FD) (G' : Cfg) : Prop where
  pm : G.params f = some d.params
  cl : G.call f = runF G' d
theorem call_ok {f : String} {d : FD} {G' : Cfg} {xs : List Rt} {ts : List T} {P : Rt → S → Prop} (H : HasD G f d G') (hr : resL s xs = some ts) (hl : ts.length = d.params.length)
    (h : OkC (runF G' d ts s.sto) fun t sto => (xs.any Rt.lent = true → (t.flat && sto.all Cell.flat) = true) ∧ P (.v t) { s with sto := sto }) : Ok1 (callR G f none xs s) P := by
  unfold callR
  rw [hr, H.pm, H.cl]
  dsimp only
  rw [if_pos (by exact hl)]
  dsimp only [pickO]
  cases e : runF G' d ts s.sto with
  | ok t sto =>
    rw [e] at h
    obtain ⟨h1, h2⟩ := h
    unfold backR
    by_cases hx : xs.any Rt.lent = true
    · simp [hx, h1 hx]; exact h2
    · simp [hx]; exact h2
  | err c fs sto => rw [e] at h; exact h.elim
  | bad => rw [e] at h; exact h.elim
theorem callK_ok {f : String} {d : FD} {G' : Cfg} {is : List Nat} {xs : List Rt} {ts : List T} {P : Rt → S → Prop} (H : HasD G f d G') (hr : resL s xs = some ts) (hl : (pick is ts).length = d.params.length)
    (h : OkC (runF G' d (pick is ts) s.sto) fun t sto => (xs.any Rt.lent = true → (t.flat && sto.all Cell.flat) = true) ∧ P (.v t) { s with sto := sto }) : Ok1 (callR G f (some is) xs s) P := by
  unfold callR
  rw [hr, H.pm, H.cl]
  dsimp only
  rw [if_pos (by exact hl)]
  dsimp only [pickO]
  cases e : runF G' d (pick is ts) s.sto with
  | ok t sto =>
    rw [e] at h
    obtain ⟨h1, h2⟩ := h
    unfold backR
    by_cases hx : xs.any Rt.lent = true
    · simp [hx, h1 hx]; exact h2
    · simp [hx]; exact h2
  | err c fs sto => rw [e] at h; exact h.elim
  | bad => rw [e] at h; exact h.elim
end
/-! ### blocks -/
theorem back_same {e0 e : List Slot} {own : List Nat} (h : wipeE e own = wipeE e0 own) : backE e0 e own = e0 := by
  apply List.ext_getElem?
  intro i
  have hl : e.length = e0.length := by
    have := congrArg List.length h
    rwa [wipeE_len, wipeE_len] at this
  rw [backE_get]
  by_cases hi : i ∈ own
  · rw [if_pos hi]
    by_cases hlt : i < e.length
    · rw [if_pos hlt, List.getD_eq_getElem?_getD, List.getElem?_eq_getElem (by omega)]; rfl
    · rw [if_neg hlt, List.getElem?_eq_none (by omega)]
  · rw [if_neg hi]
    have := congrArg (fun l => l[i]?) h
    simp only [wipeE_get, if_neg hi] at this
    exact this
/-- a block that changes nothing: each item that is let through, changed by f -/
theorem lc_pure {G : Cfg} {elt : IE} {tg : Tg} {src : Src} {cond : Option IE} {own : List Nat} {s s1 : S} {ts : List T} {P : Rt → S → Prop} (p : T → Bool) (f : T → T) (hs : evSrc G src s = .ok ts s1) (hno : (own.any fun i => (s1.env.getD i .none).isOwn) = false)
    (turn : ∀ t ∈ ts, ∀ e, wipeE e own = wipeE s1.env own → ∃ env, bindTg tg t (wipeE e own) = some env ∧ Ok1 (evC G cond ⟨env, s1.sto⟩) fun k s2 => k = p t ∧ s2.sto = s1.sto ∧ wipeE s2.env own = wipeE s1.env own ∧ (k = true → Ok1 (ev G elt s2) fun y s3 => y.t = some (f t) ∧ s3.sto = s1.sto ∧ wipeE s3.env own = wipeE s1.env own))
    (hz : ts.length < sizeLine) (q : P (.l ((ts.filter p).map f)) s1) : Ok1 (ev G (.lc elt tg src cond own) s) P := by
  rw [e_lc, hs]
  simp only [ok1_bind, ok1_ok]
  rw [hno]
  simp only [Bool.false_eq_true, if_false, ok1_bind, ok1_quiet, ok1_ok]
  refine Ok1.turns (j := 0) (fun i s acc => s.sto = s1.sto ∧ wipeE s.env own = wipeE s1.env own ∧ acc = ((ts.take i).filter p).map f) ⟨rfl, rfl, by simp⟩ (fun i t s acc ht hI => ?_) fun s acc hI => ?_
  · obtain ⟨h1, h2, h3⟩ := hI
    simp only [Nat.zero_add] at h3 ⊢
    obtain ⟨env, b1, b2⟩ := turn t (List.mem_of_getElem? ht) s.env h2
    refine ⟨env, b1, ?_⟩
    rw [h1]
    have tk : ts.take (i + 1) = ts.take i ++ [t] := by rw [List.take_succ, ht]; rfl
    have hil : i < ts.length := (List.getElem?_eq_some_iff.mp ht).1
    have al : acc.length < sizeLine := by
      rw [h3, List.length_map]
      have := List.length_filter_le p (ts.take i)
      have := List.length_take_le i ts
      omega
    refine b2.mono fun k s2 ⟨c1, c2, c3, c4⟩ => ⟨fun hk => ?_, fun hk => ?_⟩
    · rw [ok1_bind]
      refine (c4 hk).mono fun y s3 ⟨d1, d2, d3⟩ => ?_
      rw [d1, ok1_some]
      refine ⟨al, d2, d3, ?_⟩
      have hp : p t = true := by rw [← c1]; exact hk
      rw [tk, List.filter_append, List.map_append, h3]
      simp [hp]
    · have hp : p t = false := by rw [← c1]; exact hk
      refine ⟨c2, c3, ?_⟩
      rw [tk, List.filter_append, List.map_append, h3]
      simp [hp]
  · obtain ⟨h1, h2, h3⟩ := hI
    rw [Nat.zero_add, List.take_length] at h3
    rw [back_same h2, h1, h3]
    exact q
end L2.TV

set_option maxHeartbeats 1000000
/-! The draws of the laws. -/
namespace L2.TV
open PySem PySem.Spec PyProof.Rows
theorem take_C {G : Cfg} {n k : Nat} {m : Int} {sto : List Cell} {P : T → List Cell → Prop} (hp : Pot n k sto) (hk : k < 2 ^ 64) (hm : 0 < m) (hm2 : m < 2 ^ 64) (q : ∀ d sto', 0 ≤ d → d < m → Pot n (k + 1) sto' → P (.int d) sto') : OkC (runF G Sh.d__law_take [.ref n, .int m] sto) P := by
  obtain ⟨d, sto', d0, d1, e, p, _⟩ := take_ok G hp hk hm hm2
  rw [e]
  exact q d sto' d0 d1 p
theorem take_call {G G' : Cfg} {n k : Nat} {m : Int} {s : S} {P : Rt → S → Prop} (H : HasD G "_law_take" Sh.d__law_take G') (hp : Pot n k s.sto) (hk : k < 2 ^ 64) (hm : 0 < m) (hm2 : m < 2 ^ 64) (q : ∀ d sto', 0 ≤ d → d < m → Pot n (k + 1) sto' → P (.v (.int d)) ⟨s.env, sto'⟩) :
    Ok1 (callR G "_law_take" none [.v (.ref n), .v (.int m)] s) P :=
  call_ok H (ts := [.ref n, .int m]) rfl rfl (take_C hp hk hm hm2 fun d sto' d0 d1 p => ⟨fun z => by simp [Rt.lent] at z, q d sto' d0 d1 p⟩)
theorem atI_some {α : Type} {l : List α} {d : Int} (h0 : 0 ≤ d) (h1 : d < l.length) : ∃ t, t ∈ l ∧ atI l d = some t ∧ l[d.toNat]? = some t := by
  have h2 : d.toNat < l.length := by omega
  refine ⟨l[d.toNat], List.getElem_mem h2, ?_, List.getElem?_eq_getElem h2⟩
  unfold atI ixN
  rw [if_pos h0, if_pos h1]
  simp [List.getElem?_eq_getElem h2]
theorem of_C {G G' : Cfg} {n k : Nat} {t : T} {l : List T} {sto : List Cell} {P : T → List Cell → Prop} (H : HasD G "_law_take" Sh.d__law_take G') (hp : Pot n k sto) (hk : k < 2 ^ 64) (hl : t = .lst l ∨ t = .tup l) (hne : l ≠ []) (hz : l.length < 2 ^ 64) (q : ∀ x sto', x ∈ l → Pot n (k + 1) sto' → P x sto') :
    OkC (runF G Sh.d__law_of [.ref n, t] sto) P := by
  have pos : 0 < l.length := List.length_pos_iff.mpr hne
  refine runF_ok rfl (by decide) ?_
  refine Ok1.seq ?_
  have core : Ok1 (callR G "_law_take" none [.v (.ref n), .v (.int l.length)] ⟨[.val (.ref n), .val t], sto⟩) fun x s1 => s1.env = [.val (.ref n), .val t] ∧ Pot n (k + 1) s1.sto ∧ ∃ d, x = .v (.int d) ∧ 0 ≤ d ∧ d < l.length :=
    take_call H hp hk (by omega) (by omega) fun d sto' d0 d1 p => ⟨rfl, p, d, rfl, d0, d1⟩
  have hlen : lenT t = some (.v (.int l.length)) := by rcases hl with rfl | rfl <;> rfl
  have hix : ∀ d x, atI l d = some x → ixT t (.int d) = some x := fun d x e => by rcases hl with rfl | rfl <;> simpa [ixT] using e
  have hnr : ∀ m, t ≠ .ref m := fun m e => by rcases hl with rfl | rfl <;> cases e
  simp [Sh.d__law_of, rdVar, Rt.res, Rt.t, fnT, hlen]
  refine core.mono fun x s1 ⟨e1, p, d, ex, d0, d1⟩ => ?_
  subst ex
  obtain ⟨y, hy, e2, _⟩ := atI_some d0 d1
  obtain ⟨env, sto1⟩ := s1
  simp only at e1 p
  subst e1
  have e3 := hix d y e2
  rcases hl with rfl | rfl <;> simp [Rt.t, e3] <;> exact q y sto1 hy p
theorem of_call {G G1 G2 : Cfg} {n k : Nat} {x : Rt} {t : T} {l : List T} {s : S} {P : Rt → S → Prop} (H : HasD G "_law_of" Sh.d__law_of G1) (H1 : HasD G1 "_law_take" Sh.d__law_take G2) (hp : Pot n k s.sto) (hk : k < 2 ^ 64) (hx : x.res s = some t) (hl : t = .lst l ∨ t = .tup l) (hne : l ≠ []) (hz : l.length < 2 ^ 64)
    (fl : x.lent = true → ∀ y ∈ l, y.flat = true) (q : ∀ y sto', y ∈ l → Pot n (k + 1) sto' → P (.v y) ⟨s.env, sto'⟩) : Ok1 (callR G "_law_of" none [.v (.ref n), x] s) P := by
  refine call_ok H (ts := [.ref n, t]) (by simp only [resL, hx]; rfl) rfl (of_C H1 hp hk hl hne hz fun y sto' hy p => ⟨fun z => ?_, q y sto' hy p⟩)
  have : x.lent = true := by simpa [Rt.lent] using z
  rw [fl this y hy, p.1]
  rfl
theorem pot_C {G : Cfg} {ns : List Int} {k : Nat} {sto : List Cell} {P : T → List Cell → Prop} (hk : k < 64) (hf : sto.all Cell.flat = true) (q : ∀ sto', Pot sto.length 0 sto' → P (.ref sto.length) sto') : OkC (runF G Sh.d__law_pot [.scr ns, .int k] sto) P := by
  obtain ⟨cell, hc⟩ : ∃ cell : Int, cell = if (k : Int) < ns.length then ns.getD k 0 else 17 * k + 5 := ⟨_, rfl⟩
  have sm : ∀ {i : Int} {e : Nat}, 0 ≤ i → i < 2 ^ e → 0 < e → i.natAbs.log2 < e := fun h0 h1 h2 => log2_lt (natAbs_lt h0 h1) h2
  have p1 : (10 : Int) ^ 60 = 1000000000000000000000000000000000000000000000000000000000000 := by decide +kernel
  refine runF_ok rfl (by decide) ?_
  refine Ok1.seq ?_
  have nk : Nat.log2 17 = 4 := by decide +kernel
  have kl : (k : Int).natAbs.log2 < 6 := sm (by omega) (by omega) (by decide)
  have c1 : 4 + (k : Int).natAbs.log2 < 1000000 := by omega
  have ex1 : Ok1 (ex G (.setv 2 (.ife (.cmp .lt (.var 1) (.fn .len [.var 0])) (.ix (.var 0) (.var 1)) (.bin .add (.bin .mul (.int 17) (.var 1)) (.int 5)))) ⟨[.val (.scr ns), .val (.int k), .none, .none], sto⟩) fun fl s1 => fl = .nx ∧ s1 = ⟨[.val (.scr ns), .val (.int k), .val (.int cell), .none], sto⟩ := by
    by_cases hlt : (k : Int) < ns.length
    · have e : atI ns (k : Int) = some (ns.getD k 0) := by
        have : k < ns.length := by omega
        unfold atI ixN
        simp [hlt, List.getElem?_eq_getElem this]
      have e2 : cell = ns.getD k 0 := by rw [hc, if_pos hlt]
      have hlt' : k < ns.length := by omega
      simp [rdVar, Rt.res, Rt.t, fnT, lenT, cmpT, ltB, truth, hlt, hlt', ixT, e, setE, e2]
    · have e2 : cell = 17 * k + 5 := by rw [hc, if_neg hlt]
      have hlt' : ¬ k < ns.length := by omega
      have c1' : 4 + k.log2 < 1000000 := by simpa using c1
      simp [rdVar, Rt.res, Rt.t, fnT, lenT, cmpT, ltB, truth, hlt, hlt', binT, mulT, addT, nk, c1', setE, e2]
  refine ex1.mono fun fl s1 ⟨e1, e2⟩ => ?_
  subst e1 e2
  dsimp only
  clear ex1 c1
  refine Ok1.seq ?_
  obtain ⟨ab, hab⟩ : ∃ ab : Int, ab = if cell < 0 then -cell else cell := ⟨_, rfl⟩
  have a0 : 0 ≤ ab := by rw [hab]; split <;> omega
  obtain ⟨BIG, hB⟩ : ∃ BIG : Int, BIG = (10 ^ 60) ^ 5 := ⟨_, rfl⟩
  have B0 : 0 < BIG := by rw [hB]; decide +kernel
  have B1 : BIG < 2 ^ 1000 := by rw [hB]; decide +kernel
  have b1 : ((Builtin.Int.intBits 10 : Nat) : Int) * 60 ≤ 2 ^ 27 := by decide +kernel
  have b2 : ((Builtin.Int.intBits (10 ^ 60) : Nat) : Int) * 5 ≤ 2 ^ 27 := by decide +kernel
  have b3 : ((Builtin.Int.intBits 10 : Nat) : Int) * 18 ≤ 2 ^ 27 := by decide +kernel
  obtain ⟨own, hown⟩ : ∃ own : Int, own = ab % BIG * (if 10 ^ 18 ≤ ab then 1 else 0) := ⟨_, rfl⟩
  have m1 : (ab % BIG).natAbs.log2 + (if (10 : Int) ^ 18 ≤ ab then (1 : Int) else 0).natAbs.log2 < 1000000 := by
    have h1 := sm (e := 1000) (Int.emod_nonneg ab (by omega)) (Int.lt_trans (Int.emod_lt_of_pos ab B0) B1) (by decide)
    have h2 : (if (10 : Int) ^ 18 ≤ ab then (1 : Int) else 0).natAbs.log2 = 0 := by split <;> decide +kernel
    omega
  have ex2 : Ok1 (ex G (.setv 3 (.bin .mul (.bin .mod (.fn .abs [.var 2]) (.bin .pow (.bin .pow (.int 10) (.int 60)) (.int 5))) (.fn .int [.cmp .ge (.fn .abs [.var 2]) (.bin .pow (.int 10) (.int 18))]))) ⟨[.val (.scr ns), .val (.int k), .val (.int cell), .none], sto⟩) fun fl s1 => fl = .nx ∧ s1 = ⟨[.val (.scr ns), .val (.int k), .val (.int cell), .val (.int own)], sto⟩ := by
    have q1 : powT (.int 10) (.int 60) = some (.v (.int (10 ^ 60))) := by simp only [powT]; rw [if_pos ⟨by decide, b1⟩]; rfl
    have q2 : powT (.int (10 ^ 60)) (.int 5) = some (.v (.int BIG)) := by simp only [powT]; rw [if_pos ⟨by decide, b2⟩, hB]; rfl
    have q3 : powT (.int 10) (.int 18) = some (.v (.int (10 ^ 18))) := by simp only [powT]; rw [if_pos ⟨by decide, b3⟩]; rfl
    have q4 : absT (.int cell) = some (.v (.int ab)) := by simp only [absT]; rw [hab]
    have q5 : modT (.int ab) (.int BIG) = some (.v (.int (ab % BIG))) := by simp only [modT]; rw [if_pos B0]
    have q6 : mulT (.int (ab % BIG)) (.int (if 10 ^ 18 ≤ ab then 1 else 0)) = some (.v (.int own)) := by simp only [mulT]; rw [if_pos m1, hown]
    have q7 : intT (.bl (decide ((10 : Int) ^ 18 ≤ ab))) = some (.v (.int (if (10 : Int) ^ 18 ≤ ab then 1 else 0))) := by simp [intT]
    simp only [x_setv, e_bin, e_fn1, e_var, e_int, e_cmp, rdVar, List.getElem?_cons_succ, List.getElem?_cons_zero, R.bind, Rt.res, fnT, q4, R.opt, binT, q1, q2, q3, q5, cmpT, Option.map_some, q7, q6, Rt.t, ok1_ok, setE, List.set_cons_succ, List.set_cons_zero, and_self]
  refine ex2.mono fun fl s1 ⟨e1, e2⟩ => ?_
  subst e1 e2
  dsimp only
  clear ex2
  refine Ok1.seq ?_
  obtain ⟨y, hy⟩ : ∃ y : Int, y = (cell % 2305843009213693951 * 48271 + 6907 * k * k + 23) % 2305843009213693907 := ⟨_, rfl⟩
  have y0 : 0 ≤ y := by rw [hy]; exact Int.emod_nonneg _ (by decide)
  have y1 : y < 2 ^ 100 := by rw [hy]; have := Int.emod_lt_of_pos (cell % 2305843009213693951 * 48271 + 6907 * k * k + 23) (show (0 : Int) < 2305843009213693907 by decide); omega
  have n0 := Int.emod_nonneg cell (show (2305843009213693951 : Int) ≠ 0 by decide)
  have n1 := Int.emod_lt_of_pos cell (show (0 : Int) < 2305843009213693951 by decide)
  have k1 : Nat.log2 48271 = 15 := by decide +kernel
  have k2 : Nat.log2 6907 = 12 := by decide +kernel
  have w1 : mulT (.int (cell % 2305843009213693951)) (.int 48271) = some (.v (.int (cell % 2305843009213693951 * 48271))) := by
    simp only [mulT]
    rw [if_pos (by have := sm (e := 61) n0 (by omega) (by decide); simp only [show (48271 : Int).natAbs = 48271 from rfl, k1]; omega)]
  have w2 : mulT (.int 6907) (.int k) = some (.v (.int (6907 * k))) := by
    simp only [mulT]
    rw [if_pos (by simp only [show (6907 : Int).natAbs = 6907 from rfl, k2]; omega)]
  have w3 : mulT (.int (6907 * k)) (.int k) = some (.v (.int (6907 * k * k))) := by
    simp only [mulT]
    rw [if_pos (by have := sm (e := 40) (show 0 ≤ 6907 * (k : Int) by omega) (by omega) (by decide); omega)]
  have w4 : modT (.int cell) (.int 2305843009213693951) = some (.v (.int (cell % 2305843009213693951))) := rfl
  have w5 : modT (.int (cell % 2305843009213693951 * 48271 + 6907 * k * k + 23)) (.int 2305843009213693907) = some (.v (.int y)) := by rw [hy]; rfl
  have hz : ([T.int own, T.int y, T.int 0] : List T).length ≤ sizeLine := by simp [sizeLine_eq]
  simp only [x_ret, e_cel, evs_cons, evs_nil', e_bin, e_var, e_int, rdVar, List.getElem?_cons_succ, List.getElem?_cons_zero, R.bind, Rt.res, Rt.t, R.opt, binT, w1, w2, w3, w4, w5, addT, hz, if_true, ok1_ok]
  refine q _ ⟨?_, own, y, 0, ?_, y0, y1, Int.le_refl _, Int.le_refl _⟩
  · rw [List.all_append, hf]; rfl
  · simp
/-- the whole law -/
theorem law_C {G G1 G2 : Cfg} {dr : FD} {m : Int} {ns : List Int} (hm : 1 ≤ m) (hm2 : m ≤ 60) (HR : HasD G "_law_right" dr G1) (HP : HasD G "_law_pot" Sh.d__law_pot G2) (hr : dr.params.length = 1) (hns : ns.length ≤ 63)
    (right : ∀ n sto, Pot n 0 sto → OkC (runF G1 dr [.ref n] sto) fun t sto' => t = .bl true ∧ sto'.all Cell.flat = true) : OkC (runF G (Sh.d_law m) [.scr ns] []) fun t _ => t = .bl true := by
  refine runF_ok rfl (by show 1 ≤ 2; decide) ?_
  obtain ⟨c, hc⟩ : ∃ c : Nat, (c : Int) = max 1 (min m ns.length) := ⟨(max 1 (min m ns.length)).toNat, by omega⟩
  have cb : c ≤ 60 := by omega
  refine Ok1.seq ?_
  rw [x_for]
  have hmm : min2T (.int m) (.int ns.length) = some (.v (.int (min m ns.length))) := by
    simp only [min2T, Option.some.injEq, Rt.v.injEq, T.int.injEq]; omega
  have hmx : max2T (.int 1) (.int (min m ns.length)) = some (.v (.int c)) := by
    simp only [max2T, Option.some.injEq, Rt.v.injEq, T.int.injEq]; omega
  have h62 : ok62 (c : Int) = true := by unfold ok62; simp; omega
  have es : evSrc G (.range1 (.fn .max2 [.int 1, .fn .min2 [.int m, .fn .len [.var 0]]])) ⟨[.val (.scr ns), .none], []⟩ = .ok (rangeL 0 c) ⟨[.val (.scr ns), .none], []⟩ := by
    simp only [src_r1, e_fn2, e_fn1, e_var, e_int, rdVar, List.getElem?_cons_zero, R.bind, Rt.res, Rt.t, fnT, lenT, R.opt, hmm, hmx, h62, if_true]
  rw [show ([T.scr ns].map Slot.val ++ List.replicate ((Sh.d_law m).slots - [T.scr ns].length) Slot.none) = [.val (.scr ns), .none] from rfl, es]
  simp only [R.bind]
  refine Ok1.for_ (j := 0) (fun i s => ∃ x, s.env = [.val (.scr ns), x] ∧ s.sto.all Cell.flat = true) ⟨.none, rfl, rfl⟩ (fun i t s ht ⟨x, e1, e2⟩ => ?_) fun s ⟨x, e1, e2⟩ => ?_
  · obtain ⟨k, hk, rfl⟩ : ∃ k : Nat, k < 64 ∧ t = .int k := by
      have hm' := List.mem_of_getElem? ht
      unfold rangeL at hm'
      obtain ⟨k, hk, rfl⟩ := List.mem_map.mp hm'
      rw [List.mem_range] at hk
      exact ⟨k, by omega, by simp⟩
    refine ⟨[.val (.scr ns), .val (.int k)], by rw [e1]; rfl, ?_⟩
    obtain ⟨env, sto⟩ := s
    simp only at e1 e2
    refine Ok1.seq ?_
    simp only [x_ite, evB_not, evB_call, e_call, evL_cons, evL_nil, e_var, rdVar, List.getElem?_cons_succ, List.getElem?_cons_zero, R.bind_ok, ok1_bind, ok1_ok]
    refine call_ok HP (ts := [.scr ns, .int k]) ?_ ?_ ?_
    · rfl
    · rfl
    refine pot_C hk e2 fun sto' hp => ⟨fun z => by simp [Rt.lent] at z, ?_⟩
    refine call_ok HR (ts := [.ref sto.length]) ?_ ?_ ?_
    · rfl
    · simp [hr]
    refine (right _ _ hp).mono fun t sto2 ⟨h1, h2⟩ => ⟨fun z => by simp [Rt.lent] at z, ?_⟩
    subst h1
    simp only [Rt.res, truth, R.opt, ok1_ok, Bool.not_true, Bool.false_eq_true, if_false, xs_nil]
    exact ⟨_, rfl, h2⟩
  · refine Ok1.seq ?_
    simp only [x_ret, e_bl, R.bind, Rt.t, ok1_ok]
end L2.TV

set_option maxHeartbeats 4000000
/-! The interpreter once more, by structure: the kernel can run it. -/
namespace L2.TV
open PySem PySem.Spec PyProof.Rows
def dfltB (f : S → R Rt) : S → R Bool := fun s => (f s).bind fun x s1 => match x.res s1 with
    | some t => R.opt (truth t) s1
    | none => .bad
def both (f : S → R Rt) : (S → R Rt) × (S → R Bool) := (f, dfltB f)
mutual
def evP (G : Cfg) : IE → (S → R Rt) × (S → R Bool)
  | .var i => both fun s => rdVar i s
  | .peek i => both fun s => if boundS s i then .ok (.b i) s else .bad
  | .int i => both fun s => .ok (.v (.int i)) s
  | .str x => both fun s => .ok (.v (.str (Str.ofString x))) s
  | .bl b => both fun s => .ok (.v (.bl b)) s
  | .non => both fun s => .ok (.v .non) s
  | .cst x => both fun s => match G.cst x with
    | some t => .ok (.v t) s
    | none => .bad
  | .bin o a b => both fun s => ((evP G a).1 s).bind fun x s1 => ((evP G b).1 s1).bind fun y s2 => match x.res s2, y.res s2 with
    | some t, some u => R.opt (binT o t u) s2
    | _, _ => .bad
  | .cmp o a b => both fun s => ((evP G a).1 s).bind fun x s1 => ((evP G b).1 s1).bind fun y s2 => match x.res s2, y.res s2 with
    | some t, some u => R.opt ((cmpT o t u).map fun k => .v (.bl k)) s2
    | _, _ => .bad
  | .chn o p a b c => both fun s => ((evP G a).1 s).bind fun x s1 => ((evP G b).1 s1).bind fun y s2 => match x.res s2, y.t with
    | some t, some u => (R.opt (cmpT o t u) s2).bind fun k s3 =>
      if k then ((evP G c).1 s3).bind fun z s4 => match z.res s4 with
        | some w => R.opt ((cmpT p u w).map fun k => .v (.bl k)) s4
        | _ => .bad
      else .ok (.v (.bl false)) s3
    | _, _ => .bad
  | .and a b => (fun s => ((evP G a).1 s).bind fun x s1 => match x.t with
    | some t => (R.opt (truth t) s1).bind fun k s2 => if k then (evP G b).1 s2 else .ok (.v t) s2
    | none => .bad, fun s => ((evP G a).2 s).bind fun k s1 => if k then (evP G b).2 s1 else .ok false s1)
  | .or a b => (fun s => ((evP G a).1 s).bind fun x s1 => match x.t with
    | some t => (R.opt (truth t) s1).bind fun k s2 => if k then .ok (.v t) s2 else (evP G b).1 s2
    | none => .bad, fun s => ((evP G a).2 s).bind fun k s1 => if k then .ok true s1 else (evP G b).2 s1)
  | .not a => (fun s => ((evP G a).1 s).bind fun x s1 => match x.res s1 with
    | some t => (R.opt (truth t) s1).bind fun k s2 => .ok (.v (.bl (!k))) s2
    | none => .bad, fun s => ((evP G a).2 s).bind fun k s1 => .ok (!k) s1)
  | .neg a => both fun s => ((evP G a).1 s).bind fun x s1 => match x.t with
    | some (.int i) => .ok (.v (.int (-i))) s1
    | _ => .bad
  | .ife c a b => both fun s => ((evP G c).2 s).bind fun k s1 => if k then (evP G a).1 s1 else (evP G b).1 s1
  | .tup es => both fun s => (evsP G es s).bind fun ts s1 => if ts.length ≤ sizeLine then .ok (.v (.tup ts)) s1 else .bad
  | .lst es => both fun s => (evsP G es s).bind fun ts s1 => if ts.length ≤ sizeLine then .ok (.l ts) s1 else .bad
  | .cel es => both fun s => (evsP G es s).bind fun ts s1 => if ts.length ≤ sizeLine then .ok (.v (.ref s1.sto.length)) { s1 with sto := s1.sto ++ [.lst ts] } else .bad
  | .newK => both fun s => .ok (.k []) s
  | .newT => both fun s => .ok (.d []) s
  | .dispK vs ks => both fun s => (evKVP G vs ks s).bind fun kvs s1 => if kvs.length ≤ 15 then .ok (.k (mergeT [] kvs)) s1 else .bad
  | .ix a b => both fun s => ((evP G a).1 s).bind fun x s1 => ((evP G b).1 s1).bind fun y s2 => match x.res s2, y.t with
    | some (.ref n), some (.int i) => match s2.sto[n]? with
      | some (.lst l) => R.opt ((atI l i).map .v) s2
      | _ => .bad
    | some t, some u => R.opt ((ixT t u).map .v) s2
    | _, _ => .bad
  | .sl a lo hi => both fun s => ((evP G a).1 s).bind fun x s1 => (evOP G lo s1).bind fun l s2 => (evOP G hi s2).bind fun h s3 => match x.res s3 with
    | some t => R.opt (slT t l h) s3
    | none => .bad
  | .rev a => both fun s => ((evP G a).1 s).bind fun x s1 => match x.res s1 with
    | some (.tup l) => .ok (.v (.tup l.reverse)) s1
    | some (.lst l) => .ok (.l l.reverse) s1
    | _ => .bad
  | .lc elt tg src cond own => both fun s => (evSrcP G src s).bind fun ts s1 => if (own.any fun i => (s1.env.getD i .none).isOwn) then .bad else
      (lcTurns own tg (fun s => evCP G cond s) (fun s => ((evP G elt).1 s).bind fun y s' => R.opt y.t s') ts s1 []).quiet.bind fun ys s2 => .ok (.l ys) { s2 with env := backE s1.env s2.env own }
  | .lc2 elt tg src cond tg1 src1 cond1 own own1 => both fun s => (evSrcP G src s).bind fun ts s1 => if (own.any fun i => (s1.env.getD i .none).isOwn) then .bad else
      (lc2Turns own own1 tg tg1 (fun s => evCP G cond s) (fun s => evSrcP G src1 s) (fun s => evCP G cond1 s) (fun s => ((evP G elt).1 s).bind fun y s' => R.opt y.t s') ts s1 []).quiet.bind fun ys s2 => .ok (.l ys) { s2 with env := backE s1.env s2.env own }
  | .fn f es => both fun s => match es with
    | [a] => ((evP G a).1 s).bind fun x s1 => match x.res s1 with
      | some t => R.opt (fnT f [t]) s1
      | none => .bad
    | [a, b] => ((evP G a).1 s).bind fun x s1 => ((evP G b).1 s1).bind fun y s2 => match x.res s2, y.res s2 with
      | some t, some u => R.opt (fnT f [t, u]) s2
      | _, _ => .bad
    | _ => .bad
  | .isi a ks => both fun s => ((evP G a).1 s).bind fun x s1 => match x.t with
    | some t => match ks with
      | [k] => R.opt ((kdT k t).map fun b => .v (.bl b)) s1
      | _ => .bad
    | none => .bad
  | .pop i arg => both fun s => if !(ownL s i) then .bad else match arg with
    | none => match s.env[i]? with
      | some (.own l) => match l.getLast? with
        | some t => .ok (.v t) (setE s i (.own l.dropLast))
        | none => .bad
      | _ => .bad
    | some a => ((evP G a).1 s).bind fun x s1 => match x.t, s1.env[i]? with
      | some (.int k), some (.own l) => if 0 ≤ k ∧ k < 2 ^ 63 then (match l[k.toNat]? with
        | some t => .ok (.v t) (setE s1 i (.own (l.eraseIdx k.toNat)))
        | none => .bad) else .bad
      | _, _ => .bad
  | .call f es => both fun s => (evLP G es s).bind fun xs s1 => callR G f none xs s1
  | .rng l a b => both fun s => match b with
    | none => ((evP G a).1 s).bind fun x s1 => match x.t with
      | some (.int n) => R.opt (rngT l 0 n) s1
      | _ => .bad
    | some b => ((evP G a).1 s).bind fun x s1 => ((evP G b).1 s1).bind fun y s2 => match x.t, y.t with
      | some (.int i), some (.int j) => R.opt (rngT l i j) s2
      | _, _ => .bad
  | .callK f es is => both fun s => (evLP G es s).bind fun xs s1 => callR G f (some is) xs s1
  | .dcK kx vx tg src cond own => both fun s => (evSrcP G src s).bind fun ts s1 => if (own.any fun i => (s1.env.getD i .none).isOwn) then .bad else
      (dcTurns keyT own tg (fun s => evCP G cond s) (fun s => ((evP G kx).1 s).bind fun y s' => R.opt y.t s') (fun s => ((evP G vx).1 s).bind fun y s' => R.opt y.t s') ts s1 []).quiet.bind fun ys s2 => .ok (.k ys) { s2 with env := backE s1.env s2.env own }
  | .dcT kx vx tg src cond own => both fun s => (evSrcP G src s).bind fun ts s1 => if (own.any fun i => (s1.env.getD i .none).isOwn) then .bad else
      (dcTurns tkT own tg (fun s => evCP G cond s) (fun s => ((evP G kx).1 s).bind fun y s' => R.opt y.t s') (fun s => ((evP G vx).1 s).bind fun y s' => R.opt y.t s') ts s1 []).quiet.bind fun ys s2 => .ok (.d ys) { s2 with env := backE s1.env s2.env own }
  | .tix x a => both fun s => match G.tab x with
    | none => .bad
    | some tb => ((evP G a).1 s).bind fun y s1 => match y.t with
      | some t => R.opt ((tb.get t).map .v) s1
      | none => .bad
  | .tin no x a => both fun s => match G.tab x with
    | none => .bad
    | some tb => ((evP G a).1 s).bind fun y s1 => match y.t with
      | some t => R.opt ((tb.has t).map fun b => .v (.bl (b != no))) s1
      | none => .bad
  | .lcI elt tg vals a cond own => both fun s => ((evP G a).1 s).bind fun x s1 => match x.t with
    | some (.dk l) => if (own.any fun i => (s1.env.getD i .none).isOwn) then .bad else
      (lcTurns own tg (fun s => evCP G cond s) (fun s => ((evP G elt).1 s).bind fun y s' => R.opt y.t s') (itemsL vals l) s1 []).quiet.bind fun ys s2 => .ok (.l ys) { s2 with env := backE s1.env s2.env own }
    | _ => .bad
def evLP (G : Cfg) : List IE → S → R (List Rt)
  | [], s => .ok [] s
  | e :: es, s => ((evP G e).1 s).bind fun x s1 => (evLP G es s1).bind fun xs s2 => .ok (x :: xs) s2
def evsP (G : Cfg) : List IE → S → R (List T)
  | [], s => .ok [] s
  | e :: es, s => ((evP G e).1 s).bind fun x s1 => match x.t with
    | some t => (evsP G es s1).bind fun ts s2 => .ok (t :: ts) s2
    | none => .bad
def evKVP (G : Cfg) : List IE → List KE → S → R (List (Key × T))
  | [], [], s => .ok [] s
  | v :: vs, k :: ks, s => match keyE G k with
    | none => .bad
    | some kk => ((evP G v).1 s).bind fun y s2 => match y.t with
      | none => .bad
      | some u => (evKVP G vs ks s2).bind fun r s3 => .ok ((kk, u) :: r) s3
  | _, _, _ => .bad
def evOP (G : Cfg) : Option IE → S → R (Option Int)
  | none, s => .ok none s
  | some e, s => ((evP G e).1 s).bind fun x s1 => match x.t with
    | some (.int i) => .ok (some i) s1
    | _ => .bad
def evCP (G : Cfg) : Option IE → S → R Bool
  | none, s => .ok true s
  | some e, s => (evP G e).2 s
def evSrcP (G : Cfg) : Src → S → R (List T)
  | .e a, s => ((evP G a).1 s).bind fun x s1 => match x.t with
    | some t => R.opt (listOf t) s1
    | none => .bad
  | .range1 a, s => ((evP G a).1 s).bind fun x s1 => match x.t with
    | some (.int i) => if ok62 i then .ok (rangeL 0 i) s1 else .bad
    | _ => .bad
  | .range2 a b, s => ((evP G a).1 s).bind fun x s1 => ((evP G b).1 s1).bind fun y s2 => match x.t, y.t with
    | some (.int i), some (.int j) => if ok62 i && ok62 j then .ok (rangeL i j) s2 else .bad
    | _, _ => .bad
  | .enum a, s => ((evP G a).1 s).bind fun x s1 => match x.t with
    | some t => R.opt ((listOf t).map enumL) s1
    | none => .bad
  | .zip a b, s => ((evP G a).1 s).bind fun x s1 => ((evP G b).1 s1).bind fun y s2 => match x.t, y.t with
    | some t, some u => match listOf t, listOf u with
      | some l, some m => .ok (zipL l m) s2
      | _, _ => .bad
    | _, _ => .bad
end
mutual
def exP (G : Cfg) : IS → S → R Fl
  | .set i e, s => ((evP G e).1 s).bind fun x s1 => setR i x s1
  | .setv i e, s => ((evP G e).1 s).bind fun x s1 => match x.t with
    | some t => .ok .nx (setE s1 i (.val t))
    | none => .bad
  | .tg g e, s => ((evP G e).1 s).bind fun x s1 => match x.t with
    | some t => match bindTg g t s1.env with
      | some env => .ok .nx { s1 with env := env }
      | none => .bad
    | none => .bad
  | .par is es, s => (evLP G es s).bind fun xs s1 => setRs is xs s1
  | .six o k e, s => ((evP G e).1 s).bind fun y s1 => match y.t with
    | none => .bad
    | some t => ((evP G o).1 s1).bind fun x s2 => ((evP G k).1 s2).bind fun z s3 => match z.t with
      | none => .bad
      | some u => match x with
        | .b i => match s3.env[i]? with
          | some (.own l) => match u with
            | .int j => match ixN l.length j with
              | some n => .ok .nx (setE s3 i (.own (l.set n t)))
              | none => .bad
            | _ => .bad
          | some (.ownK l) => match keyT u with
            | some kk => if l.length < sizeLine then .ok .nx (setE s3 i (.ownK (putT l kk t))) else .bad
            | none => .bad
          | _ => .bad
        | .v (.ref n) => match s3.sto[n]? with
          | some (.lst l) => match u with
            | .int j => match ixN l.length j with
              | some m => .ok .nx { s3 with sto := s3.sto.set n (.lst (l.set m t)) }
              | none => .bad
            | _ => .bad
          | _ => .bad
        | _ => .bad
  | .mapp i e, s => if ownL s i then ((evP G e).1 s).bind fun x s1 => match x.t, s1.env[i]? with
      | some t, some (.own l) => if l.length < sizeLine then .ok .nx (setE s1 i (.own (l ++ [t]))) else .bad
      | _, _ => .bad
    else .bad
  | .mext i e, s => if ownL s i then ((evP G e).1 s).bind fun x s1 => match x.t, s1.env[i]? with
      | some (.lst m), some (.own l) => if l.length + m.length ≤ sizeLine then .ok .nx (setE s1 i (.own (l ++ m))) else .bad
      | _, _ => .bad
    else .bad
  | .mrem i e, s => if ownL s i then ((evP G e).1 s).bind fun x s1 => match x.t, s1.env[i]? with
      | some t, some (.own l) => match remT t l with
        | some m => .ok .nx (setE s1 i (.own m))
        | none => .bad
      | _, _ => .bad
    else .bad
  | .dead, s => .bad
  | .expr e, s => ((evP G e).1 s).bind fun _ s1 => .ok .nx s1
  | .ret e, s => ((evP G e).1 s).bind fun x s1 => match x.t with
    | some t => .ok (.ret t) s1
    | none => .bad
  | .ite c a b, s => ((evP G c).2 s).bind fun k s1 => if k then exsP G a s1 else exsP G b s1
  | .for_ g src body, s => (evSrcP G src s).bind fun ts s1 => forT (fun s => exsP G body s) g ts s1
  | .whl c body, s => whlT (fun s => (evP G c).2 s) (fun s => exsP G body s) G.fuel s
  | .brk, s => .ok .bk s
  | .cont, s => .ok .ct s
  | .pass, s => .ok .nx s
  | .forI g vals a body, s => ((evP G a).1 s).bind fun x s1 => match x.t with
    | some (.dk l) => (forT (fun s => exsP G body s) g (itemsL vals l) s1).quiet
    | _ => .bad
def exsP (G : Cfg) : List IS → S → R Fl
  | [], s => .ok .nx s
  | a :: b, s => (exP G a s).bind fun fl s1 => match fl with
    | .nx => exsP G b s1
    | _ => .ok fl s1
end
section
variable (G : Cfg)
mutual
theorem evP_eq : ∀ e : IE, evP G e = (ev G e, evB G e)
  | .var i => by simp only [evP, both]; refine Prod.ext ?_ ?_ <;> funext s <;> simp only [ev, evB, dfltB] <;> rfl
  | .peek i => by simp only [evP, both]; refine Prod.ext ?_ ?_ <;> funext s <;> simp only [ev, evB, dfltB] <;> rfl
  | .int i => by simp only [evP, both]; refine Prod.ext ?_ ?_ <;> funext s <;> simp only [ev, evB, dfltB] <;> rfl
  | .str i => by simp only [evP, both]; refine Prod.ext ?_ ?_ <;> funext s <;> simp only [ev, evB, dfltB] <;> rfl
  | .bl i => by simp only [evP, both]; refine Prod.ext ?_ ?_ <;> funext s <;> simp only [ev, evB, dfltB] <;> rfl
  | .non => by simp only [evP, both]; refine Prod.ext ?_ ?_ <;> funext s <;> simp only [ev, evB, dfltB] <;> rfl
  | .cst x => by simp only [evP, both]; refine Prod.ext ?_ ?_ <;> funext s <;> simp only [ev, evB, dfltB] <;> rfl
  | .bin o a b => by simp only [evP, both, evP_eq a, evP_eq b]; refine Prod.ext ?_ ?_ <;> funext s <;> simp only [ev, evB, dfltB] <;> rfl
  | .cmp o a b => by simp only [evP, both, evP_eq a, evP_eq b]; refine Prod.ext ?_ ?_ <;> funext s <;> simp only [ev, evB, dfltB] <;> rfl
  | .chn o p a b c => by simp only [evP, both, evP_eq a, evP_eq b, evP_eq c]; refine Prod.ext ?_ ?_ <;> funext s <;> simp only [ev, evB, dfltB] <;> rfl
  | .and a b => by simp only [evP, evP_eq a, evP_eq b]; refine Prod.ext ?_ ?_ <;> funext s <;> simp only [ev, evB] <;> rfl
  | .or a b => by simp only [evP, evP_eq a, evP_eq b]; refine Prod.ext ?_ ?_ <;> funext s <;> simp only [ev, evB] <;> rfl
  | .not a => by simp only [evP, evP_eq a]; refine Prod.ext ?_ ?_ <;> funext s <;> simp only [ev, evB] <;> rfl
  | .neg a => by simp only [evP, both, evP_eq a]; refine Prod.ext ?_ ?_ <;> funext s <;> simp only [ev, evB, dfltB] <;> rfl
  | .ife c a b => by simp only [evP, both, evP_eq a, evP_eq b, evP_eq c]; refine Prod.ext ?_ ?_ <;> funext s <;> simp only [ev, evB, dfltB] <;> rfl
  | .tup es => by simp only [evP, both, evsP_eq es]; refine Prod.ext ?_ ?_ <;> funext s <;> simp only [ev, evB, dfltB] <;> rfl
  | .lst es => by simp only [evP, both, evsP_eq es]; refine Prod.ext ?_ ?_ <;> funext s <;> simp only [ev, evB, dfltB] <;> rfl
  | .cel es => by simp only [evP, both, evsP_eq es]; refine Prod.ext ?_ ?_ <;> funext s <;> simp only [ev, evB, dfltB] <;> rfl
  | .newK => by simp only [evP, both]; refine Prod.ext ?_ ?_ <;> funext s <;> simp only [ev, evB, dfltB] <;> rfl
  | .newT => by simp only [evP, both]; refine Prod.ext ?_ ?_ <;> funext s <;> simp only [ev, evB, dfltB] <;> rfl
  | .dispK vs ks => by simp only [evP, both, evKVP_eq vs]; refine Prod.ext ?_ ?_ <;> funext s <;> simp only [ev, evB, dfltB] <;> rfl
  | .ix a b => by simp only [evP, both, evP_eq a, evP_eq b]; refine Prod.ext ?_ ?_ <;> funext s <;> simp only [ev, evB, dfltB] <;> rfl
  | .sl a lo hi => by simp only [evP, both, evP_eq a, evOP_eq lo, evOP_eq hi]; refine Prod.ext ?_ ?_ <;> funext s <;> simp only [ev, evB, dfltB] <;> rfl
  | .rev a => by simp only [evP, both, evP_eq a]; refine Prod.ext ?_ ?_ <;> funext s <;> simp only [ev, evB, dfltB] <;> rfl
  | .lc elt tg src cond own => by simp only [evP, both, evP_eq elt, evSrcP_eq src, evCP_eq cond]; refine Prod.ext ?_ ?_ <;> funext s <;> simp only [ev, evB, dfltB] <;> rfl
  | .lc2 elt tg src cond tg1 src1 cond1 own own1 => by simp only [evP, both, evP_eq elt, evSrcP_eq src, evCP_eq cond, evSrcP_eq src1, evCP_eq cond1]; refine Prod.ext ?_ ?_ <;> funext s <;> simp only [ev, evB, dfltB] <;> rfl
  | .fn f [] => by simp only [evP, both]; refine Prod.ext ?_ ?_ <;> funext s <;> simp only [ev, evB, dfltB] <;> rfl
  | .fn f [a] => by simp only [evP, both, evP_eq a]; refine Prod.ext ?_ ?_ <;> funext s <;> simp only [ev, evB, dfltB] <;> rfl
  | .fn f [a, b] => by simp only [evP, both, evP_eq a, evP_eq b]; refine Prod.ext ?_ ?_ <;> funext s <;> simp only [ev, evB, dfltB] <;> rfl
  | .fn f (_ :: _ :: _ :: _) => by simp only [evP, both]; refine Prod.ext ?_ ?_ <;> funext s <;> simp only [ev, evB, dfltB] <;> rfl
  | .isi a ks => by simp only [evP, both, evP_eq a]; refine Prod.ext ?_ ?_ <;> funext s <;> simp only [ev, evB, dfltB] <;> rfl
  | .pop i none => by simp only [evP, both]; refine Prod.ext ?_ ?_ <;> funext s <;> simp only [ev, evB, dfltB] <;> rfl
  | .pop i (some a) => by simp only [evP, both, evP_eq a]; refine Prod.ext ?_ ?_ <;> funext s <;> simp only [ev, evB, dfltB] <;> rfl
  | .call f es => by simp only [evP, both, evLP_eq es]; refine Prod.ext ?_ ?_ <;> funext s <;> simp only [ev, evB, dfltB] <;> rfl
  | .rng l a none => by simp only [evP, both, evP_eq a]; refine Prod.ext ?_ ?_ <;> funext s <;> simp only [ev, evB, dfltB] <;> rfl
  | .rng l a (some b) => by simp only [evP, both, evP_eq a, evP_eq b]; refine Prod.ext ?_ ?_ <;> funext s <;> simp only [ev, evB, dfltB] <;> rfl
  | .callK f es is => by simp only [evP, both, evLP_eq es]; refine Prod.ext ?_ ?_ <;> funext s <;> simp only [ev, evB, dfltB] <;> rfl
  | .dcK kx vx tg src cond own => by simp only [evP, both, evP_eq kx, evP_eq vx, evSrcP_eq src, evCP_eq cond]; refine Prod.ext ?_ ?_ <;> funext s <;> simp only [ev, evB, dfltB] <;> rfl
  | .dcT kx vx tg src cond own => by simp only [evP, both, evP_eq kx, evP_eq vx, evSrcP_eq src, evCP_eq cond]; refine Prod.ext ?_ ?_ <;> funext s <;> simp only [ev, evB, dfltB] <;> rfl
  | .tix x a => by simp only [evP, both, evP_eq a]; refine Prod.ext ?_ ?_ <;> funext s <;> simp only [ev, evB, dfltB] <;> rfl
  | .tin no x a => by simp only [evP, both, evP_eq a]; refine Prod.ext ?_ ?_ <;> funext s <;> simp only [ev, evB, dfltB] <;> rfl
  | .lcI elt tg vals a cond own => by simp only [evP, both, evP_eq a, evP_eq elt, evCP_eq cond]; refine Prod.ext ?_ ?_ <;> funext s <;> simp only [ev, evB, dfltB] <;> rfl
theorem evLP_eq : ∀ es : List IE, evLP G es = evL G es
  | [] => by funext s; simp only [evLP, evL]
  | e :: es => by funext s; simp only [evLP, evL, evP_eq e, evLP_eq es] <;> rfl
theorem evsP_eq : ∀ es : List IE, evsP G es = evs G es
  | [] => by funext s; simp only [evsP, evs]
  | e :: es => by funext s; simp only [evsP, evs, evP_eq e, evsP_eq es] <;> rfl
theorem evKVP_eq : ∀ es : List IE, evKVP G es = evKV G es
  | [] => by funext ks s; cases ks <;> simp only [evKVP, evKV]
  | e :: es => by funext ks s; cases ks <;> simp only [evKVP, evKV, evP_eq e, evKVP_eq es] <;> rfl
theorem evOP_eq : ∀ o : Option IE, evOP G o = evO G o
  | none => by funext s; simp only [evOP, evO]
  | some e => by funext s; simp only [evOP, evO, evP_eq e] <;> rfl
theorem evCP_eq : ∀ o : Option IE, evCP G o = evC G o
  | none => by funext s; simp only [evCP, evC]
  | some e => by funext s; simp only [evCP, evC, evP_eq e]
theorem evSrcP_eq : ∀ o : Src, evSrcP G o = evSrc G o
  | .e a => by funext s; simp only [evSrcP, evSrc, evP_eq a] <;> rfl
  | .range1 a => by funext s; simp only [evSrcP, evSrc, evP_eq a] <;> rfl
  | .range2 a b => by funext s; simp only [evSrcP, evSrc, evP_eq a, evP_eq b] <;> rfl
  | .enum a => by funext s; simp only [evSrcP, evSrc, evP_eq a] <;> rfl
  | .zip a b => by funext s; simp only [evSrcP, evSrc, evP_eq a, evP_eq b] <;> rfl
end
mutual
theorem exP_eq : ∀ e : IS, exP G e = ex G e
  | .set i e => by funext s; simp only [exP, ex, evP_eq G e] <;> rfl
  | .setv i e => by funext s; simp only [exP, ex, evP_eq G e] <;> rfl
  | .tg g e => by funext s; simp only [exP, ex, evP_eq G e] <;> rfl
  | .par is es => by funext s; simp only [exP, ex, evLP_eq G es] <;> rfl
  | .six o k e => by funext s; simp only [exP, ex, evP_eq G o, evP_eq G k, evP_eq G e] <;> rfl
  | .mapp i e => by funext s; simp only [exP, ex, evP_eq G e] <;> rfl
  | .mext i e => by funext s; simp only [exP, ex, evP_eq G e] <;> rfl
  | .mrem i e => by funext s; simp only [exP, ex, evP_eq G e] <;> rfl
  | .dead => by funext s; simp only [exP, ex] <;> rfl
  | .expr e => by funext s; simp only [exP, ex, evP_eq G e] <;> rfl
  | .ret e => by funext s; simp only [exP, ex, evP_eq G e] <;> rfl
  | .ite c a b => by funext s; simp only [exP, ex, evP_eq G c, exsP_eq a, exsP_eq b] <;> rfl
  | .for_ g src body => by funext s; simp only [exP, ex, evSrcP_eq G src, exsP_eq body] <;> rfl
  | .whl c body => by funext s; simp only [exP, ex, evP_eq G c, exsP_eq body] <;> rfl
  | .brk => by funext s; simp only [exP, ex] <;> rfl
  | .cont => by funext s; simp only [exP, ex] <;> rfl
  | .pass => by funext s; simp only [exP, ex] <;> rfl
  | .forI g vals a body => by funext s; simp only [exP, ex, evP_eq G a, exsP_eq body] <;> rfl
theorem exsP_eq : ∀ es : List IS, exsP G es = exs G es
  | [] => by funext s; simp only [exsP, exs]
  | a :: b => by funext s; simp only [exsP, exs, exP_eq a, exsP_eq b] <;> rfl
end
end
def runP (G : Cfg) (d : FD) (ts : List T) (sto : List Cell) : RC :=
  if ts.length = d.params.length ∧ d.params.length ≤ d.slots then
    match exsP G d.body ⟨ts.map .val ++ List.replicate (d.slots - ts.length) .none, sto⟩ with
    | .ok .nx s => .ok .non s.sto
    | .ok (.ret t) s => .ok t s.sto
    | .ok _ _ => .bad
    | .err c fs s => .err c fs s.sto
    | .bad => .bad
  else .bad
theorem runP_eq (G : Cfg) (d : FD) (ts : List T) (sto : List Cell) : runP G d ts sto = runF G d ts sto := by
  unfold runP runF
  rw [exsP_eq] <;> rfl
def callP (P : Prog) (cst : String → Option T) (tab : String → Option Tab) (fuel : Nat) : Nat → String → List T → List Cell → RC
  | 0, _, _, _ => .bad
  | k + 1, f, ts, sto => match P.lookup f with
    | none => .bad
    | some d => runP ⟨cst, tab, callP P cst tab fuel k, fun g => (P.lookup g).map (·.params), fuel⟩ d ts sto
theorem callP_eq (P : Prog) (cst : String → Option T) (tab : String → Option Tab) (fuel : Nat) : ∀ k, callP P cst tab fuel k = callN P cst tab fuel k
  | 0 => rfl
  | k + 1 => by
    funext f ts sto
    simp only [callP, callN]
    cases P.lookup f with
    | none => rfl
    | some d => simp only [runP_eq, callP_eq P cst tab fuel k]
end L2.TV

set_option maxHeartbeats 1000000
/-! Marks and drawn tables. -/
namespace L2.TV
open PySem PySem.Spec PyProof.Rows
namespace Sh
def d__law_marks : FD := ⟨[], 8, [.set 0 (.lst []),
    .for_ (.name 1) (.e (.tup [.str "scanned", .str "unscanned"])) [.mapp 0 (.tup [.str "new", .var 1]),
    .mext 0 (.lc (.tup [.str "load", .var 1, .var 5]) (.name 5) (.e (.tup [.str "black", .str "grey", .str "white"])) none [5]),
    .for_ (.name 2) (.e (.tup [.str "black", .str "grey", .str "white"])) [.for_ (.name 3) (.e (.tup [.str "black", .str "grey", .str "none", .str "white"])) [.for_ (.name 4) (.e (.tup [.str "black", .str "grey", .str "none", .str "white"])) [.setv 6 (.bin .add (.bin .mul (.lst [.str "holder"]) (.fn .int [.cmp .ne (.var 2) (.str "grey")])) (.bin .mul (.lst [.str "new"]) (.fn .int [.cmp .eq (.var 4) (.str "white")]))),
    .setv 6 (.bin .add (.var 6) (.bin .mul (.lst [.str "old"]) (.fn .int [.cmp .eq (.var 3) (.str "white")]))),
    .mext 0 (.lc (.tup [.str "store", .var 1, .var 2, .var 3, .var 4, .var 7]) (.name 7) (.e (.var 6)) none [7])]]]],
    .ret (.fn .sorted [.peek 0])]⟩
def d__law_groups : FD := ⟨[], 8, [.set 0 (.dispK [.lst [.lst [.tup [.str "new", .str "scanned"]]]] [.s "n"]),
    .for_ (.name 1) (.e (.tup [.str "black", .str "grey", .str "white"])) [.six (.peek 0) (.bin .add (.str "l") (.var 1)) (.lst [.lst [.tup [.str "load", .str "scanned", .var 1]]])],
    .for_ (.name 2) (.e (.tup [.str "scanned", .str "unscanned"])) [.for_ (.name 4) (.e (.tup [.str "black", .str "grey", .str "none", .str "white"])) [.six (.peek 0) (.bin .add (.var 2) (.var 4)) (.lst [.lc (.tup [.str "store", .var 2, .str "black", .var 4, .str "white", .var 6]) (.name 6) (.e (.tup [.str "holder", .str "new"])) none [6]])]],
    .for_ (.name 3) (.e (.tup [.str "grey", .str "white"])) [.set 5 (.lst []),
    .for_ (.name 2) (.e (.tup [.str "scanned", .str "unscanned"])) [.mext 5 (.lc (.lst [.tup [.str "store", .var 2, .var 3, .str "white", .var 7, .str "old"]]) (.name 7) (.e (.tup [.str "black", .str "grey", .str "none", .str "white"])) none [7])],
    .six (.peek 0) (.bin .add (.str "c") (.var 3)) (.var 5)],
    .ret (.var 0)]⟩
def d__law_table : FD := ⟨["_law_pot_here"], 8, [.par [5, 6] [.call "_law_groups" [], .lst []],
    .setv 1 (.call "_law_of" [.var 0, .lst [.int 1, .int 2, .int 4]]),
    .for_ (.name 2) (.e (.fn .sorted [.var 5])) [.for_ (.name 7) (.e (.ix (.var 5) (.var 2))) [.ite (.or (.cmp .gt (.call "_law_take" [.var 0, .ife (.cmp .eq (.fn .len [.ix (.var 5) (.var 2)]) (.int 1)) (.int 4) (.int 24)]) (.int 0)) (.cmp .eq (.var 1) (.int 1))) [.mapp 6 (.call "_law_of" [.var 0, .var 7])] []]],
    .setv 3 (.call "_law_marks" []),
    .for_ (.name 4) (.range1 (.call "_law_take" [.var 0, .int 9])) [.mapp 6 (.call "_law_of" [.var 0, .var 3])],
    .for_ (.name 4) (.range1 (.bin .sub (.var 1) (.int 1))) [.ite (.cmp .ne (.peek 6) (.lst [])) [.mrem 6 (.call "_law_of" [.var 0, .peek 6])] []],
    .ret (.tup [.fn .tuple [.fn .sortset [.peek 6]], .cmp .eq (.call "_law_take" [.var 0, .int 2]) (.int 0)])]⟩
end Sh
def st (x : String) : Str := Str.ofString x
def rawMarks : List (List Str) := (["scanned", "unscanned"] : List String).flatMap fun t => [[st "new", st t]] ++ (["black", "grey", "white"] : List String).map (fun c => [st "load", st t, st c]) ++
  (["black", "grey", "white"] : List String).flatMap fun b => (["black", "grey", "none", "white"] : List String).flatMap fun o => (["black", "grey", "none", "white"] : List String).flatMap fun n =>
    ((if b = "grey" then [] else ["holder"]) ++ (if n = "white" then ["new"] else []) ++ (if o = "white" then ["old"] else [])).map fun w => [st "store", st t, st b, st o, st n, st w]
def marks : List (List Str) := sortK rawMarks
theorem marks_run (G : Cfg) (sto : List Cell) : runF G Sh.d__law_marks [] sto = .ok (.lst (marks.map tupS)) sto := by rw [← runP_eq]; kernel_rfl
end L2.TV

set_option maxHeartbeats 1000000
/-! Trees that are small data. -/
namespace L2.TV
open PySem PySem.Spec PyProof.Rows
def Tm (t : T) (d w : Nat) : Prop := ∃ D, t.pd = some D ∧ D.depth ≤ d ∧ D.bulk ≤ w ∧ D.leavesShort 20 = true ∧ D.showable = true ∧ D.canLay0 = true
def TmL (l : List T) (d w : Nat) : Prop := ∃ D, T.pds l = some D ∧ PyData.depthAll D ≤ d ∧ PyData.bulkAll D ≤ w ∧ PyData.leavesShortAll 20 D = true ∧ PyData.showableAll D = true ∧ PyData.canLayAll0 D = true
theorem Tm.mono {t : T} {d w d' w' : Nat} (h : Tm t d w) (a : d ≤ d') (b : w ≤ w') : Tm t d' w' := by
  obtain ⟨D, h1, h2, h3, r⟩ := h; exact ⟨D, h1, by omega, by omega, r⟩
theorem TmL.nil {d w : Nat} : TmL [] d w := ⟨[], rfl, by simp [PyData.depthAll], by simp [PyData.bulkAll], rfl, rfl, rfl⟩
theorem TmL.cons {t : T} {l : List T} {d w v u : Nat} (h : Tm t d w) (r : TmL l d v) (hu : w + 1 + v ≤ u := by omega) : TmL (t :: l) d u := by
  obtain ⟨D, a1, a2, a3, a4, a5, a6⟩ := h
  obtain ⟨E, b1, b2, b3, b4, b5, b6⟩ := r
  refine ⟨D :: E, by simp only [T.pds, a1, b1], ?_, ?_, ?_, ?_, ?_⟩
  · simp only [PyData.depthAll]; omega
  · simp only [PyData.bulkAll]; omega
  · simp only [PyData.leavesShortAll, a4, b4, Bool.and_self]
  · simp only [PyData.showableAll, a5, b5, Bool.and_self]
  · simp only [PyData.canLayAll0, a6, b6, Bool.and_self]
theorem TmL.of {d w : Nat} : ∀ {l : List T}, (∀ t ∈ l, Tm t d w) → TmL l d (l.length * (w + 1))
  | [], _ => TmL.nil
  | t :: l, h => TmL.cons (h t List.mem_cons_self) (TmL.of fun u hu => h u (List.mem_cons_of_mem _ hu)) (by rw [List.length_cons, Nat.add_mul]; omega)
theorem TmL.mono {t : List T} {d w d' w' : Nat} (h : TmL t d w) (a : d ≤ d') (b : w ≤ w') : TmL t d' w' := by
  obtain ⟨D, h1, h2, h3, r⟩ := h; exact ⟨D, h1, by omega, by omega, r⟩
theorem Tm.tup {l : List T} {d w : Nat} (h : TmL l d w) : Tm (.tup l) (d + 1) w := by
  obtain ⟨D, a1, a2, a3, a4, a5, a6⟩ := h
  exact ⟨.tuple D, by simp only [T.pd, a1, Option.map_some], by simp only [PyData.depth]; omega, by simpa only [PyData.bulk] using a3, by simpa only [PyData.leavesShort] using a4, by simpa only [PyData.showable] using a5, by simpa only [PyData.canLay0] using a6⟩
theorem Tm.lst {l : List T} {d w : Nat} (h : TmL l d w) : Tm (.lst l) (d + 1) w := by
  obtain ⟨D, a1, a2, a3, a4, a5, a6⟩ := h
  exact ⟨.list D, by simp only [T.pd, a1, Option.map_some], by simp only [PyData.depth]; omega, by simpa only [PyData.bulk] using a3, by simpa only [PyData.leavesShort] using a4, by simpa only [PyData.showable] using a5, by simpa only [PyData.canLay0] using a6⟩
theorem Tm.bl (b : Bool) : Tm (.bl b) 0 0 := ⟨.bool b, rfl, Nat.le_refl _, Nat.le_refl _, rfl, rfl, rfl⟩
theorem Tm.non : Tm .non 0 0 := ⟨.none, rfl, Nat.le_refl _, Nat.le_refl _, rfl, rfl, rfl⟩
def strB (w : Nat) (x : Str) : Bool := Nat.ble x.cps.size w && x.cps.toList.all (fun c => decide (c < 128)) && PyData.strOk x
theorem Tm.str {x : Str} {w : Nat} (h : strB w x = true) : Tm (.str x) 0 w := by
  simp only [strB, Bool.and_eq_true, List.all_eq_true, decide_eq_true_eq] at h
  obtain ⟨⟨h1, h2⟩, h3⟩ := h
  refine ⟨.str x, rfl, Nat.le_refl _, Nat.le_of_ble_eq_true h1, ?_, rfl, h3⟩
  simp only [PyData.leavesShort, List.all_eq_true, decide_eq_true_eq]
  intro c hc
  have := h2 c hc
  have : (128 : Nat) ≤ 16 ^ 8 := by decide
  omega
theorem Tm.repr {t : T} {d w : Nat} (h : Tm t d w) (hd : d ≤ 60) (hw : w ≤ 500000) : ∃ S, reprT t = some (.v (.str S)) := by
  obtain ⟨D, a1, a2, a3, a4, a5, a6⟩ := h
  have := PyData.shown_le_bulk 20 (by decide) D a4
  refine ⟨D.shown, ?_⟩
  unfold reprT
  rw [a1]
  simp only
  rw [if_pos ⟨a5, by rw [sizeLine_eq]; omega, by omega⟩]
theorem Tm.shape {t : T} {d w : Nat} (h : Tm t d w) (hd : d ≤ 60) : ∃ D, t.pd = some D ∧ SeqAt.shaped D = true := by
  obtain ⟨D, a1, a2, a3, a4, a5, a6⟩ := h
  exact ⟨D, a1, by simp only [SeqAt.shaped, a6, Bool.true_and, decide_eq_true_eq]; omega⟩
theorem Tm.eqs {t : T} {d w : Nat} (h : Tm t d w) (hd : d ≤ 60) : eqB t t = some true := by
  obtain ⟨D, a1, a2⟩ := h.shape hd
  have key : eqD t t = some true := by
    unfold eqD
    rw [a1]
    simp only
    rw [if_pos ⟨a2, a2⟩, SeqAt.eqv_refl D (SeqAt.canLay_of_shaped a2)]
  unfold eqB
  split
  · simp
  · exact key
/-! ### marks as data -/
theorem marks_str : (marks.all fun k => k.all (strB 9) && Nat.ble k.length 6 && !k.isEmpty) = true := by decide +kernel
theorem marks_nd : marks.Pairwise fun a b => lexS a b = true := by decide +kernel
theorem marks_len : marks.length = 120 := by decide +kernel
theorem mark_ok {k : List Str} (h : k ∈ marks) : (∀ x ∈ k, strB 9 x = true) ∧ k.length ≤ 6 ∧ k ≠ [] := by
  have := List.all_eq_true.mp marks_str k h
  simp only [Bool.and_eq_true, List.all_eq_true, Bool.not_eq_true', List.isEmpty_eq_false_iff] at this
  exact ⟨this.1.1, Nat.le_of_ble_eq_true this.1.2, this.2⟩
theorem tupS_tm {k : List Str} (h : k ∈ marks) : Tm (tupS k) 1 60 := by
  obtain ⟨h1, h2, _⟩ := mark_ok h
  have : TmL (k.map T.str) 0 ((k.map T.str).length * (9 + 1)) := TmL.of fun t ht => by
    obtain ⟨x, hx, rfl⟩ := List.mem_map.mp ht
    exact Tm.str (h1 x hx)
  rw [List.length_map] at this
  exact (Tm.tup this).mono (Nat.le_refl _) (by omega)
theorem marks_tm {l : List (List Str)} (h : ∀ m ∈ l, m ∈ marks) : TmL (l.map tupS) 1 (l.length * 61) := by
  have : TmL (l.map tupS) 1 ((l.map tupS).length * (60 + 1)) := TmL.of fun t ht => by
    obtain ⟨k, hk, rfl⟩ := List.mem_map.mp ht
    exact tupS_tm (h k hk)
  rwa [List.length_map] at this
theorem strsT_map (k : List Str) : strsT (k.map T.str) = some k := by
  induction k with
  | nil => rfl
  | cons x k ih => simp [strsT, ih]
theorem allS_map (l : List (List Str)) : allS (l.map tupS) = some l := by
  induction l with
  | nil => rfl
  | cons k l ih => simp only [List.map_cons, tupS, allS, strsT_map, ih] <;> rfl
theorem allI_tupS (k : List Str) (l : List (List Str)) : allI ((k :: l).map tupS) = none := rfl
/-- a drawn table's marks: sorted, each once -/
def Tbl (ms : List (List Str)) : Prop := (∀ m ∈ ms, m ∈ marks) ∧ ms.Pairwise (fun a b => lexS a b = true)
theorem sortK_perm (l : List (List Str)) : (sortK l).Perm l := isort_perm _ l
theorem sortK_pw {l : List (List Str)} (h : l.Nodup) : (sortK l).Pairwise fun a b => lexS a b = true := by
  have h1 : (sortK l).Pairwise fun a b => (!lexS b a) = true := isort_pw (le := fun a b : List Str => !lexS b a) (fun a b c h1 h2 => by
    simp only [Bool.not_eq_true'] at *
    exact (swoS (fun x : List Str => x)).tr a b c h1 h2) (fun a b => by
      cases e : lexS b a with
      | false => rfl
      | true => simp [lexS_asym e]) l
  have h2 : (sortK l).Nodup := (sortK_perm l).nodup_iff.mpr h
  refine (h1.and h2).imp fun {a b} ⟨x, y⟩ => ?_
  cases e : lexS a b with
  | true => rfl
  | false => exact (y (lexS_tri e (by simpa using x))).elim
theorem Tbl.of {l : List (List Str)} (h : ∀ m ∈ l, m ∈ marks) : Tbl (sortK (dd l)) := ⟨fun m hm => h m (mem_dd.mp ((sortK_perm _).mem_iff.mp hm)), sortK_pw (nodup_dd l)⟩
theorem dd_len {α : Type} [DecidableEq α] : ∀ l : List α, (dd l).length ≤ l.length
  | [] => Nat.le_refl _
  | x :: l => by
    have := dd_len l
    unfold dd
    split <;> (simp only [List.length_cons]; omega)
theorem sortset_marks {l : List (List Str)} (h : ∀ m ∈ l, m ∈ marks) (hl : (dd l).length ≤ 76) : sortSetT (.lst (l.map tupS)) = some (.l ((sortK (dd l)).map tupS)) := by
  cases l with
  | nil => rfl
  | cons k l =>
    simp only [sortSetT, allI_tupS, allS_map]
    have hall : ((k :: l).all fun k => !k.isEmpty) = true := List.all_eq_true.mpr fun x hx => by
      have := (mark_ok (h x hx)).2.2
      simp [List.isEmpty_eq_false_iff, this]
    exact if_pos ⟨hl, hall⟩
theorem firstEq_mem {x : PyData} {ds : List PyData} (h : ∃ d ∈ ds, PyData.eqv d x = true) : ∃ j, j < ds.length ∧ firstEq x ds = some j := by
  induction ds with
  | nil => obtain ⟨d, hd, _⟩ := h; cases hd
  | cons d ds ih =>
    unfold firstEq
    by_cases e : PyData.eqv d x = true
    · exact ⟨0, by simp, by rw [if_pos e]⟩
    · rw [if_neg e]
      obtain ⟨d', hd, e'⟩ := h
      rcases List.mem_cons.mp hd with rfl | hd
      · exact (e e').elim
      · obtain ⟨j, hj, e2⟩ := ih ⟨d', hd, e'⟩
        exact ⟨j + 1, by simp; omega, by rw [e2]; rfl⟩
theorem pds_mem : ∀ {l : List T} {ds : List PyData} {t : T}, T.pds l = some ds → t ∈ l → ∃ d ∈ ds, t.pd = some d
  | [], _, _, _, h => by cases h
  | u :: l, ds, t, e, h => by
    simp only [T.pds] at e
    cases e1 : u.pd with
    | none => rw [e1] at e; cases e
    | some d =>
      cases e2 : T.pds l with
      | none => rw [e1, e2] at e; cases e
      | some es =>
        rw [e1, e2] at e; cases e
        rcases List.mem_cons.mp h with rfl | h
        · exact ⟨d, List.mem_cons_self, e1⟩
        · obtain ⟨d', a, b⟩ := pds_mem e2 h
          exact ⟨d', List.mem_cons_of_mem _ a, b⟩
theorem rem_marks {l : List (List Str)} (h : ∀ m ∈ l, m ∈ marks) {m : List Str} (hm : m ∈ l) : ∃ j, remT (tupS m) (l.map tupS) = some ((l.eraseIdx j).map tupS) := by
  obtain ⟨D, a1, a2⟩ := (tupS_tm (h m hm)).shape (by decide)
  obtain ⟨E, b1, b2, b3, b4, b5, b6⟩ := marks_tm h
  obtain ⟨d, hd, e1⟩ := pds_mem b1 (List.mem_map.mpr ⟨m, hm, rfl⟩)
  rw [a1] at e1; cases e1
  obtain ⟨j, _, hj⟩ := firstEq_mem (x := D) ⟨D, hd, SeqAt.eqv_refl D (SeqAt.canLay_of_shaped a2)⟩
  refine ⟨j, ?_⟩
  unfold remT
  rw [a1, b1]
  simp only
  have dl : (PyData.list E).depth ≤ 64 := by show PyData.depthAll E + 1 ≤ 64; omega
  rw [if_pos ⟨a2, by simp only [SeqAt.shaped, PyData.canLay0, b6, Bool.true_and, decide_eq_true_eq]; exact dl⟩, hj]
  simp only [Option.map_some, Option.some.injEq]
  rw [List.eraseIdx_eq_take_drop_succ, List.eraseIdx_eq_take_drop_succ, List.map_append, List.map_take, List.map_drop]
theorem mem_eraseIdx' {α : Type} {l : List α} {j : Nat} {x : α} (h : x ∈ l.eraseIdx j) : x ∈ l := List.mem_of_mem_eraseIdx h
theorem tupS_flat (k : List Str) : (tupS k).flat = true := by
  simp only [tupS, T.flat]
  induction k with
  | nil => rfl
  | cons x k ih => simp [T.flats, T.flat, ih]
theorem flats_tupS (l : List (List Str)) : T.flats (l.map tupS) = true := by
  induction l with
  | nil => rfl
  | cons k l ih => simp [T.flats, tupS_flat, ih]
end L2.TV

set_option maxHeartbeats 1000000
/-! The groups; a drawn table. -/
namespace L2.TV
open PySem PySem.Spec PyProof.Rows
def grp : List (Str × List (List (List Str))) := [(st "n", [[[st "new", st "scanned"]]])] ++ (["black", "grey", "white"] : List String).map (fun c => (st ("l" ++ c), [[[st "load", st "scanned", st c]]])) ++
  ((["scanned", "unscanned"] : List String).flatMap fun t => (["black", "grey", "none", "white"] : List String).map fun o => (st (t ++ o), [(["holder", "new"] : List String).map fun w => [st "store", st t, st "black", st o, st "white", st w]])) ++
  (["grey", "white"] : List String).map fun b => (st ("c" ++ b), (["scanned", "unscanned"] : List String).flatMap fun t => (["black", "grey", "none", "white"] : List String).map fun n => [[st "store", st t, st b, st "white", st n, st "old"]])
def encG (gs : List (List (List Str))) : T := .lst (gs.map fun l => .lst (l.map tupS))
def groupsT : List (Key × T) := grp.map fun p => (.inr p.1, encG p.2)
theorem groups_run (G : Cfg) (sto : List Cell) : runF G Sh.d__law_groups [] sto = .ok (.dk groupsT) sto := by rw [← runP_eq]; kernel_rfl
def gnames : List Str := sortStr (grp.map (·.1))
def grpOf (x : Str) : List (List (List Str)) := ((grp.find? fun p => decide (p.1 = x)).map (·.2)).getD []
theorem grp_find : (gnames.all fun x => (grp.find? fun p => decide (p.1 = x)).isSome) = true := by decide +kernel
theorem grp_marks : (gnames.all fun x => (grpOf x).all fun l => !l.isEmpty && Nat.ble l.length 2 && l.all fun m => decide (m ∈ marks)) = true := by decide +kernel
theorem grp_len : (gnames.map fun x => (grpOf x).length).sum = 28 := by decide +kernel
theorem groups_at {x : Str} (h : x ∈ gnames) : ixT (.dk groupsT) (.str x) = some (encG (grpOf x)) := by
  have := List.all_eq_true.mp grp_find x h
  obtain ⟨p, hp⟩ := Option.isSome_iff_exists.mp this
  simp only [ixT, groupsT, List.find?_map]
  have e : (grp.find? ((fun kv : Key × T => decide (kv.1 = Sum.inr x)) ∘ fun p => (Sum.inr p.1, encG p.2))) = grp.find? fun p => decide (p.1 = x) := by
    congr 1
    funext p
    simp
  rw [e, hp]
  simp [grpOf, hp]
theorem groups_sorted : sortT (.dk groupsT) = some (.l (gnames.map .str)) := by
  have e : ∀ l : List (Str × List (List (List Str))), keysS (l.map fun p => ((.inr p.1 : Key), encG p.2)) = some (l.map (·.1)) := by
    intro l
    induction l with
    | nil => rfl
    | cons p l ih => simp only [List.map_cons, keysS, ih]; rfl
  have e2 : keysI groupsT = none := rfl
  simp only [sortT, e2]
  rw [show groupsT = grp.map fun p => ((.inr p.1 : Key), encG p.2) from rfl, e grp]
  simp only
  rw [if_pos (by decide +kernel)]
  rfl
/-- what is left of the groups -/
def leftG (i : Nat) : Nat := ((gnames.drop i).map fun x => (grpOf x).length).sum
theorem leftG_0 : leftG 0 = 28 := grp_len
theorem leftG_succ {i : Nat} {x : Str} (h : gnames[i]? = some x) : leftG i = (grpOf x).length + leftG (i + 1) := by
  unfold leftG
  obtain ⟨hi, e⟩ := List.getElem?_eq_some_iff.mp h
  rw [List.drop_eq_getElem_cons hi, e]
  simp
theorem eq_nil {L : List (List Str)} (h : ∀ m ∈ L, m ∈ marks) : eqB (.lst (L.map tupS)) (.lst []) = some (decide (L = [])) := by
  obtain ⟨D, a1, a2⟩ := (Tm.lst (marks_tm h)).shape (by decide)
  have e : eqD (.lst (L.map tupS)) (.lst []) = some (PyData.eqv D (.list [])) := by
    unfold eqD
    rw [a1]
    simp only [T.pd, T.pds, Option.map_some]
    rw [if_pos ⟨a2, rfl⟩]
  show eqD _ _ = _
  rw [e]
  simp only [T.pd, Option.map_eq_some_iff] at a1
  obtain ⟨Ds, b1, rfl⟩ := a1
  cases L with
  | nil => simp [T.pds] at b1; subst b1; rfl
  | cons k L =>
    simp only [List.map_cons, T.pds] at b1
    cases c1 : (tupS k).pd with
    | none => rw [c1] at b1; cases b1
    | some d =>
      cases c2 : T.pds (L.map tupS) with
      | none => rw [c1, c2] at b1; cases b1
      | some ds => rw [c1, c2] at b1; cases b1; rfl
theorem rangeL_at {d : Int} {i : Nat} {t : T} (h : (rangeL 0 d)[i]? = some t) : t = .int i ∧ (i : Int) < d := by
  unfold rangeL at h
  rw [List.getElem?_map] at h
  obtain ⟨k, hk, rfl⟩ := Option.map_eq_some_iff.mp h
  obtain ⟨h1, h2⟩ := List.getElem?_eq_some_iff.mp hk
  simp only [List.getElem_range] at h2
  simp only [List.length_range] at h1
  subst h2
  exact ⟨by simp, by omega⟩
theorem rangeL_len {d : Int} : (rangeL 0 d).length = d.toNat := by simp [rangeL]
theorem table_G {G G1 G2 G3 G4 G5 : Cfg} {dg : FD} {n k : Nat} {sto : List Cell} {P : T → List Cell → Prop} (HG : HasD G "_law_groups" dg G1) (hgp : dg.params = []) (hgr : ∀ sto, runF G1 dg [] sto = .ok (.dk groupsT) sto) (HO : HasD G "_law_of" Sh.d__law_of G2) (HO1 : HasD G2 "_law_take" Sh.d__law_take G3) (HT : HasD G "_law_take" Sh.d__law_take G4) (HM : HasD G "_law_marks" Sh.d__law_marks G5)
    (hp : Pot n k sto) (hk : k < 2 ^ 40) (q : ∀ ms b sto', Tbl ms → ms.length ≤ 36 → Pot n (k + 80) sto' → P (.tup [.tup (ms.map tupS), .bl b]) sto') : OkC (runF G Sh.d__law_table [.ref n] sto) P := by
  refine runF_ok' (env := [.val (.ref n), .none, .none, .none, .none, .none, .none, .none]) rfl (by decide) rfl ?_
  refine Ok1.seq ?_
  simp
  refine call_ok HG (ts := []) ?_ ?_ ?_
  · rfl
  · rw [hgp]; rfl
  rw [hgr]
  simp [OkC]
  refine Ok1.seq ?_
  simp
  refine of_call (n := n) (k := k) (l := [.int 1, .int 2, .int 4]) HO HO1 hp ?_ rfl (.inl rfl) (by simp) (by decide) (fun z => by simp at z) fun y sto1 hy hp1 => ?_
  · omega
  simp
  refine Ok1.seq ?_
  rw [x_for]
  simp [groups_sorted]
  obtain ⟨r, rfl, hr⟩ : ∃ r : Int, y = .int r ∧ 1 ≤ r ∧ r ≤ 4 := by
    simp only [List.mem_cons, List.not_mem_nil, or_false] at hy
    rcases hy with rfl | rfl | rfl <;> exact ⟨_, rfl, by decide, by decide⟩
  -- a mark of each group, or not
  refine Ok1.for_ (j := 0) (fun i s => ∃ a2 a7 L kk, s.env = [.val (.ref n), .val (.int r), a2, .none, .none, .val (.dk groupsT), .own (L.map tupS), a7] ∧ (∀ m ∈ L, m ∈ marks) ∧ L.length + leftG i ≤ 28 ∧ Pot n kk s.sto ∧ kk + 2 * leftG i ≤ k + 57)
    ⟨.none, .none, [], k + 1, rfl, fun m hm => (nomatch hm), by rw [leftG_0]; simp, hp1, by rw [leftG_0]; omega⟩ (fun i t s ht ⟨a2, a7, L, kk, e1, e2, e3, e4, e5⟩ => ?_) fun s ⟨a2, a7, L, kk, e1, e2, e3, e4, e5⟩ => ?_
  · obtain ⟨env, sto2⟩ := s
    simp only at e1 e4
    subst e1
    rw [List.getElem?_map] at ht
    obtain ⟨x, hx, rfl⟩ := Option.map_eq_some_iff.mp ht
    have hxm := List.mem_of_getElem? hx
    have hat := groups_at hxm
    rw [Nat.zero_add] at e3 e5
    rw [leftG_succ hx] at e3 e5
    refine ⟨[.val (.ref n), .val (.int r), .val (.str x), .none, .none, .val (.dk groupsT), .own (L.map tupS), a7], rfl, ?_⟩
    refine Ok1.seq ?_
    rw [x_for]
    simp [hat, encG]
    have hg := List.all_eq_true.mp grp_marks x hxm
    generalize grpOf x = gs at hg hat e3 e5
    refine Ok1.for_ (j := 0) (fun j s => ∃ a7 L kk, s.env = [.val (.ref n), .val (.int r), .val (.str x), .none, .none, .val (.dk groupsT), .own (L.map tupS), a7] ∧ (∀ m ∈ L, m ∈ marks) ∧ L.length + (gs.length - j + leftG (i + 1)) ≤ 28 ∧ Pot n kk s.sto ∧ kk + 2 * (gs.length - j + leftG (i + 1)) ≤ k + 57)
      ⟨a7, L, kk, rfl, e2, by simpa using e3, e4, by simpa using e5⟩ (fun j t s hj ⟨a7, L, kk, e1, e2, e3, e4, e5⟩ => ?_) fun s ⟨a7, L, kk, e1, e2, e3, e4, e5⟩ => ?_
    · obtain ⟨env, sto3⟩ := s
      simp only at e1 e4
      subst e1
      rw [List.getElem?_map] at hj
      obtain ⟨l, hl, rfl⟩ := Option.map_eq_some_iff.mp hj
      have hjl : j < gs.length := (List.getElem?_eq_some_iff.mp hl).1
      have hlm := List.all_eq_true.mp hg l (List.mem_of_getElem? hl)
      simp only [Bool.and_eq_true, List.all_eq_true, decide_eq_true_eq, Bool.not_eq_true', List.isEmpty_eq_false_iff] at hlm
      obtain ⟨⟨l1, l2⟩, l3⟩ := hlm
      have l2' := Nat.le_of_ble_eq_true l2
      rw [Nat.zero_add] at e3 e5
      refine ⟨[.val (.ref n), .val (.int r), .val (.str x), .none, .none, .val (.dk groupsT), .own (L.map tupS), .val (.lst (l.map tupS))], rfl, ?_⟩
      refine Ok1.seq ?_
      obtain ⟨c, hc, hc0⟩ : ∃ c : Int, c = (if (gs.length : Int) = 1 then 4 else 24) ∧ 0 < c ∧ c < 2 ^ 64 := ⟨_, rfl, by split <;> decide⟩
      have core : Ok1 (evB G (.cmp .gt (.call "_law_take" [.var 0, .ife (.cmp .eq (.fn .len [.ix (.var 5) (.var 2)]) (.int 1)) (.int 4) (.int 24)]) (.int 0)) ⟨[.val (.ref n), .val (.int r), .val (.str x), .none, .none, .val (.dk groupsT), .own (L.map tupS), .val (.lst (l.map tupS))], sto3⟩)
          fun b s => s.env = [.val (.ref n), .val (.int r), .val (.str x), .none, .none, .val (.dk groupsT), .own (L.map tupS), .val (.lst (l.map tupS))] ∧ Pot n (kk + 1) s.sto := by
        by_cases h1 : gs.length = 1
        · simp [hat, encG, h1]
          exact take_call HT e4 (by omega) (by decide) (by decide) fun d sto' d0 d1 hp => by simp; exact hp
        · have h1' : ¬ (gs.length : Int) = 1 := by omega
          simp [hat, encG, h1']
          exact take_call HT e4 (by omega) (by decide) (by decide) fun d sto' d0 d1 hp => by simp; exact hp
      rw [x_ite]
      simp only [ok1_bind, evB_or]
      refine core.mono fun b s1 ⟨f1, f2⟩ => ?_
      obtain ⟨env, sto4⟩ := s1
      simp only at f1 f2
      subst f1
      have app : Ok1 (exs G [.mapp 6 (.call "_law_of" [.var 0, .var 7])] ⟨[.val (.ref n), .val (.int r), .val (.str x), .none, .none, .val (.dk groupsT), .own (L.map tupS), .val (.lst (l.map tupS))], sto4⟩)
          fun fl s => fl = .nx ∧ ∃ m ∈ marks, s.env = [.val (.ref n), .val (.int r), .val (.str x), .none, .none, .val (.dk groupsT), .own ((L ++ [m]).map tupS), .val (.lst (l.map tupS))] ∧ Pot n (kk + 2) s.sto := by
        refine Ok1.seq ?_
        simp
        refine of_call (n := n) (k := kk + 1) (l := l.map tupS) HO HO1 f2 (by omega) rfl (.inl rfl) (by simpa using l1) (by rw [List.length_map]; omega) (fun z => by simp at z) fun y sto5 hy hp5 => ?_
        obtain ⟨m, hm, rfl⟩ := List.mem_map.mp hy
        have : (L.map tupS).length < 16777216 := by rw [List.length_map]; omega
        simp at this
        simp [this]
        exact ⟨m, l3 m hm, rfl, hp5⟩
      have nothing : Ok1 (exs G [] ⟨[.val (.ref n), .val (.int r), .val (.str x), .none, .none, .val (.dk groupsT), .own (L.map tupS), .val (.lst (l.map tupS))], sto4⟩)
          fun fl s => fl = .nx ∧ s.env = [.val (.ref n), .val (.int r), .val (.str x), .none, .none, .val (.dk groupsT), .own (L.map tupS), .val (.lst (l.map tupS))] ∧ Pot n (kk + 1) s.sto := by simp; exact f2
      have both : ∀ c : Bool, Ok1 (if c = true then exs G [.mapp 6 (.call "_law_of" [.var 0, .var 7])] ⟨[.val (.ref n), .val (.int r), .val (.str x), .none, .none, .val (.dk groupsT), .own (L.map tupS), .val (.lst (l.map tupS))], sto4⟩ else exs G [] ⟨[.val (.ref n), .val (.int r), .val (.str x), .none, .none, .val (.dk groupsT), .own (L.map tupS), .val (.lst (l.map tupS))], sto4⟩)
          fun fl s => fl = .nx ∧ ∃ (L' : List (List Str)) (kk' : Nat), s.env = [.val (.ref n), .val (.int r), .val (.str x), .none, .none, .val (.dk groupsT), .own (L'.map tupS), .val (.lst (l.map tupS))] ∧ (∀ m ∈ L', m ∈ marks) ∧ L'.length ≤ L.length + 1 ∧ Pot n kk' s.sto ∧ kk' ≤ kk + 2 := fun c => by
        cases c with
        | true =>
          simp only [if_true]
          exact app.mono fun fl s ⟨h1, m, h2, h3, h4⟩ => ⟨h1, L ++ [m], kk + 2, h3, fun z hz => by
            rcases List.mem_append.mp hz with hz | hz
            · exact e2 z hz
            · rw [List.mem_singleton.mp hz]; exact h2, by simp, h4, Nat.le_refl _⟩
        | false =>
          simp only [Bool.false_eq_true, if_false]
          exact nothing.mono fun fl s ⟨h1, h3, h4⟩ => ⟨h1, L, kk + 1, h3, e2, by omega, h4, by omega⟩
      have bt := both true
      have bf := both false
      simp only [if_true] at bt
      simp only [Bool.false_eq_true, if_false] at bf
      cases b with
      | true =>
        simp only [if_true, ok1_ok]
        refine bt.mono fun fl s ⟨h1, L', kk', h2, h3, h4, h5, h6⟩ => ?_
        subst h1
        simp only [xs_nil, ok1_ok, Nat.zero_add]
        exact ⟨_, L', kk', h2, h3, by omega, h5, by omega⟩
      | false =>
        by_cases h1 : r = 1
        · subst h1
          simp
          refine bt.mono fun fl s ⟨h1, L', kk', h2, h3, h4, h5, h6⟩ => ?_
          subst h1
          simp only [ok1_ok]
          exact ⟨_, L', h2, h3, by omega, kk', h5, by omega⟩
        · simp [h1]
          exact ⟨_, L, ⟨rfl, rfl⟩, e2, by omega, kk + 1, f2, by omega⟩
    · simp
      rw [Nat.zero_add, List.length_map, Nat.sub_self, Nat.zero_add] at e3 e5
      exact ⟨_, _, L, e1, e2, by omega, kk, e4, by omega⟩
  · obtain ⟨env, sto2⟩ := s
    simp only at e1 e4
    subst e1
    have e3' : L.length ≤ 28 := by omega
    have e5' : kk ≤ k + 57 := by omega
    clear e3 e5
    refine Ok1.seq ?_
    simp
    refine call_ok HM (ts := []) ?_ ?_ ?_
    · rfl
    · rfl
    rw [marks_run]
    simp [OkC]
    refine Ok1.seq ?_
    rw [x_for]
    simp
    refine take_call HT e4 (by omega) (by decide) (by decide) fun d sto3 d0 d1 p3 => ?_
    have h62 : ok62 d = true := by unfold ok62; simp; omega
    simp [h62]
    refine Ok1.for_ (j := 0) (fun j s => ∃ a4 L kk, s.env = [.val (.ref n), .val (.int r), a2, .val (.lst (marks.map tupS)), a4, .val (.dk groupsT), .own (L.map tupS), a7] ∧ (∀ m ∈ L, m ∈ marks) ∧ L.length ≤ 28 + j ∧ Pot n kk s.sto ∧ kk ≤ k + 58 + j)
      ⟨.none, L, kk + 1, rfl, e2, by omega, p3, by omega⟩ (fun j t s hj ⟨a4, L, kk, e1, e2, e3, e4, e5⟩ => ?_) fun s ⟨a4, L, kk, e1, e2, e3, e4, e5⟩ => ?_
    · obtain ⟨env, sto4⟩ := s
      simp only at e1 e4
      subst e1
      obtain ⟨rfl, hj2⟩ := rangeL_at hj
      rw [Nat.zero_add] at e3 e5
      refine ⟨[.val (.ref n), .val (.int r), a2, .val (.lst (marks.map tupS)), .val (.int j), .val (.dk groupsT), .own (L.map tupS), a7], rfl, ?_⟩
      refine Ok1.seq ?_
      simp
      have mne : marks.map tupS ≠ [] := by
        intro z
        have := congrArg List.length z
        rw [List.length_map, marks_len] at this
        cases this
      refine of_call (n := n) (k := kk) (l := marks.map tupS) HO HO1 e4 (by omega) rfl (.inl rfl) mne (by rw [List.length_map, marks_len]; decide) (fun z => by simp at z) fun y sto5 hy hp5 => ?_
      obtain ⟨m, hm, rfl⟩ := List.mem_map.mp hy
      have : L.length < 16777216 := by omega
      simp [this]
      exact ⟨_, L ++ [m], ⟨rfl, by simp⟩, fun z hz => by
        rcases List.mem_append.mp hz with hz | hz
        · exact e2 z hz
        · rw [List.mem_singleton.mp hz]; exact hm, by simp; omega, kk + 1, hp5, by omega⟩
    · obtain ⟨env, sto4⟩ := s
      simp only at e1 e4
      subst e1
      rw [rangeL_len] at e3 e5
      have e3' : L.length ≤ 36 := by omega
      have e5' : kk ≤ k + 66 := by omega
      clear e3 e5
      refine Ok1.seq ?_
      rw [x_for]
      have h62' : ok62 (r - 1) = true := by unfold ok62; simp; omega
      simp [h62']
      refine Ok1.for_ (j := 0) (fun j s => ∃ a4 L kk, s.env = [.val (.ref n), .val (.int r), a2, .val (.lst (marks.map tupS)), a4, .val (.dk groupsT), .own (L.map tupS), a7] ∧ (∀ m ∈ L, m ∈ marks) ∧ L.length ≤ 36 ∧ Pot n kk s.sto ∧ kk ≤ k + 66 + j)
        ⟨a4, L, kk, rfl, e2, e3', e4, by omega⟩ (fun j t s hj ⟨a4, L, kk, e1, e2, e3, e4, e5⟩ => ?_) fun s ⟨a4, L, kk, e1, e2, e3, e4, e5⟩ => ?_
      · obtain ⟨env, sto4⟩ := s
        simp only at e1 e4
        subst e1
        obtain ⟨rfl, hj2⟩ := rangeL_at hj
        rw [Nat.zero_add] at e5
        refine ⟨[.val (.ref n), .val (.int r), a2, .val (.lst (marks.map tupS)), .val (.int j), .val (.dk groupsT), .own (L.map tupS), a7], rfl, ?_⟩
        refine Ok1.seq ?_
        rw [x_ite]
        simp [eq_nil e2]
        by_cases hL : L = []
        · subst hL
          simp
          exact ⟨_, [], ⟨rfl, rfl⟩, fun m hm => (nomatch hm), by simp, kk, e4, by omega⟩
        · simp [hL]
          refine Ok1.seq ?_
          simp
          refine of_call (x := .b 6) (s := ⟨[.val (.ref n), .val (.int r), a2, .val (.lst (marks.map tupS)), .val (.int j), .val (.dk groupsT), .own (L.map tupS), a7], sto4⟩) (n := n) (k := kk) (t := .lst (L.map tupS)) (l := L.map tupS) HO HO1 e4 (by omega) rfl (.inl rfl) (by simpa using hL) (by rw [List.length_map]; omega) (fun _ y hy => ?_) fun y sto5 hy hp5 => ?_
          · obtain ⟨m, hm, rfl⟩ := List.mem_map.mp hy
            exact tupS_flat m
          obtain ⟨m, hm, rfl⟩ := List.mem_map.mp hy
          obtain ⟨q1, hq1⟩ := rem_marks e2 hm
          simp [hq1]
          refine ⟨_, L.eraseIdx q1, ⟨rfl, rfl⟩, fun z hz => e2 z (mem_eraseIdx' hz), ?_, kk + 1, hp5, by omega⟩
          have := List.length_eraseIdx_le L q1
          omega
      · obtain ⟨env, sto5⟩ := s
        simp only at e1 e4
        subst e1
        rw [rangeL_len] at e5
        refine Ok1.seq ?_
        have hdd : (dd L).length ≤ 76 := Nat.le_trans (dd_len L) (by omega)
        simp [sortset_marks e2 hdd]
        refine take_call HT e4 (by omega) (by decide) (by decide) fun d sto6 d0 d1 p6 => ?_
        simp
        refine q _ _ _ (Tbl.of e2) ?_ ?_
        · rw [(sortK_perm _).length_eq]; exact Nat.le_trans (dd_len L) e3
        · obtain ⟨p1, a, b, c, p2, p3, p4, p5, p7⟩ := p6
          exact ⟨p1, a, b, c, p2, p3, p4, p5, by omega⟩
theorem table_C {G G1 G2 G3 G4 G5 : Cfg} {n k : Nat} {sto : List Cell} {P : T → List Cell → Prop} (HG : HasD G "_law_groups" Sh.d__law_groups G1) (HO : HasD G "_law_of" Sh.d__law_of G2) (HO1 : HasD G2 "_law_take" Sh.d__law_take G3) (HT : HasD G "_law_take" Sh.d__law_take G4) (HM : HasD G "_law_marks" Sh.d__law_marks G5)
    (hp : Pot n k sto) (hk : k < 2 ^ 40) (q : ∀ ms b sto', Tbl ms → ms.length ≤ 36 → Pot n (k + 80) sto' → P (.tup [.tup (ms.map tupS), .bl b]) sto') : OkC (runF G Sh.d__law_table [.ref n] sto) P :=
  table_G HG rfl (fun sto => groups_run _ sto) HO HO1 HT HM hp hk q
end L2.TV

set_option maxHeartbeats 1000000
/-! Configurations by depth; membership in small data. -/
namespace L2.TV
open PySem PySem.Spec PyProof.Rows
def cfgN (P : Prog) (cst : String → Option T) (tab : String → Option Tab) (fuel k : Nat) : Cfg := ⟨cst, tab, callN P cst tab fuel k, fun g => (P.lookup g).map (·.params), fuel⟩
theorem callN_eq {P : Prog} {cst : String → Option T} {tab : String → Option Tab} {fuel k : Nat} {f : String} {d : FD} (h : P.lookup f = some d) : callN P cst tab fuel (k + 1) f = runF (cfgN P cst tab fuel k) d := by
  funext ts sto
  simp only [callN, h]
  rfl
theorem hasN {P : Prog} {cst : String → Option T} {tab : String → Option Tab} {fuel k : Nat} {f : String} {d : FD} (h : P.lookup f = some d) : HasD (cfgN P cst tab fuel (k + 1)) f d (cfgN P cst tab fuel k) :=
  ⟨by show (P.lookup f).map _ = _; rw [h]; rfl, callN_eq h⟩
theorem in_some {x : T} {l : List T} {d w d' w' : Nat} (h : Tm x d w) (hl : TmL l d' w') (hd : d ≤ 60) (hd' : d' ≤ 59) : ∃ b, inB x (.tup l) = some b := by
  obtain ⟨D, e1, s1⟩ := h.shape hd
  obtain ⟨E, e2, s2⟩ := (Tm.lst hl).shape (by omega)
  obtain ⟨ds, e3, _⟩ := hl
  have : E = .list ds := by
    simp only [T.pd, e3, Option.map_some, Option.some.injEq] at e2
    exact e2.symm
  subst this
  exact ⟨_, by simp only [inB, e1, e3]; rw [if_pos ⟨s1, s2⟩]⟩
theorem in_some_lst {x : T} {l : List T} {d w d' w' : Nat} (h : Tm x d w) (hl : TmL l d' w') (hd : d ≤ 60) (hd' : d' ≤ 59) : ∃ b, inB x (.lst l) = some b := by
  obtain ⟨b, e⟩ := in_some h hl hd hd'
  exact ⟨b, e⟩
/-- a comprehension with an invariant of the cells and of what was found -/
theorem lc_inv {G : Cfg} {elt : IE} {tg : Tg} {src : Src} {cond : Option IE} {own : List Nat} {s s1 : S} {ts : List T} {P : Rt → S → Prop} (I : Nat → List Cell → List T → Prop) (hs : evSrc G src s = .ok ts s1) (hno : (own.any fun i => (s1.env.getD i .none).isOwn) = false) (h0 : I 0 s1.sto [])
    (turn : ∀ i t sto acc, ts[i]? = some t → I i sto acc → ∃ env, bindTg tg t (wipeE s1.env own) = some env ∧ Ok1 (evC G cond ⟨env, sto⟩) fun k s2 => wipeE s2.env own = wipeE s1.env own ∧
      (k = true → Ok1 (ev G elt s2) fun y s3 => ∃ u, y.t = some u ∧ wipeE s3.env own = wipeE s1.env own ∧ I (i + 1) s3.sto (acc ++ [u])) ∧ (k = false → I (i + 1) s2.sto acc))
    (hz : ts.length < sizeLine) (q : ∀ sto acc, I ts.length sto acc → acc.length ≤ ts.length → P (.l acc) ⟨s1.env, sto⟩) : Ok1 (ev G (.lc elt tg src cond own) s) P := by
  rw [e_lc, hs]
  simp only [ok1_bind, ok1_ok]
  rw [hno]
  simp only [Bool.false_eq_true, if_false, ok1_bind, ok1_quiet, ok1_ok]
  refine Ok1.turns (j := 0) (fun i s acc => wipeE s.env own = wipeE s1.env own ∧ acc.length ≤ i ∧ I i s.sto acc) ⟨rfl, Nat.zero_le _, h0⟩ (fun i t s acc ht ⟨h1, h2, h3⟩ => ?_) fun s acc ⟨h1, h2, h3⟩ => ?_
  · rw [Nat.zero_add] at h2 h3 ⊢
    obtain ⟨env, b1, b2⟩ := turn i t s.sto acc ht h3
    refine ⟨env, by rw [h1]; exact b1, ?_⟩
    have hil : i < ts.length := (List.getElem?_eq_some_iff.mp ht).1
    refine b2.mono fun k s2 ⟨c1, c2, c3⟩ => ⟨fun hk => ?_, fun hk => ⟨c1, by omega, c3 hk⟩⟩
    rw [ok1_bind]
    refine (c2 hk).mono fun y s3 ⟨u, d1, d2, d3⟩ => ?_
    rw [d1, ok1_some]
    exact ⟨by omega, d2, by rw [List.length_append]; simp only [List.length_cons, List.length_nil]; omega, d3⟩
  · rw [Nat.zero_add] at h2 h3
    rw [back_same h1]
    exact q _ _ h3 h2
theorem lc2_at {G : Cfg} {elt : IE} {tg tg1 : Tg} {src src1 : Src} {cond cond1 : Option IE} {own own1 : List Nat} {s s1 : S} {ts : List T} {P : Rt → S → Prop} (hs : evSrc G src s = .ok ts s1) (hno : (own.any fun i => (s1.env.getD i .none).isOwn) = false)
    (h : Ok1 (lc2Turns own own1 tg tg1 (fun s => evC G cond s) (fun s => evSrc G src1 s) (fun s => evC G cond1 s) (fun s => (ev G elt s).bind fun y s' => R.opt y.t s') ts s1 []) fun ys s2 => P (.l ys) ⟨backE s1.env s2.env own, s2.sto⟩) : Ok1 (ev G (.lc2 elt tg src cond tg1 src1 cond1 own own1) s) P := by
  rw [e_lc2, hs]
  simp only [ok1_bind, ok1_ok]
  rw [hno]
  simp only [Bool.false_eq_true, if_false, ok1_bind, ok1_quiet, ok1_ok]
  exact h
theorem all_true : ∀ {l : List T}, (∀ t ∈ l, t = .bl true) → allT (.lst l) = some (.v (.bl true)) := by
  intro l h
  have : allB l = some (List.replicate l.length true) := by
    induction l with
    | nil => rfl
    | cons a l ih =>
      have e := h a List.mem_cons_self
      subst e
      have := ih fun t ht => h t (List.mem_cons_of_mem _ ht)
      simp [allB, this, List.replicate_succ]
  simp only [allT, this, Option.map_some]
  congr 3
  simp
/-- the start of a law's run -/
theorem law_main {P : Prog} {cst : String → Option T} {tab : String → Option Tab} {fuel k : Nat} {ns : List Int} {d : FD} (h : P.lookup "law" = some d) (r : OkC (runF (cfgN P cst tab fuel k) d [.scr ns] []) fun t _ => t = .bl true) : ∃ sto, callN P cst tab fuel (k + 1) "law" [.scr ns] [] = .ok (.bl true) sto := by
  rw [callN_eq h]
  revert r
  cases runF (cfgN P cst tab fuel k) d [.scr ns] [] with
  | ok t sto => intro r; exact ⟨sto, by rw [show t = .bl true from r]⟩
  | _ => intro r; exact r.elim
end L2.TV

set_option maxHeartbeats 1000000
/-! Graphs of objects: what is reached. -/
namespace L2.TV
open PySem PySem.Spec PyProof.Rows
def Inc (l : List Int) : Prop := l.Pairwise (· < ·)
theorem sortL_mem {x : Int} {l : List Int} : x ∈ sortL l ↔ x ∈ l := (isort_perm _ l).mem_iff
theorem sortL_inc {l : List Int} (h : l.Nodup) : Inc (sortL l) := by
  have h1 : (sortL l).Pairwise fun a b => decide (a ≤ b) = true := isort_pw (le := fun a b : Int => decide (a ≤ b)) (fun a b c h1 h2 => by simp only [decide_eq_true_eq] at *; omega) (fun a b => by simp only [Bool.or_eq_true, decide_eq_true_eq]; omega) l
  have h2 : (sortL l).Nodup := (isort_perm _ l).nodup_iff.mpr h
  refine (h1.and h2).imp fun {a b} ⟨x, y⟩ => ?_
  simp only [decide_eq_true_eq] at x
  have : a ≠ b := y
  omega
theorem inc_nodup {l : List Int} (h : Inc l) : l.Nodup := h.imp fun {a b} (x : a < b) => by
  show a ≠ b
  omega
theorem inc_ext : ∀ {l m : List Int}, Inc l → Inc m → (∀ x, x ∈ l ↔ x ∈ m) → l = m
  | [], [], _, _, _ => rfl
  | [], b :: m, _, _, h => by have := (h b).mpr List.mem_cons_self; cases this
  | a :: l, [], _, _, h => by have := (h a).mp List.mem_cons_self; cases this
  | a :: l, b :: m, hl, hm, h => by
    obtain ⟨l1, l2⟩ := List.pairwise_cons.mp hl
    obtain ⟨m1, m2⟩ := List.pairwise_cons.mp hm
    have e : a = b := by
      rcases List.mem_cons.mp ((h a).mp List.mem_cons_self) with e | e
      · exact e
      · rcases List.mem_cons.mp ((h b).mpr List.mem_cons_self) with f | f
        · exact f.symm
        · have := m1 a e; have := l1 b f; omega
    subst e
    rw [inc_ext l2 m2 fun x => ⟨fun hx => ?_, fun hx => ?_⟩]
    · rcases List.mem_cons.mp ((h x).mp (List.mem_cons_of_mem _ hx)) with e | e
      · have := l1 x hx; omega
      · exact e
    · rcases List.mem_cons.mp ((h x).mpr (List.mem_cons_of_mem _ hx)) with e | e
      · have := m1 x hx; omega
      · exact e
theorem sub_len : ∀ {l m : List Int}, l.Nodup → (∀ x ∈ l, x ∈ m) → l.length ≤ m.length
  | [], _, _, _ => Nat.zero_le _
  | a :: l, m, h, s => by
    obtain ⟨h1, h2⟩ := List.nodup_cons.mp h
    have ha := s a List.mem_cons_self
    have := sub_len (m := m.erase a) h2 fun x hx => by
      have : x ≠ a := fun e => h1 (e ▸ hx)
      exact (List.mem_erase_of_ne this).mpr (s x (List.mem_cons_of_mem _ hx))
    have e := List.length_erase_of_mem ha
    have : 0 < m.length := List.length_pos_of_mem ha
    rw [List.length_cons]
    omega
def nums (n : Nat) : List Int := (List.range n).map fun (i : Nat) => (i : Int)
theorem mem_nums {n : Nat} {x : Int} : x ∈ nums n ↔ 0 ≤ x ∧ x < n := by
  unfold nums
  rw [List.mem_map]
  constructor
  · rintro ⟨i, hi, rfl⟩
    rw [List.mem_range] at hi
    omega
  · intro ⟨h0, h1⟩
    exact ⟨x.toNat, List.mem_range.mpr (by omega), by omega⟩
theorem nums_len (n : Nat) : (nums n).length = n := by simp [nums]
theorem range_len {n : Nat} {l : List Int} (h : l.Nodup) (s : ∀ x ∈ l, 0 ≤ x ∧ x < n) : l.length ≤ n := by
  have := sub_len (m := nums n) h fun x hx => mem_nums.mpr (s x hx)
  rwa [nums_len] at this
/-! ### reach -/
def encO : Option Int → T
  | none => .non
  | some i => .int i
def encR (r : List (Option Int)) : T := .tup (r.map encO)
def encH (h : List Int) : T := .tup (h.map .int)
def rowAt (rows : List (List (Option Int))) (i : Int) : List (Option Int) := rows.getD i.toNat []
def succ (rows : List (List (Option Int))) (i : Int) : List Int := (rowAt rows i).filterMap id
inductive Reach (rows : List (List (Option Int))) (held : List (List Int)) : Int → Prop
  | base {h : List Int} {i : Int} : h ∈ held → i ∈ h → Reach rows held i
  | step {i j : Int} : Reach rows held i → j ∈ succ rows i → Reach rows held j
structure Gr (rows : List (List (Option Int))) (held : List (List Int)) (n W : Nat) : Prop where
  len : rows.length = n
  ent : ∀ r ∈ rows, r.length ≤ W ∧ ∀ x ∈ r, ∀ j, x = some j → 0 ≤ j ∧ j < n
  hel : ∀ h ∈ held, ∀ i ∈ h, 0 ≤ i ∧ i < n
  hlen : ∀ h ∈ held, h.length ≤ 64
  few : held.length ≤ 8
section
variable {rows : List (List (Option Int))} {held : List (List Int)} {n W : Nat}
theorem Gr.row (g : Gr rows held n W) {i : Int} (h0 : 0 ≤ i) (h1 : i < n) : rowAt rows i ∈ rows ∧ atI (rows.map encR) i = some (encR (rowAt rows i)) := by
  have hi : i.toNat < rows.length := by rw [g.len]; omega
  have e : rowAt rows i = rows[i.toNat] := by
    unfold rowAt
    rw [List.getD_eq_getElem?_getD, List.getElem?_eq_getElem hi]; rfl
  refine ⟨by rw [e]; exact List.getElem_mem hi, ?_⟩
  rw [e]
  unfold atI ixN
  have : i < ((rows.map encR).length : Int) := by rw [List.length_map, g.len]; omega
  rw [if_pos h0, if_pos this]
  simp [List.getElem?_eq_getElem hi]
theorem succ_len (g : Gr rows held n W) {i : Int} (h0 : 0 ≤ i) (h1 : i < n) : (succ rows i).length ≤ W :=
  Nat.le_trans (List.length_filterMap_le _ _) ((g.ent _ (g.row h0 h1).1).1)
theorem succ_in (g : Gr rows held n W) {i j : Int} (h0 : 0 ≤ i) (h1 : i < n) (h : j ∈ succ rows i) : 0 ≤ j ∧ j < n := by
  obtain ⟨x, hx, e⟩ := List.mem_filterMap.mp h
  exact (g.ent _ (g.row h0 h1).1).2 x hx j e
theorem Reach.in_ (g : Gr rows held n W) {i : Int} (h : Reach rows held i) : 0 ≤ i ∧ i < n := by
  induction h with
  | base a b => exact g.hel _ a _ b
  | step a b ih => exact succ_in g ih.1 ih.2 b
/-- closed and with all that is held: all that is reached -/
theorem reach_all {l : List Int} (hb : ∀ h ∈ held, ∀ i ∈ h, i ∈ l) (hs : ∀ i ∈ l, ∀ j ∈ succ rows i, j ∈ l) {i : Int} (r : Reach rows held i) : i ∈ l := by
  induction r with
  | base a b => exact hb _ a _ b
  | step a b ih => exact hs _ ih _ b
/-- the non-empty contents of a row, as the program finds them -/
def isI : T → Bool
  | .int _ => true
  | _ => false
theorem filter_succ (r : List (Option Int)) : (r.map encO).filter isI = (r.filterMap id).map T.int := by
  induction r with
  | nil => rfl
  | cons a r ih =>
    cases a with
    | none => simpa [List.filter_cons, encO, isI] using ih
    | some i => simpa [List.filter_cons, encO, isI] using ih
end
end L2.TV
namespace L2.TV
open PySem PySem.Spec PyProof.Rows
theorem Tm.int {i : Int} (h0 : -1000000 ≤ i) (h1 : i ≤ 1000000) : Tm (.int i) 0 0 := by
  refine ⟨.int i, rfl, Nat.le_refl _, Nat.le_refl _, ?_, ?_, rfl⟩
  · have := PyData.shown_int_le2 (i := i) (by omega) (by omega)
    simp only [PyData.leavesShort, decide_eq_true_eq]
    omega
  · have := log2_lt (i := i) (n := 20) (by omega) (by decide)
    simp only [PyData.showable, decide_eq_true_eq]
    omega
theorem eqL_nil {l : List T} {d w : Nat} (h : TmL l d w) (hd : d ≤ 59) : eqB (.lst l) (.lst []) = some (decide (l = [])) := by
  obtain ⟨D, a1, a2⟩ := (Tm.lst h).shape (by omega)
  have e : eqD (.lst l) (.lst []) = some (PyData.eqv D (.list [])) := by
    unfold eqD
    rw [a1]
    simp only [T.pd, T.pds, Option.map_some]
    rw [if_pos ⟨a2, rfl⟩]
  show eqD _ _ = _
  rw [e]
  simp only [T.pd, Option.map_eq_some_iff] at a1
  obtain ⟨Ds, b1, rfl⟩ := a1
  cases l with
  | nil => simp [T.pds] at b1; subst b1; rfl
  | cons k L =>
    simp only [T.pds] at b1
    cases c1 : k.pd with
    | none => rw [c1] at b1; cases b1
    | some d =>
      cases c2 : T.pds L with
      | none => rw [c1, c2] at b1; cases b1
      | some ds => rw [c1, c2] at b1; cases b1 <;> rfl
theorem ints_tm {n : Nat} {l : List Int} (hn : n ≤ 1000) (h : ∀ x ∈ l, 0 ≤ x ∧ x < n) : TmL (l.map .int) 0 l.length := by
  have : TmL (l.map T.int) 0 ((l.map T.int).length * (0 + 1)) := TmL.of fun t ht => by
    obtain ⟨x, hx, rfl⟩ := List.mem_map.mp ht
    have := h x hx
    exact Tm.int (by omega) (by omega)
  rwa [List.length_map, Nat.zero_add, Nat.mul_one] at this
theorem allI_map (l : List Int) : allI (l.map T.int) = some l := by
  induction l with
  | nil => rfl
  | cons a l ih => simp only [List.map_cons, allI, ih] <;> rfl
theorem sortset_ints {l : List Int} {n : Nat} (h : ∀ x ∈ l, 0 ≤ x ∧ x < n) (hn : n < 64) (hl : l.length < 4000) : sortSetT (.lst (l.map .int)) = some (.l ((sortL (dd l)).map .int)) := by
  have : (dd l).length < 64 := Nat.lt_of_le_of_lt (range_len (nodup_dd l) fun x hx => h x (mem_dd.mp hx)) hn
  simp only [sortSetT, allI_map]
  rw [if_pos ⟨this, hl⟩]
theorem sorted_set_inc (l : List Int) : Inc (sortL (dd l)) := sortL_inc (nodup_dd l)
theorem sorted_set_mem {l : List Int} {x : Int} : x ∈ sortL (dd l) ↔ x ∈ l := sortL_mem.trans mem_dd
/-- one more turn of the closure -/
theorem turn_grows {rows : List (List (Option Int))} {held : List (List Int)} {n W j : Nat} (g : Gr rows held n W) {F M : List Int} (hF : Inc F) (hr : ∀ i ∈ F, Reach rows held i) (hM : ∀ x, x ∈ M ↔ x ∈ F ∨ ∃ i ∈ F, x ∈ succ rows i)
    (h : (∀ i ∈ F, ∀ k ∈ succ rows i, k ∈ F) ∨ j ≤ F.length) : (∀ i ∈ sortL (dd M), ∀ k ∈ succ rows i, k ∈ sortL (dd M)) ∨ j + 1 ≤ (sortL (dd M)).length := by
  by_cases c : ∀ i ∈ F, ∀ k ∈ succ rows i, k ∈ F
  · left
    have e : ∀ x, x ∈ sortL (dd M) ↔ x ∈ F := fun x => by
      rw [sorted_set_mem, hM]
      exact ⟨fun z => z.elim id fun ⟨i, hi, hx⟩ => c i hi x hx, .inl⟩
    intro i hi k hk
    rw [e] at hi ⊢
    exact c i hi k hk
  · right
    have h' := h.resolve_left c
    have ⟨i, hi, k, hk, hn⟩ : ∃ i, i ∈ F ∧ ∃ k, k ∈ succ rows i ∧ k ∉ F := by
      refine Classical.byContradiction fun z => c fun i hi k hk => Classical.byContradiction fun hn => z ⟨i, hi, k, hk, hn⟩
    have := sub_len (l := k :: F) (m := sortL (dd M)) (List.nodup_cons.mpr ⟨hn, inc_nodup hF⟩) fun x hx => by
      rw [sorted_set_mem, hM]
      rcases List.mem_cons.mp hx with e | e
      · exact .inr ⟨i, hi, e ▸ hk⟩
      · exact .inl e
    rw [List.length_cons] at this
    omega
/-- after n turns all is closed -/
theorem full_closed {rows : List (List (Option Int))} {held : List (List Int)} {n W : Nat} (g : Gr rows held n W) {F : List Int} (hF : Inc F) (hr : ∀ i ∈ F, Reach rows held i) (h : (∀ i ∈ F, ∀ k ∈ succ rows i, k ∈ F) ∨ n ≤ F.length) : ∀ i ∈ F, ∀ k ∈ succ rows i, k ∈ F := by
  rcases h with h | h
  · exact h
  · intro i hi k hk
    refine Classical.byContradiction fun hn => ?_
    have rk : Reach rows held k := .step (hr i hi) hk
    have := range_len (n := n) (l := k :: F) (List.nodup_cons.mpr ⟨hn, inc_nodup hF⟩) fun x hx => by
      rcases List.mem_cons.mp hx with e | e
      · rw [e]; exact rk.in_ g
      · exact (hr x e).in_ g
    rw [List.length_cons] at this
    omega
theorem mem_rangeL {c : Int} {y : T} (h : y ∈ rangeL 0 c) : ∃ i : Int, y = .int i ∧ 0 ≤ i ∧ i < c := by
  unfold rangeL at h
  obtain ⟨k, hk, rfl⟩ := List.mem_map.mp h
  rw [List.mem_range] at hk
  exact ⟨k, by simp, by omega, by omega⟩
theorem Pot.mono {a k k' : Nat} {sto : List Cell} (h : Pot a k sto) (hk : k ≤ k') : Pot a k' sto := by
  obtain ⟨p1, a, b, c, p2, p3, p4, p5, p7⟩ := h
  exact ⟨p1, a, b, c, p2, p3, p4, p5, by omega⟩
end L2.TV

set_option maxHeartbeats 1000000
/-! A row of objects, one behind another. -/
namespace L2.TV
open PySem PySem.Spec PyProof.Rows
structure Ordr (o : List Int) : Prop where
  len : o.length = 12
  nd : o.Nodup
  inr : ∀ x ∈ o, 0 ≤ x ∧ x < 12
theorem Ordr.all {o : List Int} (h : Ordr o) {x : Int} (h0 : 0 ≤ x) (h1 : x < 12) : x ∈ o := by
  refine Classical.byContradiction fun hn => ?_
  have := range_len (n := 12) (l := x :: o) (List.nodup_cons.mpr ⟨hn, h.nd⟩) fun y hy => by
    rcases List.mem_cons.mp hy with e | e
    · rw [e]; exact ⟨h0, h1⟩
    · exact h.inr y e
  rw [List.length_cons, h.len] at this
  omega
def nxt (o : List Int) (rd : Bool) (x : Int) : Option Int := if o.idxOf x < 11 then o[o.idxOf x + 1]? else if rd then o[0]? else none
theorem Ordr.idx {o : List Int} (h : Ordr o) {i : Nat} {x : Int} (e : o[i]? = some x) : o.idxOf x = i := by
  obtain ⟨h1, h2⟩ := List.getElem?_eq_some_iff.mp e
  rw [← h2]
  exact h.nd.idxOf_getElem i h1
theorem nxt_at {o : List Int} (h : Ordr o) {rd : Bool} {i : Nat} {x : Int} (e : o[i]? = some x) : nxt o rd x = if i < 11 then o[i + 1]? else if rd then o[0]? else none := by
  unfold nxt
  rw [h.idx e]
def rowsN (o : List Int) (rd : Bool) : List (List (Option Int)) := (nums 12).map fun x => [nxt o rd x]
def rowsW (o : List Int) (rd : Bool) : List (List (Option Int)) := (nums 12).map fun x => [none, some x, none, nxt o rd x]
theorem rowAt_nums {f : Int → List (Option Int)} {n : Nat} {x : Int} (h0 : 0 ≤ x) (h1 : x < n) : rowAt ((nums n).map f) x = f x := by
  have hx : x.toNat < n := by omega
  unfold rowAt nums
  rw [List.getD_eq_getElem?_getD, List.getElem?_map, List.getElem?_map, List.getElem?_range hx]
  simp only [Option.map_some, Option.getD_some]
  congr 1
  omega
theorem succN {o : List Int} {rd : Bool} {x : Int} (h0 : 0 ≤ x) (h1 : x < 12) {y : Int} : y ∈ succ (rowsN o rd) x ↔ nxt o rd x = some y := by
  unfold succ rowsN
  rw [rowAt_nums (n := 12) h0 (by exact h1)]
  simp
theorem succW {o : List Int} {rd : Bool} {x : Int} (h0 : 0 ≤ x) (h1 : x < 12) {y : Int} : y ∈ succ (rowsW o rd) x ↔ y = x ∨ nxt o rd x = some y := by
  unfold succ rowsW
  rw [rowAt_nums (n := 12) h0 (by exact h1)]
  simp [eq_comm]
theorem nxt_in {o : List Int} (h : Ordr o) {rd : Bool} {x y : Int} (e : nxt o rd x = some y) : y ∈ o := by
  unfold nxt at e
  split at e
  · exact List.mem_of_getElem? e
  · split at e
    · exact List.mem_of_getElem? e
    · cases e
def isl (o : List Int) (rd : Bool) (a : Nat) : List Int := if rd then o else o.drop a
theorem grN {o : List Int} (h : Ordr o) {rd : Bool} {v : Int} (hv : v ∈ o) : Gr (rowsN o rd) [[], [v]] 12 1 := by
  refine ⟨by simp [rowsN, nums_len], fun r hr => ?_, fun h' hh i hi => ?_, fun h' hh => ?_, by simp⟩
  · obtain ⟨x, hx, rfl⟩ := List.mem_map.mp hr
    refine ⟨Nat.le_refl _, fun z hz j e => ?_⟩
    rw [List.mem_singleton.mp hz] at e
    exact h.inr j (nxt_in h e)
  · simp only [List.mem_cons, List.not_mem_nil, or_false] at hh
    rcases hh with rfl | rfl
    · cases hi
    · rw [List.mem_singleton.mp hi]; exact h.inr v hv
  · simp only [List.mem_cons, List.not_mem_nil, or_false] at hh
    rcases hh with rfl | rfl <;> simp
theorem grW {o : List Int} (h : Ordr o) {rd : Bool} {v : Int} (hv : v ∈ o) : Gr (rowsW o rd) [[], [v]] 12 4 := by
  have g := grN h (rd := rd) hv
  refine ⟨by simp [rowsW, nums_len], fun r hr => ?_, g.hel, g.hlen, g.few⟩
  obtain ⟨x, hx, rfl⟩ := List.mem_map.mp hr
  refine ⟨Nat.le_refl _, fun z hz j e => ?_⟩
  have hx := mem_nums.mp hx
  simp only [List.mem_cons, List.not_mem_nil, or_false] at hz
  rcases hz with rfl | rfl | rfl | rfl
  · cases e
  · cases e; exact hx
  · cases e
  · exact h.inr j (nxt_in h e)
theorem reachW {o : List Int} (h : Ordr o) {rd : Bool} {v : Int} (hv : v ∈ o) {i : Int} : Reach (rowsW o rd) [[], [v]] i ↔ Reach (rowsN o rd) [[], [v]] i := by
  constructor
  · intro r
    induction r with
    | base a b => exact .base a b
    | step a b ih =>
      obtain ⟨h0, h1⟩ := ih.in_ (grN h hv)
      rcases (succW h0 h1).mp b with e | e
      · rw [e]; exact ih
      · exact .step ih ((succN h0 h1).mpr e)
  · intro r
    induction r with
    | base a b => exact .base a b
    | step a b ih =>
      obtain ⟨h0, h1⟩ := a.in_ (grN h hv)
      exact .step ih ((succW h0 h1).mpr (.inr ((succN h0 h1).mp b)))
theorem reachN {o : List Int} (h : Ordr o) {rd : Bool} {a : Nat} (ha : a < 12) {v : Int} (hv : o[a]? = some v) {i : Int} : i ∈ isl o rd a ↔ Reach (rowsN o rd) [[], [v]] i := by
  have hvo := List.mem_of_getElem? hv
  have stepR : ∀ {j : Nat} {x y : Int}, o[j]? = some x → o[j + 1]? = some y → Reach (rowsN o rd) [[], [v]] x → Reach (rowsN o rd) [[], [v]] y := fun {j x y} hx hy r => by
    obtain ⟨h0, h1⟩ := r.in_ (grN h hvo)
    refine .step r ((succN h0 h1).mpr ?_)
    rw [nxt_at h hx]
    have : j + 1 < 12 := by have := (List.getElem?_eq_some_iff.mp hy).1; rw [h.len] at this; exact this
    rw [if_pos (by omega)]
    exact hy
  have up : ∀ d : Nat, ∀ {x : Int}, o[a + d]? = some x → Reach (rowsN o rd) [[], [v]] x := by
    intro d
    induction d with
    | zero => intro x hx; rw [Nat.add_zero, hv] at hx; cases hx; exact .base (h := [v]) (by simp) (by simp)
    | succ d ih =>
      intro x hx
      have hl := (List.getElem?_eq_some_iff.mp hx).1
      have hl' : a + d < o.length := by omega
      exact stepR (List.getElem?_eq_getElem hl') hx (ih (List.getElem?_eq_getElem hl'))
  constructor
  · intro hi
    unfold isl at hi
    cases rd with
    | false =>
      simp only [Bool.false_eq_true, if_false] at hi
      obtain ⟨d, hd⟩ := List.mem_iff_getElem?.mp hi
      rw [List.getElem?_drop] at hd
      exact up d hd
    | true =>
      simp only [if_true] at hi
      have l11 : 11 < o.length := by rw [h.len]; decide
      have r11 : Reach (rowsN o true) [[], [v]] o[11] := up (11 - a) (by rw [show a + (11 - a) = 11 by omega]; exact List.getElem?_eq_getElem l11)
      have l0 : 0 < o.length := by rw [h.len]; decide
      have r0 : Reach (rowsN o true) [[], [v]] o[0] := by
        obtain ⟨h0, h1⟩ := r11.in_ (grN h hvo)
        refine .step r11 ((succN h0 h1).mpr ?_)
        rw [nxt_at h (List.getElem?_eq_getElem l11)]
        simp [List.getElem?_eq_getElem l0]
      have all : ∀ j : Nat, ∀ {x : Int}, o[j]? = some x → Reach (rowsN o true) [[], [v]] x := by
        intro j
        induction j with
        | zero => intro x hx; rw [List.getElem?_eq_getElem l0] at hx; cases hx; exact r0
        | succ j ih =>
          intro x hx
          have hl := (List.getElem?_eq_some_iff.mp hx).1
          have hl' : j < o.length := by omega
          exact stepR (List.getElem?_eq_getElem hl') hx (ih (List.getElem?_eq_getElem hl'))
      obtain ⟨j, hj⟩ := List.mem_iff_getElem?.mp hi
      exact all j hj
  · intro r
    have sub : ∀ {x : Int}, x ∈ isl o rd a → x ∈ o := fun {x} hx => by
      unfold isl at hx
      split at hx
      · exact hx
      · exact List.mem_of_mem_drop hx
    induction r with
    | base x y =>
      simp only [List.mem_cons, List.not_mem_nil, or_false] at x
      rcases x with rfl | rfl
      · cases y
      · rw [List.mem_singleton.mp y]
        unfold isl
        split
        · exact hvo
        · exact List.mem_iff_getElem?.mpr ⟨0, by rw [List.getElem?_drop]; exact hv⟩
    | step x y ih =>
      rename_i i' j'
      obtain ⟨h0, h1⟩ := h.inr _ (sub ih)
      have e := (succN h0 h1).mp y
      cases rd with
      | true => unfold isl; simp only [if_true]; exact nxt_in h e
      | false =>
        unfold isl at ih ⊢
        simp only [Bool.false_eq_true, if_false] at ih ⊢
        obtain ⟨d, hd⟩ := List.mem_iff_getElem?.mp ih
        rw [List.getElem?_drop] at hd
        rw [nxt_at h hd] at e
        split at e
        · exact List.mem_iff_getElem?.mpr ⟨d + 1, by rw [List.getElem?_drop]; exact e⟩
        · simp at e
theorem put_fresh {κ : Type} [DecidableEq κ] {l : List (κ × T)} {k : κ} {t : T} (h : k ∉ l.map (·.1)) : putT l k t = l ++ [(k, t)] := by
  have : (l.any fun kv => decide (kv.1 = k)) = false := by
    rw [List.any_eq_false]
    intro x hx e
    exact h (List.mem_map.mpr ⟨x, hx, by simpa using e⟩)
  unfold putT
  rw [this]
  simp
theorem merge_fresh : ∀ (m l : List (Key × T)), ((l ++ m).map (·.1)).Nodup → mergeT l m = l ++ m
  | [], l, _ => by simp [mergeT]
  | p :: m, l, h => by
    have e : l ++ p :: m = (l ++ [p]) ++ m := by simp
    have h1 : p.1 ∉ l.map (·.1) := by
      rw [List.map_append, List.nodup_append] at h
      intro hp
      exact h.2.2 _ hp _ (by simp) rfl
    have ih := merge_fresh m (l ++ [p]) (by rw [← e]; exact h)
    rw [e, ← ih]
    show mergeT (putT l p.1 p.2) m = _
    rw [put_fresh h1]
theorem look_mem {l : List (Key × T)} {x : Int} {v : T} (nd : (l.map (·.1)).Nodup) (h : (Sum.inl x, v) ∈ l) : ixT (.dk l) (.int x) = some v := by
  simp only [ixT]
  induction l with
  | nil => cases h
  | cons p l ih =>
    obtain ⟨h1, h2⟩ := List.nodup_cons.mp nd
    rcases List.mem_cons.mp h with e | e
    · subst e; simp
    · have : ¬ p.1 = Sum.inl x := fun z => h1 (List.mem_map.mpr ⟨_, e, z.symm⟩)
      rw [List.find?_cons]
      simp only [this, decide_false]
      exact ih h2 e
def pairT (p : Int × Int) : T := .tup [.int p.1, .int p.2]
theorem pairs_map (l : List (Int × Int)) : pairsK (l.map pairT) = some (l.map fun p => (.inl p.1, .int p.2)) := by
  induction l with
  | nil => rfl
  | cons p l ih => simp only [List.map_cons, pairT, pairsK] at ih ⊢; rw [ih]
def psOf (o : List Int) : List (Int × Int) := (List.range 11).map fun i => (o.getD i 0, o.getD (i + 1) 0)
def dOf (o : List Int) (rd : Bool) : List (Key × T) := ((psOf o).map fun p => (.inl p.1, .int p.2)) ++ [(.inl (o.getD 11 0), encO (if rd then o[0]? else none))]
theorem dOf_keys {o : List Int} (h : o.length = 12) (rd : Bool) : (dOf o rd).map (·.1) = o.map Sum.inl := by
  match o, h with
  | [a0, a1, a2, a3, a4, a5, a6, a7, a8, a9, a10, a11], _ => rfl
theorem dOf_nd {o : List Int} (h : Ordr o) (rd : Bool) : ((dOf o rd).map (·.1)).Nodup := by
  rw [dOf_keys h.len]
  exact List.Pairwise.map _ (fun a b (hab : a ≠ b) e => hab (by cases e; rfl)) h.nd
theorem dict_o {o : List Int} (h : Ordr o) : dictT (.lst ((psOf o).map pairT)) = some (.k ((psOf o).map fun p => (.inl p.1, .int p.2))) := by
  simp only [dictT, pairs_map, Option.map_some]
  rw [merge_fresh]
  · rfl
  · have := dOf_nd h true
    unfold dOf at this
    rw [List.map_append, List.nodup_append] at this
    exact this.1
theorem put_o {o : List Int} (h : Ordr o) (rd : Bool) : putT ((psOf o).map fun p => ((.inl p.1 : Key), T.int p.2)) (.inl (o.getD 11 0)) (encO (if rd then o[0]? else none)) = dOf o rd := by
  refine put_fresh fun hm => ?_
  have := dOf_nd h true
  unfold dOf at this
  rw [List.map_append, List.nodup_append] at this
  exact this.2.2 _ hm _ (by simp) rfl
theorem look_o {o : List Int} (h : Ordr o) (rd : Bool) {x : Int} (h0 : 0 ≤ x) (h1 : x < 12) : ixT (.dk (dOf o rd)) (.int x) = some (encO (nxt o rd x)) := by
  obtain ⟨i, hi⟩ := List.mem_iff_getElem?.mp (h.all h0 h1)
  refine look_mem (dOf_nd h rd) ?_
  rw [nxt_at h hi]
  have il : i < 12 := by have := (List.getElem?_eq_some_iff.mp hi).1; rwa [h.len] at this
  unfold dOf
  by_cases c : i < 11
  · rw [if_pos c]
    refine List.mem_append_left _ ?_
    have l2 : i + 1 < o.length := by rw [h.len]; omega
    refine List.mem_map.mpr ⟨(x, o.getD (i + 1) 0), List.mem_map.mpr ⟨i, List.mem_range.mpr c, ?_⟩, ?_⟩
    · rw [List.getD_eq_getElem?_getD, hi]; rfl
    · rw [List.getD_eq_getElem?_getD, List.getElem?_eq_getElem l2]; rfl
  · rw [if_neg c]
    have : i = 11 := by omega
    subst this
    refine List.mem_append_right _ ?_
    rw [List.getD_eq_getElem?_getD, hi]
    exact List.mem_singleton.mpr rfl
theorem at_o {o : List Int} {i : Nat} {x : Int} (h : o[i]? = some x) : ixT (.lst (o.map .int)) (.int i) = some (.int x) := by
  obtain ⟨h1, h2⟩ := List.getElem?_eq_some_iff.mp h
  have : (i : Int) < ((o.map T.int).length : Int) := by rw [List.length_map]; omega
  simp only [ixT]
  unfold atI ixN
  rw [if_pos (by omega), if_pos this]
  simp [h]
theorem eraseIdx_map' {α β : Type} (f : α → β) : ∀ (l : List α) (i : Nat), (l.map f).eraseIdx i = (l.eraseIdx i).map f
  | [], _ => rfl
  | a :: l, 0 => rfl
  | a :: l, i + 1 => by simp [eraseIdx_map' f l i]
theorem eraseIdx_perm {α : Type} : ∀ (l : List α) (i : Nat) (h : i < l.length), (l[i] :: l.eraseIdx i).Perm l
  | a :: l, 0, _ => List.Perm.refl _
  | a :: l, i + 1, h => by
    have h' : i < l.length := by simpa using h
    show (l[i] :: a :: l.eraseIdx i).Perm (a :: l)
    exact (List.Perm.swap a l[i] _).trans ((eraseIdx_perm l i h').cons a)
theorem ordr_of {o : List Int} (h : o.Perm (nums 12)) : Ordr o := by
  refine ⟨by rw [h.length_eq, nums_len], h.nodup_iff.mpr (by decide +kernel), fun x hx => ?_⟩
  have := mem_nums.mp (h.mem_iff.mp hx)
  exact this
theorem encO_tm {n : Nat} (hn : n ≤ 1000) {o : Option Int} (h : ∀ i, o = some i → 0 ≤ i ∧ i < n) : Tm (encO o) 0 0 := by
  cases o with
  | none => exact Tm.non
  | some i => have := h i rfl; exact Tm.int (by omega) (by omega)
theorem rows_tm {rows : List (List (Option Int))} {held : List (List Int)} {n W : Nat} (g : Gr rows held n W) (hn : n ≤ 40) (hW : W ≤ 8) : Tm (.tup (rows.map encR)) 2 400 := by
  have h1 : ∀ t ∈ rows.map encR, Tm t 1 8 := fun t ht => by
    obtain ⟨r, hr, rfl⟩ := List.mem_map.mp ht
    have : TmL (r.map encO) 0 ((r.map encO).length * (0 + 1)) := TmL.of fun t ht => by
      obtain ⟨o, ho, rfl⟩ := List.mem_map.mp ht
      exact encO_tm (n := n) (by omega) fun i hi => (g.ent r hr).2 o ho i hi
    rw [List.length_map, Nat.zero_add, Nat.mul_one] at this
    exact (Tm.tup this).mono (Nat.le_refl _) (Nat.le_trans (g.ent r hr).1 hW)
  have h2 := Tm.tup (TmL.of h1)
  rw [List.length_map, g.len] at h2
  exact h2.mono (Nat.le_refl _) (by omega)
theorem held_tm {rows : List (List (Option Int))} {held : List (List Int)} {n W : Nat} (g : Gr rows held n W) (hn : n ≤ 40) : Tm (.tup (held.map encH)) 2 600 := by
  have h1 : ∀ t ∈ held.map encH, Tm t 1 64 := fun t ht => by
    obtain ⟨h, hh, rfl⟩ := List.mem_map.mp ht
    exact (Tm.tup (ints_tm (n := n) (by omega) fun x hx => g.hel h hh x hx)).mono (Nat.le_refl _) (g.hlen h hh)
  have h2 := Tm.tup (TmL.of h1)
  have := g.few
  rw [List.length_map] at h2
  exact h2.mono (Nat.le_refl _) (by omega)
theorem place_tm {rows : List (List (Option Int))} {held : List (List Int)} {n W : Nat} (g : Gr rows held n W) (hn : n ≤ 40) (hW : W ≤ 8) {w : Int} (w0 : 0 ≤ w) (w1 : w ≤ 100) : Tm (.tup [.int w, .tup (rows.map encR), .tup (held.map encH)]) 3 1100 :=
  Tm.tup (.cons (w := 0) (v := 1050) ((Tm.int (by omega) (by omega)).mono (Nat.zero_le _) (Nat.le_refl _)) (.cons (w := 400) (v := 601) (rows_tm g hn hW) (.cons (w := 600) (v := 0) (held_tm g hn) .nil)))
theorem noReach {rows : List (List (Option Int))} {i : Int} : i ∈ ([] : List Int) ↔ Reach rows [[]] i := by
  refine ⟨fun h => (nomatch h), fun r => ?_⟩
  induction r with
  | base a b => rw [List.mem_singleton.mp a] at b; exact b
  | step a b ih => cases ih
theorem grEmpty {rows : List (List (Option Int))} {held : List (List Int)} {n W : Nat} (g : Gr rows held n W) : Gr rows [[]] n W :=
  ⟨g.len, g.ent, fun h hh i hi => (by rw [List.mem_singleton.mp hh] at hi; cases hi), fun h hh => (by rw [List.mem_singleton.mp hh]; exact Nat.zero_le _), by simp⟩
end L2.TV

set_option maxHeartbeats 1000000
/-! Reached, drawn heaps: the laws' and the program's shared defs. -/
namespace L2.TV
open PySem PySem.Spec PyProof.Rows
namespace Sh
def d_reachable_from : FD := ⟨["slots", "held"], 7, [.par [2, 3] [.newK, .lc2 (.var 4) (.name 5) (.e (.var 1)) none (.name 4) (.e (.var 5)) none [5, 4] [4]],
    .whl (.cmp .ne (.peek 3) (.lst [])) [.setv 4 (.pop 3 none),
    .ite (.cmp .notin (.var 4) (.peek 2)) [.six (.peek 2) (.var 4) (.bl true),
    .mext 3 (.lc (.var 6) (.name 6) (.e (.ix (.var 0) (.var 4))) (some (.cmp .isnot (.var 6) .non)) [6])] []],
    .ret (.fn .tuple [.fn .sorted [.peek 2]])]⟩
def d__law_reached : FD := ⟨["_law_slots", "_law_held"], 8, [.set 2 (.lst []),
    .for_ (.name 3) (.e (.var 1)) [.mext 2 (.fn .list [.var 3])],
    .set 2 (.fn .sortset [.peek 2]),
    .for_ (.name 4) (.range1 (.fn .len [.var 0])) [.set 5 (.fn .list [.peek 2]),
    .for_ (.name 6) (.e (.var 2)) [.mext 5 (.lc (.var 7) (.name 7) (.e (.ix (.var 0) (.var 6))) (some (.cmp .isnot (.var 7) .non)) [7])],
    .set 2 (.fn .sortset [.peek 5])],
    .ret (.var 2)]⟩
def d__law_heap : FD := ⟨["_law_pot_here", "_law_objects", "_law_threads"], 10, [.par [7, 8] [.bin .add (.int 1) (.call "_law_take" [.var 0, .int 4]), .call "_law_take" [.var 0, .bin .add (.var 1) (.int 1)]],
    .set 3 (.lst []),
    .for_ (.name 4) (.range1 (.var 8)) [.mapp 3 (.fn .tuple [.lc (.call "_law_of" [.var 0, .bin .add (.lst [.non]) (.rng true (.var 8) none)]) (.name 9) (.range1 (.var 7)) none [9]])],
    .set 5 (.lst []),
    .for_ (.name 6) (.range1 (.bin .add (.int 1) (.call "_law_take" [.var 0, .var 2]))) [.mapp 5 (.fn .tuple [.lc (.var 4) (.name 4) (.range1 (.var 8)) (some (.cmp .eq (.call "_law_take" [.var 0, .int 3]) (.int 0))) [4]])],
    .ret (.tup [.var 7, .fn .tuple [.peek 3], .fn .tuple [.peek 5]])]⟩
end Sh
def fk (found : List Int) : List (Key × T) := found.map fun i => (.inl i, .bl true)
theorem fk_keys (found : List Int) : keysI (fk found) = some found := by
  induction found with
  | nil => rfl
  | cons a l ih =>
    show (keysI (fk l)).map (a :: ·) = _
    rw [ih]; rfl
theorem fk_in (found : List Int) (i : Int) : inB (.int i) (.dk (fk found)) = some (decide (i ∈ found)) := by
  simp only [inB, Option.some.injEq]
  induction found with
  | nil => rfl
  | cons a l ih =>
    show (decide (Sum.inl a = Sum.inl i) || (fk l).any _) = _
    rw [ih]
    by_cases h : a = i
    · subst h; simp
    · have : ¬ i = a := fun e => h e.symm
      simp [h, this]
theorem fk_put {found : List Int} {i : Int} (h : i ∉ found) : putT (fk found) (.inl i) (.bl true) = fk (found ++ [i]) := by
  have : ((fk found).any fun kv => decide (kv.1 = Sum.inl i)) = false := by
    have := fk_in found i
    simp only [inB, Option.some.injEq] at this
    rw [this]; simp [h]
  unfold putT
  rw [this]
  simp [fk]
theorem flat_len {rows : List (List (Option Int))} {held : List (List Int)} {n W : Nat} (g : Gr rows held n W) : held.flatten.length ≤ 512 := by
  have : ∀ l : List (List Int), (∀ h ∈ l, h.length ≤ 64) → l.flatten.length ≤ l.length * 64 := by
    intro l hl
    induction l with
    | nil => simp
    | cons a l ih =>
      have := ih fun h hh => hl h (List.mem_cons_of_mem _ hh)
      have := hl a List.mem_cons_self
      simp only [List.flatten_cons, List.length_append, List.length_cons]
      omega
  have := this held g.hlen
  have := g.few
  omega
theorem from_C {G : Cfg} {n W : Nat} {rows : List (List (Option Int))} {held : List (List Int)} {sto : List Cell} {P : T → List Cell → Prop} (hG : G.fuel = 1000) (g : Gr rows held n W) (hn : n ≤ 40) (hW : W ≤ 8) {L : List Int} (hL : Inc L) (hm : ∀ i, i ∈ L ↔ Reach rows held i) (q : P (.tup (L.map .int)) sto) :
    OkC (runF G Sh.d_reachable_from [.tup (rows.map encR), .tup (held.map encH)] sto) P := by
  refine runF_ok' (env := [.val (.tup (rows.map encR)), .val (.tup (held.map encH)), .none, .none, .none, .none, .none]) rfl (by decide) rfl ?_
  refine Ok1.seq ?_
  simp
  have z1 : held.flatten.length ≤ 512 := by
    have : ∀ l : List (List Int), (∀ h ∈ l, h.length ≤ 64) → l.flatten.length ≤ l.length * 64 := by
      intro l hl
      induction l with
      | nil => simp
      | cons a l ih =>
        have := ih fun h hh => hl h (List.mem_cons_of_mem _ hh)
        have := hl a List.mem_cons_self
        simp only [List.flatten_cons, List.length_append, List.length_cons]
        omega
    have := this held g.hlen
    have := g.few
    omega
  refine lc2_at (ts := held.map encH) (s1 := ⟨[.val (.tup (rows.map encR)), .val (.tup (held.map encH)), .none, .none, .none, .none, .none], sto⟩) (by simp) rfl ?_
  refine Ok1.turns2 (j := 0) (fun j s acc => (∃ v4 v5, s = ⟨[.val (.tup (rows.map encR)), .val (.tup (held.map encH)), .none, .none, v4, v5, .none], sto⟩) ∧ acc = ((held.map (List.map T.int)).take j).flatten) ⟨⟨_, _, rfl⟩, rfl⟩ (fun i t s acc ht ⟨⟨v4, v5, e1⟩, e2⟩ => ?_) fun s acc ⟨⟨v4, v5, e1⟩, e2⟩ => ?_
  · subst e1 e2
    rw [Nat.zero_add]
    rw [List.getElem?_map, Option.map_eq_some_iff] at ht
    obtain ⟨h, ht, rfl⟩ := ht
    refine ⟨[.val (.tup (rows.map encR)), .val (.tup (held.map encH)), .none, .none, .none, .val (encH h), .none], rfl, ?_⟩
    simp [encH]
    have tk : (held.map (List.map T.int)).take (i + 1) = (held.map (List.map T.int)).take i ++ [h.map T.int] := by rw [List.take_succ, List.getElem?_map, ht]; rfl
    rw [tk, List.flatten_append]
    have hil : i < held.length := (List.getElem?_eq_some_iff.mp ht).1
    have ta : ((held.map (List.map T.int)).take i).flatten.length ≤ 512 := by
      have e : ((held.map (List.map T.int)).take i).flatten ++ ((held.map (List.map T.int)).drop i).flatten = (held.map (List.map T.int)).flatten := by rw [← List.flatten_append, List.take_append_drop]
      have := congrArg List.length e
      rw [List.length_append, ← List.map_flatten, List.length_map] at this
      omega
    obtain ⟨Q, hQ⟩ : ∃ Q, Q = ((held.map (List.map T.int)).take i).flatten := ⟨_, rfl⟩
    rw [← hQ] at ta ⊢
    refine Ok1.turns (j := 0) (fun j s acc => (∃ v4, s = ⟨[.val (.tup (rows.map encR)), .val (.tup (held.map encH)), .none, .none, v4, .val (encH h), .none], sto⟩) ∧ acc = Q ++ (h.map T.int).take j) ⟨⟨_, rfl⟩, by simp⟩ (fun i2 t s acc ht2 ⟨⟨v4, e1⟩, e2⟩ => ?_) fun s acc ⟨⟨v4, e1⟩, e2⟩ => ?_
    · subst e1 e2
      rw [Nat.zero_add]
      refine ⟨[.val (.tup (rows.map encR)), .val (.tup (held.map encH)), .none, .none, .val t, .val (encH h), .none], rfl, ?_⟩
      have tk2 : (h.map T.int).take (i2 + 1) = (h.map T.int).take i2 ++ [t] := by rw [List.take_succ, ht2]; rfl
      simp
      have h64 := g.hlen h (List.mem_of_getElem? ht)
      exact ⟨by omega, tk2.symm⟩
    · subst e1 e2
      rw [Nat.zero_add, List.take_length]
      exact ⟨⟨_, _, rfl⟩, by simp⟩
  · subst e1 e2
    rw [Nat.zero_add, List.length_map, List.take_of_length_le (by simp)]
    rw [← List.map_flatten]
    have sz : (held.flatten.map T.int).length = held.flatten.length := List.length_map _
    show Ok1 (exs G _ ⟨[.val (.tup (rows.map encR)), .val (.tup (held.map encH)), .ownK (fk []), .own (held.flatten.map .int), .none, .none, .none], sto⟩) _
    refine Ok1.seq ?_
    rw [x_whl]
    have il : ∀ {l : List Int}, (∀ i ∈ l, Reach rows held i) → eqB (.lst (l.map .int)) (.lst []) = some (decide (l = [])) := fun {l} h => by
      have := eqL_nil (ints_tm (n := n) (by omega) fun x hx => (h x hx).in_ g) (by decide)
      simpa using this
    refine Ok1.whl (n := G.fuel) (m := held.flatten.length + W * n) (fun m s => ∃ (v4 : Slot) (found wait : List Int), s = ⟨[.val (.tup (rows.map encR)), .val (.tup (held.map encH)), .ownK (fk found), .own (wait.map .int), v4, .none, .none], sto⟩ ∧ found.Nodup ∧ (∀ i ∈ found, Reach rows held i) ∧ (∀ i ∈ wait, Reach rows held i) ∧
      (∀ h ∈ held, ∀ i ∈ h, i ∈ found ∨ i ∈ wait) ∧ (∀ i ∈ found, ∀ j ∈ succ rows i, j ∈ found ∨ j ∈ wait) ∧ m = wait.length + W * (n - found.length) ∧ m ≤ 900) (fun m s ⟨v4, found, wait, e, i1, i2, i3, i4, i5, i6, i7⟩ => ?_) ?_ ?_
    · subst e
      simp [il i3]
      refine ⟨fun hw => ?_, fun hw => ?_⟩
      · refine Ok1.seq ?_
        rcases List.eq_nil_or_concat wait with e | ⟨w, x, e⟩
        · exact absurd e hw
        rw [List.concat_eq_append] at e
        subst e
        simp
        have rx : Reach rows held x := i3 x (by simp)
        obtain ⟨x0, x1⟩ := rx.in_ g
        refine Ok1.seq ?_
        simp [fk_in]
        have lf := range_len i1 fun i hi => (i2 i hi).in_ g
        rw [List.length_append, List.length_cons, List.length_nil] at i6
        by_cases hf : x ∈ found
        · rw [if_pos hf]
          simp
          refine ⟨_, ?_, (.val (.int x)), found, w, ⟨rfl, rfl, rfl⟩, i1, i2, fun i hi => i3 i (by simp [hi]), fun h hh i hi => ?_, fun i hi j hj => ?_, rfl, ?_⟩
          · omega
          · rcases i4 h hh i hi with a | a
            · exact .inl a
            · rcases List.mem_append.mp a with a | a
              · exact .inr a
              · rw [List.mem_singleton.mp a]; exact .inl hf
          · rcases i5 i hi j hj with a | a
            · exact .inl a
            · rcases List.mem_append.mp a with a | a
              · exact .inr a
              · rw [List.mem_singleton.mp a]; exact .inl hf
          · omega
        · rw [if_neg hf]
          have lf2 := range_len (n := n) (l := x :: found) (List.nodup_cons.mpr ⟨hf, i1⟩) fun i hi => by
            rcases List.mem_cons.mp hi with e | e
            · rw [e]; exact ⟨x0, x1⟩
            · exact (i2 i e).in_ g
          rw [List.length_cons] at lf2
          refine Ok1.seq ?_
          have z : (fk found).length < 16777216 := by unfold fk; rw [List.length_map]; omega
          simp [keyT, z, fk_put hf]
          refine Ok1.seq ?_
          simp
          have ex : ixT (.tup (rows.map encR)) (.int x) = some (encR (rowAt rows x)) := (g.row x0 x1).2
          have sl := succ_len g x0 x1
          have rl := (g.ent _ (g.row x0 x1).1).1
          refine lc_pure (ts := (rowAt rows x).map encO) (s1 := ⟨[.val (.tup (rows.map encR)), .val (.tup (held.map encH)), .ownK (fk (found ++ [x])), .own (w.map .int), .val (.int x), .none, .none], sto⟩) isI (fun t => t) ?_ rfl (fun t ht e he => ?_) (by rw [List.length_map, sizeLine_eq]; omega) ?_
          · simp [ex]
            rfl
          · refine ⟨_, rfl, ?_⟩
            have he' : wipeE e [6] = [.val (.tup (rows.map encR)), .val (.tup (held.map encH)), .ownK (fk (found ++ [x])), .own (w.map .int), .val (.int x), .none, .none] := he
            rw [he']
            obtain ⟨o, ho, rfl⟩ := List.mem_map.mp ht
            cases o with
            | none =>
              simp [encO, isB, isI]
              rfl
            | some i =>
              simp [encO, isB, isI]
              rfl
          · rw [filter_succ]
            have zz : w.length + (List.filterMap id (rowAt rows x)).length ≤ 16777216 := by
              have : (List.filterMap id (rowAt rows x)).length ≤ 8 := Nat.le_trans sl hW
              omega
            have ef : List.map ((fun t => t) ∘ T.int) (List.filterMap id (rowAt rows x)) = (succ rows x).map .int := rfl
            simp [zz]
            have sx : n - found.length = (n - (found.length + 1)) + 1 := by omega
            have sm : W * (n - found.length) = W * (n - (found.length + 1)) + W := by rw [sx, Nat.mul_add, Nat.mul_one]
            refine ⟨_, ?_, .val (.int x), found ++ [x], w ++ succ rows x, ⟨rfl, by rw [ef, List.map_append], rfl⟩, ?_, fun i hi => ?_, fun i hi => ?_, fun h hh i hi => ?_, fun i hi j hj => ?_, rfl, ?_⟩
            · simp only [List.length_append, List.length_cons, List.length_nil, Nat.zero_add]; omega
            · refine List.nodup_append.mpr ⟨i1, by simp, fun a ha b hb => ?_⟩
              rw [List.mem_singleton.mp hb]
              intro e; exact hf (e ▸ ha)
            · rcases List.mem_append.mp hi with a | a
              · exact i2 i a
              · rw [List.mem_singleton.mp a]; exact rx
            · rcases List.mem_append.mp hi with a | a
              · exact i3 i (by simp [a])
              · exact .step rx a
            · rcases i4 h hh i hi with a | a
              · exact .inl (by simp [a])
              · rcases List.mem_append.mp a with a | a
                · exact .inr (by simp [a])
                · rw [List.mem_singleton.mp a]; exact .inl (by simp)
            · rcases List.mem_append.mp hi with a | a
              · rcases i5 i a j hj with a | a
                · exact .inl (by simp [a])
                · rcases List.mem_append.mp a with a | a
                  · exact .inr (by simp [a])
                  · rw [List.mem_singleton.mp a]; exact .inl (by simp)
              · rw [List.mem_singleton.mp a] at hj
                exact .inr (by simp [hj])
            · simp only [List.length_append, List.length_cons, List.length_nil, Nat.zero_add]; omega
      · subst hw
        have lf := range_len i1 fun i hi => (i2 i hi).in_ g
        have lf' : found.length < 64 := by omega
        have es : sortT (.dk (fk found)) = some (.l ((sortL found).map .int)) := by
          simp only [sortT, fk_keys]
          rw [if_pos lf']
        have eL : sortL found = L := inc_ext (sortL_inc i1) hL fun x => by
          rw [sortL_mem, hm]
          exact ⟨i2 x, fun r => reach_all (fun h hh i hi => (i4 h hh i hi).resolve_right (by simp)) (fun i hi j hj => (i5 i hi j hj).resolve_right (by simp)) r⟩
        refine Ok1.seq ?_
        simp [es, eL]
        exact q
    · rw [hG]
      have := Nat.mul_le_mul hW hn
      omega
    · refine ⟨_, [], held.flatten, rfl, List.nodup_nil, fun i hi => (nomatch hi), fun i hi => ?_, fun h hh i hi => .inr (List.mem_flatten.mpr ⟨h, hh, hi⟩), fun i hi => (nomatch hi), by simp, ?_⟩
      · obtain ⟨h, hh, hi⟩ := List.mem_flatten.mp hi
        exact .base hh hi
      · have := Nat.mul_le_mul hW hn
        omega
theorem take_flat {α : Type} {l : List (List α)} {i : Nat} {h : List α} (e : l[i]? = some h) : (l.take (i + 1)).flatten = (l.take i).flatten ++ h := by
  rw [List.take_succ, e]; simp
theorem take_flat_len {α : Type} (l : List (List α)) (i : Nat) : (l.take i).flatten.length ≤ l.flatten.length := by
  have e : (l.take i).flatten ++ (l.drop i).flatten = l.flatten := by rw [← List.flatten_append, List.take_append_drop]
  have := congrArg List.length e
  rw [List.length_append] at this
  omega
theorem reached_C {G : Cfg} {n W : Nat} {rows : List (List (Option Int))} {held : List (List Int)} {sto : List Cell} {P : T → List Cell → Prop} (g : Gr rows held n W) (hn : n ≤ 40) (hW : W ≤ 8) (q : ∀ L, Inc L → (∀ i, i ∈ L ↔ Reach rows held i) → P (.lst (L.map .int)) sto) :
    OkC (runF G Sh.d__law_reached [.tup (rows.map encR), .tup (held.map encH)] sto) P := by
  have fl := flat_len g
  have z0 : ∀ {a : Nat}, a ≤ 2000 → a ≤ 16777216 := fun h => by omega
  refine runF_ok' (env := [.val (.tup (rows.map encR)), .val (.tup (held.map encH)), .none, .none, .none, .none, .none, .none]) rfl (by decide) rfl ?_
  refine Ok1.seq ?_
  simp
  refine Ok1.seq ?_
  rw [x_for]
  simp
  refine Ok1.for_ (j := 0) (fun j s => ∃ v3, s = ⟨[.val (.tup (rows.map encR)), .val (.tup (held.map encH)), .own ((held.take j).flatten.map .int), v3, .none, .none, .none, .none], sto⟩) ⟨_, rfl⟩ (fun j t s hj ⟨v3, e⟩ => ?_) fun s ⟨v3, e⟩ => ?_
  · subst e
    rw [Nat.zero_add]
    rw [List.getElem?_map, Option.map_eq_some_iff] at hj
    obtain ⟨h, hj, rfl⟩ := hj
    refine ⟨[.val (.tup (rows.map encR)), .val (.tup (held.map encH)), .own ((held.take j).flatten.map .int), .val (encH h), .none, .none, .none, .none], rfl, ?_⟩
    refine Ok1.seq ?_
    have h1 := take_flat_len held j
    have h2 := g.hlen h (List.mem_of_getElem? hj)
    rw [take_flat hj]
    obtain ⟨Q, hQ⟩ : ∃ Q, Q = (held.take j).flatten := ⟨_, rfl⟩
    rw [← hQ] at h1 ⊢
    have z : Q.length + h.length ≤ 16777216 := z0 (by omega)
    simp [encH, z]
  · subst e
    rw [Nat.zero_add, List.length_map, List.take_length]
    have hin : ∀ x ∈ held.flatten, 0 ≤ x ∧ x < n := fun x hx => by
      obtain ⟨h, hh, hx⟩ := List.mem_flatten.mp hx
      exact g.hel h hh x hx
    have hb : ∀ h ∈ held, ∀ i ∈ h, i ∈ held.flatten := fun h hh i hi => List.mem_flatten.mpr ⟨h, hh, hi⟩
    have hr : ∀ i ∈ held.flatten, Reach rows held i := fun i hi => by
      obtain ⟨h, hh, hi⟩ := List.mem_flatten.mp hi
      exact .base hh hi
    obtain ⟨F0, hF0⟩ : ∃ F0, F0 = held.flatten := ⟨_, rfl⟩
    rw [← hF0] at hin hb hr fl ⊢
    have ss := sortset_ints hin (by omega) (by omega)
    refine Ok1.seq ?_
    simp [ss]
    refine Ok1.seq ?_
    rw [x_for]
    have h62 : ok62 (n : Int) = true := by unfold ok62; simp; omega
    have es : evSrc G (.range1 (.fn .len [.var 0])) ⟨[.val (.tup (rows.map encR)), .val (.tup (held.map encH)), .own ((sortL (dd F0)).map .int), v3, .none, .none, .none, .none], sto⟩ = .ok (rangeL 0 n) ⟨[.val (.tup (rows.map encR)), .val (.tup (held.map encH)), .own ((sortL (dd F0)).map .int), v3, .none, .none, .none, .none], sto⟩ := by
      have lt : lenT (.tup (rows.map encR)) = some (.v (.int n)) := by simp only [lenT, List.length_map, g.len]
      simp only [src_r1, e_fn1, e_var, rdVar, List.getElem?_cons_zero, R.bind, Rt.res, Rt.t, fnT, lt, R.opt, h62, if_true]
    rw [es]
    simp only [rbind_ok]
    refine Ok1.for_ (j := 0) (fun j s => ∃ (v3 v4 v5 v6 : Slot) (F : List Int), s = ⟨[.val (.tup (rows.map encR)), .val (.tup (held.map encH)), .own (F.map .int), v3, v4, v5, v6, .none], sto⟩ ∧ Inc F ∧ (∀ i ∈ F, Reach rows held i) ∧ (∀ h ∈ held, ∀ i ∈ h, i ∈ F) ∧ ((∀ i ∈ F, ∀ k ∈ succ rows i, k ∈ F) ∨ j ≤ F.length))
      ⟨_, _, _, _, sortL (dd F0), rfl, sorted_set_inc _, fun i hi => hr i (sorted_set_mem.mp hi), fun h hh i hi => sorted_set_mem.mpr (hb h hh i hi), .inr (Nat.zero_le _)⟩ (fun j t s hj ⟨v3, v4, v5, v6, F, e, i1, i2, i3, i4⟩ => ?_) fun s ⟨v3, v4, v5, v6, F, e, i1, i2, i3, i4⟩ => ?_
    · subst e
      rw [Nat.zero_add] at i4 ⊢
      refine ⟨[.val (.tup (rows.map encR)), .val (.tup (held.map encH)), .own (F.map .int), v3, .val t, v5, v6, .none], rfl, ?_⟩
      have lF := range_len (inc_nodup i1) fun i hi => (i2 i hi).in_ g
      refine Ok1.seq ?_
      simp
      refine Ok1.seq ?_
      rw [x_for]
      simp
      refine Ok1.for_ (j := 0) (fun j s => ∃ (v6 : Slot) (M : List Int), s = ⟨[.val (.tup (rows.map encR)), .val (.tup (held.map encH)), .val (.lst (F.map .int)), v3, .val t, .own (M.map .int), v6, .none], sto⟩ ∧ M = F ++ ((F.map (succ rows)).take j).flatten ∧ M.length ≤ F.length + 8 * j)
        ⟨_, F, rfl, by simp, Nat.le_refl _⟩ (fun j2 t2 s hj2 ⟨v6, M, e, m1, m2⟩ => ?_) fun s ⟨v6, M, e, m1, m2⟩ => ?_
      · subst e
        rw [Nat.zero_add] at m1 m2 ⊢
        rw [List.getElem?_map, Option.map_eq_some_iff] at hj2
        obtain ⟨x, hj2, rfl⟩ := hj2
        have hx := List.mem_of_getElem? hj2
        obtain ⟨x0, x1⟩ := (i2 x hx).in_ g
        have hlt := (List.getElem?_eq_some_iff.mp hj2).1
        refine ⟨[.val (.tup (rows.map encR)), .val (.tup (held.map encH)), .val (.lst (F.map .int)), v3, .val t, .own (M.map .int), .val (.int x), .none], rfl, ?_⟩
        refine Ok1.seq ?_
        simp
        have ex : ixT (.tup (rows.map encR)) (.int x) = some (encR (rowAt rows x)) := (g.row x0 x1).2
        have sl := succ_len g x0 x1
        have rl := (g.ent _ (g.row x0 x1).1).1
        refine lc_pure (ts := (rowAt rows x).map encO) (s1 := ⟨[.val (.tup (rows.map encR)), .val (.tup (held.map encH)), .val (.lst (F.map .int)), v3, .val t, .own (M.map .int), .val (.int x), .none], sto⟩) isI (fun t => t) ?_ rfl (fun t' ht e he => ?_) (by rw [List.length_map, sizeLine_eq]; omega) ?_
        · simp [ex]
          rfl
        · refine ⟨_, rfl, ?_⟩
          have he' : wipeE e [7] = [.val (.tup (rows.map encR)), .val (.tup (held.map encH)), .val (.lst (F.map .int)), v3, .val t, .own (M.map .int), .val (.int x), .none] := he
          rw [he']
          obtain ⟨o, ho, rfl⟩ := List.mem_map.mp ht
          cases o with
          | none =>
            simp [encO, isB, isI]
            rfl
          | some i =>
            simp [encO, isB, isI]
            rfl
        · rw [filter_succ]
          have zz : M.length + (List.filterMap id (rowAt rows x)).length ≤ 16777216 := by
            have : (List.filterMap id (rowAt rows x)).length ≤ 8 := Nat.le_trans sl hW
            omega
          have ef : List.map ((fun t => t) ∘ T.int) (List.filterMap id (rowAt rows x)) = (succ rows x).map .int := rfl
          have em : (F.map (succ rows))[j2]? = some (succ rows x) := by rw [List.getElem?_map, hj2]; rfl
          simp [zz]
          refine ⟨_, M ++ succ rows x, ⟨by rw [ef, List.map_append], rfl⟩, ?_, ?_⟩
          · rw [take_flat em, m1, List.append_assoc]
          · rw [List.length_append]; omega
      · subst e
        rw [Nat.zero_add, List.length_map] at m1 m2
        rw [List.take_of_length_le (by simp)] at m1
        have hM : ∀ x, x ∈ M ↔ x ∈ F ∨ ∃ i ∈ F, x ∈ succ rows i := fun x => by
          rw [m1, List.mem_append, List.mem_flatten]
          constructor
          · rintro (a | ⟨l, hl, hx⟩)
            · exact .inl a
            · obtain ⟨i, hi, rfl⟩ := List.mem_map.mp hl
              exact .inr ⟨i, hi, hx⟩
          · rintro (a | ⟨i, hi, hx⟩)
            · exact .inl a
            · exact .inr ⟨_, List.mem_map.mpr ⟨i, hi, rfl⟩, hx⟩
        have rM : ∀ x ∈ M, Reach rows held x := fun x hx => by
          rcases (hM x).mp hx with a | ⟨i, hi, a⟩
          · exact i2 x a
          · exact .step (i2 i hi) a
        have sM := sortset_ints (l := M) (fun x hx => (rM x hx).in_ g) (by omega) (by omega)
        refine Ok1.seq ?_
        simp [sM]
        exact ⟨_, _, _, _, _, ⟨rfl, rfl, rfl, rfl, rfl⟩, sorted_set_inc M, fun i hi => rM i (sorted_set_mem.mp hi), fun h hh i hi => sorted_set_mem.mpr ((hM i).mpr (.inl (i3 h hh i hi))), turn_grows g i1 i2 hM i4⟩
    · subst e
      rw [Nat.zero_add, rangeL_len] at i4
      have cl := full_closed g i1 i2 (by simpa using i4)
      refine Ok1.seq ?_
      simp
      exact q F i1 fun i => ⟨i2 i, reach_all i3 cl⟩
theorem heap_C {G G1 G2 G3 : Cfg} {a k m : Nat} {sto : List Cell} {P : T → List Cell → Prop} (HT : HasD G "_law_take" Sh.d__law_take G1) (HO : HasD G "_law_of" Sh.d__law_of G2) (HO1 : HasD G2 "_law_take" Sh.d__law_take G3) (hp : Pot a k sto) (hk : k < 2 ^ 40) (hm : m ≤ 12)
    (q : ∀ rows held n W (w : Int) sto', Gr rows held n W → n ≤ 12 → W ≤ 4 → 1 ≤ w ∧ w ≤ 4 → held ≠ [] → Pot a (k + 120) sto' → P (.tup [.int w, .tup (rows.map encR), .tup (held.map encH)]) sto') :
    OkC (runF G Sh.d__law_heap [.ref a, .int m, .int 4] sto) P := by
  refine runF_ok' (env := [.val (.ref a), .val (.int m), .val (.int 4), .none, .none, .none, .none, .none, .none, .none]) rfl (by decide) rfl ?_
  refine Ok1.seq ?_
  simp
  refine take_call HT hp (by omega) (by decide) (by decide) fun d1 sto1 d10 d11 p1 => ?_
  simp
  refine take_call HT p1 (by omega) (by omega) (by omega) fun d2 sto2 d20 d21 p2 => ?_
  obtain ⟨w, hw⟩ : ∃ w : Int, w = 1 + d1 := ⟨_, rfl⟩
  rw [← hw]
  have w1 : 1 ≤ w := by omega
  have w4 : w ≤ 4 := by omega
  have d12 : d2 ≤ 12 := by omega
  clear hp p1 hw d11
  simp
  refine Ok1.seq ?_
  simp
  refine Ok1.seq ?_
  rw [x_for]
  have h62 : ok62 d2 = true := by unfold ok62; simp; omega
  have w62 : ok62 w = true := by unfold ok62; simp; omega
  simp [h62]
  have hz : (rangeL 0 d2).length ≤ 12 := by rw [rangeL_len]; omega
  have hr : rngT true 0 d2 = some (.l (rangeL 0 d2)) := by unfold rngT; rw [if_pos ⟨by decide, by decide, by omega, by omega, by omega⟩]; rfl
  have ha : addT (.lst [.non]) (.lst (rangeL 0 d2)) = some (.l (.non :: rangeL 0 d2)) := by
    simp only [addT]
    rw [if_pos (by rw [List.length_cons, List.length_nil, sizeLine_eq]; omega)]
    rfl
  refine Ok1.for_ (j := 0) (fun j s => ∃ (v4 : Slot) (rows : List (List (Option Int))), s.env = [.val (.ref a), .val (.int m), .val (.int 4), .own (rows.map encR), v4, .none, .none, .val (.int w), .val (.int d2), .none] ∧ v4.isOwn = false ∧ rows.length = j ∧ (∀ r ∈ rows, r.length ≤ 4 ∧ ∀ x ∈ r, ∀ i, x = some i → 0 ≤ i ∧ i < d2) ∧ Pot a (k + 2 + 4 * j) s.sto)
    ⟨.none, [], rfl, rfl, rfl, fun r hr => (nomatch hr), p2⟩ (fun j t s hj ⟨v4, rows, e1, e0, e2, e3, e4⟩ => ?_) fun s ⟨v4, rows, e1, e0, e2, e3, e4⟩ => ?_
  · obtain ⟨env, sto3⟩ := s
    simp only at e1 e4
    subst e1
    rw [Nat.zero_add] at e2 e4 ⊢
    obtain ⟨i, rfl, i0, i1⟩ := mem_rangeL (List.mem_of_getElem? hj)
    have hj' : j < 12 := by
      have := (List.getElem?_eq_some_iff.mp hj).1
      omega
    refine ⟨[.val (.ref a), .val (.int m), .val (.int 4), .own (rows.map encR), .val (.int i), .none, .none, .val (.int w), .val (.int d2), .none], rfl, ?_⟩
    refine Ok1.seq ?_
    simp
    refine lc_inv (ts := rangeL 0 w) (s1 := ⟨[.val (.ref a), .val (.int m), .val (.int 4), .own (rows.map encR), .val (.int i), .none, .none, .val (.int w), .val (.int d2), .none], sto3⟩)
      (fun i sto acc => Pot a (k + 2 + 4 * j + i) sto ∧ ∃ r : List (Option Int), acc = r.map encO ∧ r.length ≤ i ∧ ∀ x ∈ r, ∀ i, x = some i → 0 ≤ i ∧ i < d2) (by simp [w62]) rfl ⟨e4, [], rfl, Nat.le_refl _, fun r hr => (nomatch hr)⟩ (fun i2 t2 sto4 acc ht ⟨q1, r, q2, q3, q4⟩ => ?_) ?_ fun sto4 acc ⟨q1, r, q2, q3, q4⟩ _ => ?_
    · subst q2
      have hi2 : i2 < 4 := by
        have := (List.getElem?_eq_some_iff.mp ht).1
        rw [rangeL_len] at this
        omega
      refine ⟨[.val (.ref a), .val (.int m), .val (.int 4), .own (rows.map encR), .val (.int i), .none, .none, .val (.int w), .val (.int d2), .val t2], rfl, ?_⟩
      simp [hr, ha]
      refine ⟨rfl, ?_⟩
      refine of_call (x := .l (.non :: rangeL 0 d2)) (s := ⟨[.val (.ref a), .val (.int m), .val (.int 4), .own (rows.map encR), .val (.int i), .none, .none, .val (.int w), .val (.int d2), .val t2], sto4⟩) (n := a) (k := k + 2 + 4 * j + i2) (t := .lst (.non :: rangeL 0 d2)) (l := .non :: rangeL 0 d2) HO HO1 q1 (by omega) rfl (.inl rfl) (by simp) (by rw [List.length_cons]; omega) (fun _ y hy => ?_) fun y sto5 hy hp5 => ?_
      · rcases List.mem_cons.mp hy with e | e
        · subst e; rfl
        · obtain ⟨i, rfl, _⟩ := mem_rangeL e
          rfl
      · obtain ⟨o, rfl, ho⟩ : ∃ o : Option Int, y = encO o ∧ ∀ i, o = some i → 0 ≤ i ∧ i < d2 := by
          rcases List.mem_cons.mp hy with e | e
          · exact ⟨none, e, fun i h => by cases h⟩
          · obtain ⟨i, e, z0, z1⟩ := mem_rangeL e
            exact ⟨some i, e, fun i' h => by cases h; exact ⟨z0, z1⟩⟩
        refine ⟨_, rfl, rfl, hp5, r ++ [o], by simp, by rw [List.length_append, List.length_cons, List.length_nil]; omega, fun x hx => ?_⟩
        rcases List.mem_append.mp hx with e | e
        · exact q4 x e
        · rw [List.mem_singleton.mp e]; exact ho
    · rw [rangeL_len, sizeLine_eq]; omega
    · subst q2
      rw [rangeL_len] at q1 q3
      have z : rows.length < 16777216 := by omega
      simp [tupT, z]
      refine ⟨_, rows ++ [r], ⟨by rw [List.map_append]; rfl, rfl⟩, rfl, by rw [List.length_append]; simp [e2], fun r' hr' => ?_, q1.mono (by omega)⟩
      rcases List.mem_append.mp hr' with e | e
      · exact e3 r' e
      · rw [List.mem_singleton.mp e]; exact ⟨by omega, q4⟩
  · obtain ⟨env, sto3⟩ := s
    simp only at e1 e4
    subst e1
    rw [Nat.zero_add, rangeL_len] at e2 e4
    have e4' := e4.mono (k' := k + 50) (by omega)
    refine Ok1.seq ?_
    simp
    refine Ok1.seq ?_
    rw [x_for]
    simp
    refine take_call HT e4' (by omega) (by decide) (by decide) fun d5 sto5 d50 d51 p5 => ?_
    have h62' : ok62 (1 + d5) = true := by unfold ok62; simp; omega
    simp [h62']
    refine Ok1.for_ (j := 0) (fun j s => ∃ (v6 : Slot) (held : List (List Int)), s.env = [.val (.ref a), .val (.int m), .val (.int 4), .own (rows.map encR), v4, .own (held.map encH), v6, .val (.int w), .val (.int d2), .none] ∧ held.length = j ∧ (∀ h ∈ held, h.length ≤ 12 ∧ ∀ i ∈ h, 0 ≤ i ∧ i < d2) ∧ Pot a (k + 51 + 12 * j) s.sto)
      ⟨_, [], rfl, rfl, fun r hr => (nomatch hr), p5⟩ (fun j t s hj ⟨v6, held, e1, f2, f3, f4⟩ => ?_) fun s ⟨v6, held, e1, f2, f3, f4⟩ => ?_
    · obtain ⟨env, sto6⟩ := s
      simp only at e1 f4
      subst e1
      rw [Nat.zero_add] at f2 f4 ⊢
      have hj' : j < 4 := by
        have := (List.getElem?_eq_some_iff.mp hj).1
        rw [rangeL_len] at this
        omega
      refine ⟨[.val (.ref a), .val (.int m), .val (.int 4), .own (rows.map encR), v4, .own (held.map encH), .val t, .val (.int w), .val (.int d2), .none], rfl, ?_⟩
      refine Ok1.seq ?_
      simp
      refine lc_inv (ts := rangeL 0 d2) (s1 := ⟨[.val (.ref a), .val (.int m), .val (.int 4), .own (rows.map encR), v4, .own (held.map encH), .val t, .val (.int w), .val (.int d2), .none], sto6⟩)
        (fun i sto acc => Pot a (k + 51 + 12 * j + i) sto ∧ ∃ h : List Int, acc = h.map .int ∧ h.length ≤ i ∧ ∀ i ∈ h, 0 ≤ i ∧ i < d2) (by simp [h62]) (by simp [e0]) ⟨f4, [], rfl, Nat.le_refl _, fun r hr => (nomatch hr)⟩ (fun i2 t2 sto7 acc ht ⟨q1, h, q2, q3, q4⟩ => ?_) ?_ fun sto7 acc ⟨q1, h, q2, q3, q4⟩ _ => ?_
      · subst q2
        have hi2 : i2 < 12 := by
          have := (List.getElem?_eq_some_iff.mp ht).1
          omega
        obtain ⟨i, rfl, z0, z1⟩ := mem_rangeL (List.mem_of_getElem? ht)
        refine ⟨[.val (.ref a), .val (.int m), .val (.int 4), .own (rows.map encR), .val (.int i), .own (held.map encH), .val t, .val (.int w), .val (.int d2), .none], rfl, ?_⟩
        simp
        refine take_call (n := a) (k := k + 51 + 12 * j + i2) HT q1 (by omega) (by decide) (by decide) fun d sto8 d0 d1 p3 => ?_
        simp
        refine ⟨rfl, fun _ => ⟨rfl, p3, h ++ [i], by simp, by rw [List.length_append, List.length_cons, List.length_nil]; omega, fun x hx => ?_⟩, fun _ => ⟨p3, h, rfl, by omega, q4⟩⟩
        rcases List.mem_append.mp hx with e | e
        · exact q4 x e
        · rw [List.mem_singleton.mp e]; exact ⟨z0, z1⟩
      · rw [sizeLine_eq]; omega
      · subst q2
        rw [rangeL_len] at q1 q3
        have z : held.length < 16777216 := by omega
        simp [tupT, z]
        refine ⟨_, held ++ [h], ⟨by rw [List.map_append]; rfl, rfl⟩, by rw [List.length_append]; simp [f2], fun r' hr' => ?_, q1.mono (by omega)⟩
        rcases List.mem_append.mp hr' with e | e
        · exact f3 r' e
        · rw [List.mem_singleton.mp e]; exact ⟨by omega, q4⟩
    · obtain ⟨env, sto6⟩ := s
      simp only at e1 f4
      subst e1
      rw [Nat.zero_add, rangeL_len] at f2 f4
      refine Ok1.seq ?_
      have z3 : 3 ≤ sizeLine := by rw [sizeLine_eq]; decide
      simp [tupT, z3]
      obtain ⟨n, hn⟩ : ∃ n : Nat, (n : Int) = d2 := ⟨d2.toNat, by omega⟩
      obtain ⟨W, hW⟩ : ∃ W : Nat, (W : Int) = w := ⟨w.toNat, by omega⟩
      have := q rows held n 4 w sto6 ⟨by omega, fun r hr => ⟨(e3 r hr).1, fun x hx i hi => by have := (e3 r hr).2 x hx i hi; omega⟩, fun h hh i hi => by have := (f3 h hh).2 i hi; omega, fun h hh => by have := (f3 h hh).1; omega, by omega⟩ (by omega) (by decide) ⟨by omega, by omega⟩ (fun z => by rw [z, List.length_nil] at f2; omega) (f4.mono (by omega))
      exact this
end L2.TV

/-! The top's run where it asks the one habit that a world leaves open (a dict's str keys): both answers. -/
namespace L2.TV
open PySem PySem.Spec PyProof.Rows
/-- the world with that habit's answer put in -/
def ftW (w : World) (b : Bool) : World := ⟨w.draws, { w.params with followText := fun x => bif x == "special-get-raises" then b else w.params.followText x }⟩
theorem ftW_self (w : World) : ftW w (w.params.followText "special-get-raises") = w := by
  have : (fun x => bif x == "special-get-raises" then w.params.followText "special-get-raises" else w.params.followText x) = w.params.followText := by
    funext x
    by_cases h : x = "special-get-raises"
    · subst h; rfl
    · rw [show (x == "special-get-raises") = false from by simpa using h]; rfl
  unfold ftW
  rw [this]
theorem run_ft {r : PySem.W.OpenRow} {q : Program} {H : PySem.W.Hook} {ob : PySem.W.SharedT → H.α} {M : Nat} {loose : List PySem.Str} (h1 : ∀ w, HandSHeadRun.RunEq r q H ob M loose (ftW w true)) (h0 : ∀ w, HandSHeadRun.RunEq r q H ob M loose (ftW w false)) (w : World) : HandSHeadRun.RunEq r q H ob M loose w := by
  have z : ∀ b, HandSHeadRun.RunEq r q H ob M loose (ftW w b) := fun b => by
    cases b
    · exact h0 w
    · exact h1 w
  have := z (w.params.followText "special-get-raises")
  rwa [ftW_self] at this
end L2.TV

set_option maxHeartbeats 1000000
/-! A calculus in which what comes next stands folded: one simp runs on until a call, a loop, a block or an open test stands first. -/
namespace L2.TV
open PySem PySem.Spec PyProof.Rows
section
variable {α β : Type} {G : Cfg} {s : S}

def Kb2 (o : Bop) (y : Rt) (P : Rt → S → Prop) : Rt → S → Prop := fun x s => Ok1 (match y.res s, x.res s with
    | some t, some u => R.opt (binT o t u) s
    | _, _ => .bad) P
@[simp] theorem Kb2_ap {o : Bop} {y : Rt} {P : Rt → S → Prop} {x : Rt} : Kb2 o y P x s = Ok1 (match y.res s, x.res s with
    | some t, some u => R.opt (binT o t u) s
    | _, _ => .bad) P := rfl
def Kb1 (G : Cfg) (o : Bop) (b : IE) (P : Rt → S → Prop) : Rt → S → Prop := fun x s => Ok1 ((ev G b s).bind fun y s2 => match x.res s2, y.res s2 with
    | some t, some u => R.opt (binT o t u) s2
    | _, _ => .bad) P
@[simp] theorem Kb1_ap {G : Cfg} {o : Bop} {b : IE} {P : Rt → S → Prop} {x : Rt} : Kb1 G o b P x s = Ok1 (ev G b s) (Kb2 o x P) := by unfold Kb1; first | (rw [ok1_bind]; rfl) | rfl
@[simp ↓] theorem w_bin {o : Bop} {a b : IE} {P : Rt → S → Prop} : Ok1 (ev G (.bin o a b) s) P = Ok1 (ev G a s) (Kb1 G o b P) := by rw [e_bin, ok1_bind]; rfl
def Kc2 (o : Cop) (y : Rt) (P : Rt → S → Prop) : Rt → S → Prop := fun x s => Ok1 (match y.res s, x.res s with
    | some t, some u => R.opt ((cmpT o t u).map fun k => .v (.bl k)) s
    | _, _ => .bad) P
@[simp] theorem Kc2_ap {o : Cop} {y : Rt} {P : Rt → S → Prop} {x : Rt} : Kc2 o y P x s = Ok1 (match y.res s, x.res s with
    | some t, some u => R.opt ((cmpT o t u).map fun k => .v (.bl k)) s
    | _, _ => .bad) P := rfl
def Kc1 (G : Cfg) (o : Cop) (b : IE) (P : Rt → S → Prop) : Rt → S → Prop := fun x s => Ok1 ((ev G b s).bind fun y s2 => match x.res s2, y.res s2 with
    | some t, some u => R.opt ((cmpT o t u).map fun k => .v (.bl k)) s2
    | _, _ => .bad) P
@[simp] theorem Kc1_ap {G : Cfg} {o : Cop} {b : IE} {P : Rt → S → Prop} {x : Rt} : Kc1 G o b P x s = Ok1 (ev G b s) (Kc2 o x P) := by unfold Kc1; first | (rw [ok1_bind]; rfl) | rfl
@[simp ↓] theorem w_cmp {o : Cop} {a b : IE} {P : Rt → S → Prop} : Ok1 (ev G (.cmp o a b) s) P = Ok1 (ev G a s) (Kc1 G o b P) := by rw [e_cmp, ok1_bind]; rfl
theorem e_chn (o p : Cop) (a b c : IE) : ev G (.chn o p a b c) s = (ev G a s).bind fun x s1 => (ev G b s1).bind fun y s2 => match x.res s2, y.t with
    | some t, some u => (R.opt (cmpT o t u) s2).bind fun k s3 =>
      if k then (ev G c s3).bind fun z s4 => match z.res s4 with
        | some w => R.opt ((cmpT p u w).map fun k => .v (.bl k)) s4
        | _ => .bad
      else .ok (.v (.bl false)) s3
    | _, _ => .bad := by simp only [ev] <;> rfl
def Kn3 (p : Cop) (u : T) (P : Rt → S → Prop) : Rt → S → Prop := fun x s => Ok1 (match x.res s with
        | some w => R.opt ((cmpT p u w).map fun k => .v (.bl k)) s
        | _ => .bad) P
@[simp] theorem Kn3_ap {p : Cop} {u : T} {P : Rt → S → Prop} {x : Rt} : Kn3 p u P x s = Ok1 (match x.res s with
        | some w => R.opt ((cmpT p u w).map fun k => .v (.bl k)) s
        | _ => .bad) P := rfl
def KnB (G : Cfg) (p : Cop) (u : T) (c : IE) (P : Rt → S → Prop) : Bool → S → Prop := fun k s => Ok1 (if k then (ev G c s).bind fun z s4 => match z.res s4 with
        | some w => R.opt ((cmpT p u w).map fun k => .v (.bl k)) s4
        | _ => .bad
      else .ok (.v (.bl false)) s) P
@[simp] theorem KnB_t {p : Cop} {u : T} {c : IE} {P : Rt → S → Prop} : KnB G p u c P true s = Ok1 (ev G c s) (Kn3 p u P) := by unfold KnB; rw [if_pos rfl, ok1_bind]; rfl
@[simp] theorem KnB_f {p : Cop} {u : T} {c : IE} {P : Rt → S → Prop} : KnB G p u c P false s = P (.v (.bl false)) s := rfl
def Kn2 (G : Cfg) (o : Cop) (p : Cop) (c : IE) (y : Rt) (P : Rt → S → Prop) : Rt → S → Prop := fun x s => Ok1 (match y.res s, x.t with
    | some t, some u => (R.opt (cmpT o t u) s).bind fun k s3 =>
      if k then (ev G c s3).bind fun z s4 => match z.res s4 with
        | some w => R.opt ((cmpT p u w).map fun k => .v (.bl k)) s4
        | _ => .bad
      else .ok (.v (.bl false)) s3
    | _, _ => .bad) P
theorem Kn2_ap {G : Cfg} {o : Cop} {p : Cop} {c : IE} {y : Rt} {P : Rt → S → Prop} {x : Rt} : Kn2 G o p c y P x s = Ok1 (match y.res s, x.t with
    | some t, some u => (R.opt (cmpT o t u) s).bind fun k s3 =>
      if k then (ev G c s3).bind fun z s4 => match z.res s4 with
        | some w => R.opt ((cmpT p u w).map fun k => .v (.bl k)) s4
        | _ => .bad
      else .ok (.v (.bl false)) s3
    | _, _ => .bad) P := rfl
theorem Kn2_go {o p : Cop} {c : IE} {x y : Rt} {P : Rt → S → Prop} {t u : T} (h : y.res s = some t) (h2 : x.t = some u) : Kn2 G o p c y P x s = Ok1 (R.opt (cmpT o t u) s) (KnB G p u c P) := by unfold Kn2; rw [h, h2]; simp only [ok1_bind]; rfl
@[simp] theorem Kn2_vv {o p : Cop} {c : IE} {t u : T} {P : Rt → S → Prop} : Kn2 G o p c (.v t) P (.v u) s = Ok1 (R.opt (cmpT o t u) s) (KnB G p u c P) := Kn2_go rfl rfl
def Kn1 (G : Cfg) (o : Cop) (p : Cop) (b : IE) (c : IE) (P : Rt → S → Prop) : Rt → S → Prop := fun x s => Ok1 ((ev G b s).bind fun y s2 => match x.res s2, y.t with
    | some t, some u => (R.opt (cmpT o t u) s2).bind fun k s3 =>
      if k then (ev G c s3).bind fun z s4 => match z.res s4 with
        | some w => R.opt ((cmpT p u w).map fun k => .v (.bl k)) s4
        | _ => .bad
      else .ok (.v (.bl false)) s3
    | _, _ => .bad) P
@[simp] theorem Kn1_ap {G : Cfg} {o : Cop} {p : Cop} {b : IE} {c : IE} {P : Rt → S → Prop} {x : Rt} : Kn1 G o p b c P x s = Ok1 (ev G b s) (Kn2 G o p c x P) := by unfold Kn1; first | (rw [ok1_bind]; rfl) | rfl
@[simp ↓] theorem w_chn {o p : Cop} {a b c : IE} {P : Rt → S → Prop} : Ok1 (ev G (.chn o p a b c) s) P = Ok1 (ev G a s) (Kn1 G o p b c P) := by rw [e_chn, ok1_bind]; rfl
def KaB (G : Cfg) (b : IE) (t : T) (P : Rt → S → Prop) : Bool → S → Prop := fun k s => Ok1 (if k then ev G b s else .ok (.v t) s) P
@[simp] theorem KaB_t {b : IE} {t : T} {P : Rt → S → Prop} : KaB G b t P true s = Ok1 (ev G b s) P := rfl
@[simp] theorem KaB_f {b : IE} {t : T} {P : Rt → S → Prop} : KaB G b t P false s = P (.v t) s := rfl
def KoB (G : Cfg) (b : IE) (t : T) (P : Rt → S → Prop) : Bool → S → Prop := fun k s => Ok1 (if k then .ok (.v t) s else ev G b s) P
@[simp] theorem KoB_t {b : IE} {t : T} {P : Rt → S → Prop} : KoB G b t P true s = P (.v t) s := rfl
@[simp] theorem KoB_f {b : IE} {t : T} {P : Rt → S → Prop} : KoB G b t P false s = Ok1 (ev G b s) P := rfl
def Ka (G : Cfg) (b : IE) (P : Rt → S → Prop) : Rt → S → Prop := fun x s => Ok1 (match x.t with
    | some t => (R.opt (truth t) s).bind fun k s2 => if k then ev G b s2 else .ok (.v t) s2
    | none => .bad) P
@[simp] theorem Ka_v {b : IE} {t : T} {P : Rt → S → Prop} : Ka G b P (.v t) s = Ok1 (R.opt (truth t) s) (KaB G b t P) := by unfold Ka; simp only [t_v, ok1_bind]; rfl
@[simp] theorem Ka_l {b : IE} {t : List T} {P : Rt → S → Prop} : Ka G b P (.l t) s = Ok1 (R.opt (truth (.lst t)) s) (KaB G b (.lst t) P) := by unfold Ka; simp only [t_l, ok1_bind]; rfl
@[simp ↓] theorem w_and {a b : IE} {P : Rt → S → Prop} : Ok1 (ev G (.and a b) s) P = Ok1 (ev G a s) (Ka G b P) := by rw [e_and, ok1_bind]; rfl
def Ko (G : Cfg) (b : IE) (P : Rt → S → Prop) : Rt → S → Prop := fun x s => Ok1 (match x.t with
    | some t => (R.opt (truth t) s).bind fun k s2 => if k then .ok (.v t) s2 else ev G b s2
    | none => .bad) P
@[simp] theorem Ko_v {b : IE} {t : T} {P : Rt → S → Prop} : Ko G b P (.v t) s = Ok1 (R.opt (truth t) s) (KoB G b t P) := by unfold Ko; simp only [t_v, ok1_bind]; rfl
@[simp] theorem Ko_l {b : IE} {t : List T} {P : Rt → S → Prop} : Ko G b P (.l t) s = Ok1 (R.opt (truth (.lst t)) s) (KoB G b (.lst t) P) := by unfold Ko; simp only [t_l, ok1_bind]; rfl
@[simp ↓] theorem w_or {a b : IE} {P : Rt → S → Prop} : Ok1 (ev G (.or a b) s) P = Ok1 (ev G a s) (Ko G b P) := by rw [e_or, ok1_bind]; rfl
def Kno (P : Rt → S → Prop) : Rt → S → Prop := fun x s => Ok1 (match x.res s with
    | some t => (R.opt (truth t) s).bind fun k s2 => .ok (.v (.bl (!k))) s2
    | none => .bad) P
@[simp] theorem Kno_ap {P : Rt → S → Prop} {x : Rt} : Kno P x s = Ok1 (match x.res s with
    | some t => (R.opt (truth t) s).bind fun k s2 => .ok (.v (.bl (!k))) s2
    | none => .bad) P := rfl
@[simp ↓] theorem w_not {a : IE} {P : Rt → S → Prop} : Ok1 (ev G (.not a) s) P = Ok1 (ev G a s) (Kno P) := by rw [e_not, ok1_bind]; rfl
theorem e_neg (a : IE) : ev G (.neg a) s = (ev G a s).bind fun x s1 => match x.t with
    | some (.int i) => .ok (.v (.int (-i))) s1
    | _ => .bad := by simp only [ev] <;> rfl
def Kng (P : Rt → S → Prop) : Rt → S → Prop := fun x s => Ok1 (match x.t with
    | some (.int i) => .ok (.v (.int (-i))) s
    | _ => .bad) P
@[simp] theorem Kng_ap {P : Rt → S → Prop} {x : Rt} : Kng P x s = Ok1 (match x.t with
    | some (.int i) => .ok (.v (.int (-i))) s
    | _ => .bad) P := rfl
@[simp ↓] theorem w_neg {a : IE} {P : Rt → S → Prop} : Ok1 (ev G (.neg a) s) P = Ok1 (ev G a s) (Kng P) := by rw [e_neg, ok1_bind]; rfl
def Kie (G : Cfg) (a b : IE) (P : Rt → S → Prop) : Bool → S → Prop := fun k s => Ok1 (if k then ev G a s else ev G b s) P
@[simp] theorem Kie_t {a b : IE} {P : Rt → S → Prop} : Kie G a b P true s = Ok1 (ev G a s) P := rfl
@[simp] theorem Kie_f {a b : IE} {P : Rt → S → Prop} : Kie G a b P false s = Ok1 (ev G b s) P := rfl
@[simp ↓] theorem w_ife {c a b : IE} {P : Rt → S → Prop} : Ok1 (ev G (.ife c a b) s) P = Ok1 (evB G c s) (Kie G a b P) := by rw [e_ife, ok1_bind]; rfl
def Kt (P : Rt → S → Prop) : List T → S → Prop := fun x s => Ok1 (if x.length ≤ sizeLine then .ok (.v (.tup x)) s else .bad) P
@[simp] theorem Kt_ap {P : Rt → S → Prop} {x : List T} : Kt P x s = Ok1 (if x.length ≤ sizeLine then .ok (.v (.tup x)) s else .bad) P := rfl
def Kl (P : Rt → S → Prop) : List T → S → Prop := fun x s => Ok1 (if x.length ≤ sizeLine then .ok (.l x) s else .bad) P
@[simp] theorem Kl_ap {P : Rt → S → Prop} {x : List T} : Kl P x s = Ok1 (if x.length ≤ sizeLine then .ok (.l x) s else .bad) P := rfl
@[simp ↓] theorem w_tup {es : List IE} {P : Rt → S → Prop} : Ok1 (ev G (.tup es) s) P = Ok1 (evs G es s) (Kt P) := by rw [e_tup, ok1_bind]; rfl
@[simp ↓] theorem w_lst {es : List IE} {P : Rt → S → Prop} : Ok1 (ev G (.lst es) s) P = Ok1 (evs G es s) (Kl P) := by rw [e_lst, ok1_bind]; rfl
def Ks2 (t : T) (P : List T → S → Prop) : List T → S → Prop := fun x s => P (t :: x) s
@[simp] theorem Ks2_ap {t : T} {P : List T → S → Prop} {x : List T} : Ks2 t P x s = P (t :: x) s := rfl
def Ks1 (G : Cfg) (es : List IE) (P : List T → S → Prop) : Rt → S → Prop := fun x s => Ok1 (match x.t with
    | some t => (evs G es s).bind fun ts s2 => .ok (t :: ts) s2
    | none => .bad) P
@[simp] theorem Ks1_v {es : List IE} {t : T} {P : List T → S → Prop} : Ks1 G es P (.v t) s = Ok1 (evs G es s) (Ks2 (t) P) := by unfold Ks1; simp only [t_v, ok1_bind]; rfl
@[simp] theorem Ks1_l {es : List IE} {t : List T} {P : List T → S → Prop} : Ks1 G es P (.l t) s = Ok1 (evs G es s) (Ks2 (.lst t) P) := by unfold Ks1; simp only [t_l, ok1_bind]; rfl
@[simp] theorem Ks1_k {es : List IE} {t : List (Key × T)} {P : List T → S → Prop} : Ks1 G es P (.k t) s = Ok1 (evs G es s) (Ks2 (.dk t) P) := by unfold Ks1; simp only [t_k, ok1_bind]; rfl
@[simp] theorem Ks1_d {es : List IE} {t : List (List Key × T)} {P : List T → S → Prop} : Ks1 G es P (.d t) s = Ok1 (evs G es s) (Ks2 (.dt t) P) := by unfold Ks1; simp only [t_d, ok1_bind]; rfl
@[simp ↓] theorem w_nil {P : List T → S → Prop} : Ok1 (evs G [] s) P = P [] s := by rw [evs_nil']; rfl
@[simp ↓] theorem w_cons {e : IE} {es : List IE} {P : List T → S → Prop} : Ok1 (evs G (e :: es) s) P = Ok1 (ev G e s) (Ks1 G es P) := by rw [evs_cons, ok1_bind]; rfl
def Ki2 (y : Rt) (P : Rt → S → Prop) : Rt → S → Prop := fun x s => Ok1 (match y.res s, x.t with
    | some (.ref n), some (.int i) => match s.sto[n]? with
      | some (.lst l) => R.opt ((atI l i).map .v) s
      | _ => .bad
    | some t, some u => R.opt ((ixT t u).map .v) s
    | _, _ => .bad) P
@[simp] theorem Ki2_ap {y : Rt} {P : Rt → S → Prop} {x : Rt} : Ki2 y P x s = Ok1 (match y.res s, x.t with
    | some (.ref n), some (.int i) => match s.sto[n]? with
      | some (.lst l) => R.opt ((atI l i).map .v) s
      | _ => .bad
    | some t, some u => R.opt ((ixT t u).map .v) s
    | _, _ => .bad) P := rfl
def Ki1 (G : Cfg) (b : IE) (P : Rt → S → Prop) : Rt → S → Prop := fun x s => Ok1 ((ev G b s).bind fun y s2 => match x.res s2, y.t with
    | some (.ref n), some (.int i) => match s2.sto[n]? with
      | some (.lst l) => R.opt ((atI l i).map .v) s2
      | _ => .bad
    | some t, some u => R.opt ((ixT t u).map .v) s2
    | _, _ => .bad) P
@[simp] theorem Ki1_ap {G : Cfg} {b : IE} {P : Rt → S → Prop} {x : Rt} : Ki1 G b P x s = Ok1 (ev G b s) (Ki2 x P) := by unfold Ki1; first | (rw [ok1_bind]; rfl) | rfl
@[simp ↓] theorem w_ix {a b : IE} {P : Rt → S → Prop} : Ok1 (ev G (.ix a b) s) P = Ok1 (ev G a s) (Ki1 G b P) := by rw [e_ix, ok1_bind]; rfl
def Kz3 (y : Rt) (l : Option Int) (P : Rt → S → Prop) : Option Int → S → Prop := fun x s => Ok1 (match y.res s with
    | some t => R.opt (slT t l x) s
    | none => .bad) P
@[simp] theorem Kz3_ap {y : Rt} {l : Option Int} {P : Rt → S → Prop} {x : Option Int} : Kz3 y l P x s = Ok1 (match y.res s with
    | some t => R.opt (slT t l x) s
    | none => .bad) P := rfl
def Kz2 (G : Cfg) (hi : Option IE) (y : Rt) (P : Rt → S → Prop) : Option Int → S → Prop := fun x s => Ok1 ((evO G hi s).bind fun h s3 => match y.res s3 with
    | some t => R.opt (slT t x h) s3
    | none => .bad) P
@[simp] theorem Kz2_ap {G : Cfg} {hi : Option IE} {y : Rt} {P : Rt → S → Prop} {x : Option Int} : Kz2 G hi y P x s = Ok1 (evO G hi s) (Kz3 y x P) := by unfold Kz2; first | (rw [ok1_bind]; rfl) | rfl
def Kz1 (G : Cfg) (lo : Option IE) (hi : Option IE) (P : Rt → S → Prop) : Rt → S → Prop := fun x s => Ok1 ((evO G lo s).bind fun l s2 => (evO G hi s2).bind fun h s3 => match x.res s3 with
    | some t => R.opt (slT t l h) s3
    | none => .bad) P
@[simp] theorem Kz1_ap {G : Cfg} {lo : Option IE} {hi : Option IE} {P : Rt → S → Prop} {x : Rt} : Kz1 G lo hi P x s = Ok1 (evO G lo s) (Kz2 G hi x P) := by unfold Kz1; first | (rw [ok1_bind]; rfl) | rfl
@[simp ↓] theorem w_sl {a : IE} {lo hi : Option IE} {P : Rt → S → Prop} : Ok1 (ev G (.sl a lo hi) s) P = Ok1 (ev G a s) (Kz1 G lo hi P) := by rw [e_sl, ok1_bind]; rfl
def KO (P : Option Int → S → Prop) : Rt → S → Prop := fun x s => Ok1 (match x.t with
    | some (.int i) => .ok (some i) s
    | _ => .bad) P
@[simp] theorem KO_ap {P : Option Int → S → Prop} {x : Rt} : KO P x s = Ok1 (match x.t with
    | some (.int i) => .ok (some i) s
    | _ => .bad) P := rfl
@[simp ↓] theorem w_O0 {P : Option Int → S → Prop} : Ok1 (evO G none s) P = P none s := by rw [evO_none]; rfl
@[simp ↓] theorem w_O1 {e : IE} {P : Option Int → S → Prop} : Ok1 (evO G (some e) s) P = Ok1 (ev G e s) (KO P) := by rw [evO_some, ok1_bind]; rfl
theorem e_rev (a : IE) : ev G (.rev a) s = (ev G a s).bind fun x s1 => match x.res s1 with
    | some (.tup l) => .ok (.v (.tup l.reverse)) s1
    | some (.lst l) => .ok (.l l.reverse) s1
    | _ => .bad := by simp only [ev] <;> rfl
def Krv (P : Rt → S → Prop) : Rt → S → Prop := fun x s => Ok1 (match x.res s with
    | some (.tup l) => .ok (.v (.tup l.reverse)) s
    | some (.lst l) => .ok (.l l.reverse) s
    | _ => .bad) P
@[simp] theorem Krv_ap {P : Rt → S → Prop} {x : Rt} : Krv P x s = Ok1 (match x.res s with
    | some (.tup l) => .ok (.v (.tup l.reverse)) s
    | some (.lst l) => .ok (.l l.reverse) s
    | _ => .bad) P := rfl
@[simp ↓] theorem w_rev {a : IE} {P : Rt → S → Prop} : Ok1 (ev G (.rev a) s) P = Ok1 (ev G a s) (Krv P) := by rw [e_rev, ok1_bind]; rfl
def Kf1 (f : Fn) (P : Rt → S → Prop) : Rt → S → Prop := fun x s => Ok1 (match x.res s with
      | some t => R.opt (fnT f [t]) s
      | none => .bad) P
@[simp] theorem Kf1_ap {f : Fn} {P : Rt → S → Prop} {x : Rt} : Kf1 f P x s = Ok1 (match x.res s with
      | some t => R.opt (fnT f [t]) s
      | none => .bad) P := rfl
@[simp ↓] theorem w_fn1 {f : Fn} {a : IE} {P : Rt → S → Prop} : Ok1 (ev G (.fn f [a]) s) P = Ok1 (ev G a s) (Kf1 f P) := by rw [e_fn1, ok1_bind]; rfl
def Kf2b (f : Fn) (y : Rt) (P : Rt → S → Prop) : Rt → S → Prop := fun x s => Ok1 (match y.res s, x.res s with
      | some t, some u => R.opt (fnT f [t, u]) s
      | _, _ => .bad) P
@[simp] theorem Kf2b_ap {f : Fn} {y : Rt} {P : Rt → S → Prop} {x : Rt} : Kf2b f y P x s = Ok1 (match y.res s, x.res s with
      | some t, some u => R.opt (fnT f [t, u]) s
      | _, _ => .bad) P := rfl
def Kf2a (G : Cfg) (f : Fn) (b : IE) (P : Rt → S → Prop) : Rt → S → Prop := fun x s => Ok1 ((ev G b s).bind fun y s2 => match x.res s2, y.res s2 with
      | some t, some u => R.opt (fnT f [t, u]) s2
      | _, _ => .bad) P
@[simp] theorem Kf2a_ap {G : Cfg} {f : Fn} {b : IE} {P : Rt → S → Prop} {x : Rt} : Kf2a G f b P x s = Ok1 (ev G b s) (Kf2b f x P) := by unfold Kf2a; first | (rw [ok1_bind]; rfl) | rfl
@[simp ↓] theorem w_fn2 {f : Fn} {a b : IE} {P : Rt → S → Prop} : Ok1 (ev G (.fn f [a, b]) s) P = Ok1 (ev G a s) (Kf2a G f b P) := by rw [e_fn2, ok1_bind]; rfl
theorem e_isi (a : IE) (ks : List Kd) : ev G (.isi a ks) s = (ev G a s).bind fun x s1 => match x.t with
    | some t => match ks with
      | [k] => R.opt ((kdT k t).map fun b => .v (.bl b)) s1
      | _ => .bad
    | none => .bad := by simp only [ev] <;> rfl
def Kis (ks : List Kd) (P : Rt → S → Prop) : Rt → S → Prop := fun x s => Ok1 (match x.t with
    | some t => match ks with
      | [k] => R.opt ((kdT k t).map fun b => .v (.bl b)) s
      | _ => .bad
    | none => .bad) P
@[simp] theorem Kis_ap {ks : List Kd} {P : Rt → S → Prop} {x : Rt} : Kis ks P x s = Ok1 (match x.t with
    | some t => match ks with
      | [k] => R.opt ((kdT k t).map fun b => .v (.bl b)) s
      | _ => .bad
    | none => .bad) P := rfl
@[simp ↓] theorem w_isi {a : IE} {ks : List Kd} {P : Rt → S → Prop} : Ok1 (ev G (.isi a ks) s) P = Ok1 (ev G a s) (Kis ks P) := by rw [e_isi, ok1_bind]; rfl
theorem e_disp (vs : List IE) (ks : List KE) : ev G (.dispK vs ks) s = (evKV G vs ks s).bind fun kvs s1 => if kvs.length ≤ 15 then .ok (.k (mergeT [] kvs)) s1 else .bad := by simp only [ev] <;> rfl
def Kdi (P : Rt → S → Prop) : List (Key × T) → S → Prop := fun x s => Ok1 (if x.length ≤ 15 then .ok (.k (mergeT [] x)) s else .bad) P
@[simp] theorem Kdi_ap {P : Rt → S → Prop} {x : List (Key × T)} : Kdi P x s = Ok1 (if x.length ≤ 15 then .ok (.k (mergeT [] x)) s else .bad) P := rfl
@[simp ↓] theorem w_disp {vs : List IE} {ks : List KE} {P : Rt → S → Prop} : Ok1 (ev G (.dispK vs ks) s) P = Ok1 (evKV G vs ks s) (Kdi P) := by rw [e_disp, ok1_bind]; rfl
theorem evKV_nil : evKV G [] [] s = .ok [] s := by simp only [evKV] <;> rfl
theorem evKV_cons (v : IE) (vs : List IE) (k : KE) (ks : List KE) : evKV G (v :: vs) (k :: ks) s = match keyE G k with
    | none => .bad
    | some kk => (ev G v s).bind fun y s2 => match y.t with
      | none => .bad
      | some u => (evKV G vs ks s2).bind fun r s3 => .ok ((kk, u) :: r) s3 := by simp only [evKV] <;> rfl
def Kv2 (k : Key) (t : T) (P : List (Key × T) → S → Prop) : List (Key × T) → S → Prop := fun x s => P ((k, t) :: x) s
@[simp] theorem Kv2_ap {k : Key} {t : T} {P : List (Key × T) → S → Prop} {x : List (Key × T)} : Kv2 k t P x s = P ((k, t) :: x) s := rfl
def Kv1 (G : Cfg) (k : Key) (vs : List IE) (ks : List KE) (P : List (Key × T) → S → Prop) : Rt → S → Prop := fun x s => Ok1 (match x.t with
      | none => .bad
      | some u => (evKV G vs ks s).bind fun r s3 => .ok ((k, u) :: r) s3) P
@[simp] theorem Kv1_v {k : Key} {vs : List IE} {ks : List KE} {t : T} {P : List (Key × T) → S → Prop} : Kv1 G k vs ks P (.v t) s = Ok1 (evKV G vs ks s) (Kv2 k (t) P) := by unfold Kv1; simp only [t_v, ok1_bind]; rfl
@[simp] theorem Kv1_l {k : Key} {vs : List IE} {ks : List KE} {t : List T} {P : List (Key × T) → S → Prop} : Kv1 G k vs ks P (.l t) s = Ok1 (evKV G vs ks s) (Kv2 k (.lst t) P) := by unfold Kv1; simp only [t_l, ok1_bind]; rfl
@[simp] theorem Kv1_k {k : Key} {vs : List IE} {ks : List KE} {t : List (Key × T)} {P : List (Key × T) → S → Prop} : Kv1 G k vs ks P (.k t) s = Ok1 (evKV G vs ks s) (Kv2 k (.dk t) P) := by unfold Kv1; simp only [t_k, ok1_bind]; rfl
@[simp] theorem Kv1_d {k : Key} {vs : List IE} {ks : List KE} {t : List (List Key × T)} {P : List (Key × T) → S → Prop} : Kv1 G k vs ks P (.d t) s = Ok1 (evKV G vs ks s) (Kv2 k (.dt t) P) := by unfold Kv1; simp only [t_d, ok1_bind]; rfl
@[simp ↓] theorem w_kv0 {P : List (Key × T) → S → Prop} : Ok1 (evKV G [] [] s) P = P [] s := by rw [evKV_nil]; rfl
@[simp ↓] theorem w_kvs {v : IE} {vs : List IE} {x : String} {ks : List KE} {P : List (Key × T) → S → Prop} : Ok1 (evKV G (v :: vs) (.s x :: ks) s) P = Ok1 (ev G v s) (Kv1 G (.inr (Str.ofString x)) vs ks P) := by rw [evKV_cons]; simp only [keyE]; rw [ok1_bind]; rfl
@[simp ↓] theorem w_kvi {v : IE} {vs : List IE} {x : Int} {ks : List KE} {P : List (Key × T) → S → Prop} : Ok1 (evKV G (v :: vs) (.i x :: ks) s) P = Ok1 (ev G v s) (Kv1 G (.inl x) vs ks P) := by rw [evKV_cons]; simp only [keyE]; rw [ok1_bind]; rfl
theorem w_kvc {v : IE} {vs : List IE} {x : String} {k : Key} {ks : List KE} {P : List (Key × T) → S → Prop} (h : keyE G (.c x) = some k) : Ok1 (evKV G (v :: vs) (.c x :: ks) s) P = Ok1 (ev G v s) (Kv1 G k vs ks P) := by rw [evKV_cons, h]; dsimp only; rw [ok1_bind]; rfl
def Kca (G : Cfg) (f : String) (is : Option (List Nat)) (P : Rt → S → Prop) : List Rt → S → Prop := fun x s => Ok1 (callR G f is x s) P
@[simp] theorem Kca_ap {G : Cfg} {f : String} {is : Option (List Nat)} {P : Rt → S → Prop} {x : List Rt} : Kca G f is P x s = Ok1 (callR G f is x s) P := rfl
@[simp ↓] theorem w_call {f : String} {es : List IE} {P : Rt → S → Prop} : Ok1 (ev G (.call f es) s) P = Ok1 (evL G es s) (Kca G f none P) := by rw [e_call, ok1_bind]; rfl
@[simp ↓] theorem w_callK {f : String} {es : List IE} {is : List Nat} {P : Rt → S → Prop} : Ok1 (ev G (.callK f es is) s) P = Ok1 (evL G es s) (Kca G f (some is) P) := by rw [e_callK, ok1_bind]; rfl
def KL2 (y : Rt) (P : List Rt → S → Prop) : List Rt → S → Prop := fun x s => P (y :: x) s
@[simp] theorem KL2_ap {y : Rt} {P : List Rt → S → Prop} {x : List Rt} : KL2 y P x s = P (y :: x) s := rfl
def KL1 (G : Cfg) (es : List IE) (P : List Rt → S → Prop) : Rt → S → Prop := fun x s => Ok1 ((evL G es s).bind fun xs s2 => .ok (x :: xs) s2) P
@[simp] theorem KL1_ap {G : Cfg} {es : List IE} {P : List Rt → S → Prop} {x : Rt} : KL1 G es P x s = Ok1 (evL G es s) (KL2 x P) := by unfold KL1; first | (rw [ok1_bind]; rfl) | rfl
@[simp ↓] theorem w_L0 {P : List Rt → S → Prop} : Ok1 (evL G [] s) P = P [] s := by rw [evL_nil]; rfl
@[simp ↓] theorem w_L1 {e : IE} {es : List IE} {P : List Rt → S → Prop} : Ok1 (evL G (e :: es) s) P = Ok1 (ev G e s) (KL1 G es P) := by rw [evL_cons, ok1_bind]; rfl
def Kr0 (l : Bool) (P : Rt → S → Prop) : Rt → S → Prop := fun x s => Ok1 (match x.t with
      | some (.int n) => R.opt (rngT l 0 n) s
      | _ => .bad) P
@[simp] theorem Kr0_ap {l : Bool} {P : Rt → S → Prop} {x : Rt} : Kr0 l P x s = Ok1 (match x.t with
      | some (.int n) => R.opt (rngT l 0 n) s
      | _ => .bad) P := rfl
@[simp ↓] theorem w_rng0 {l : Bool} {a : IE} {P : Rt → S → Prop} : Ok1 (ev G (.rng l a none) s) P = Ok1 (ev G a s) (Kr0 l P) := by rw [e_rng0, ok1_bind]; rfl
theorem e_rng1 (l : Bool) (a b : IE) : ev G (.rng l a (some b)) s = (ev G a s).bind fun x s1 => (ev G b s1).bind fun y s2 => match x.t, y.t with
      | some (.int i), some (.int j) => R.opt (rngT l i j) s2
      | _, _ => .bad := by simp only [ev] <;> rfl
def Kr2 (l : Bool) (y : Rt) (P : Rt → S → Prop) : Rt → S → Prop := fun x s => Ok1 (match y.t, x.t with
      | some (.int i), some (.int j) => R.opt (rngT l i j) s
      | _, _ => .bad) P
@[simp] theorem Kr2_ap {l : Bool} {y : Rt} {P : Rt → S → Prop} {x : Rt} : Kr2 l y P x s = Ok1 (match y.t, x.t with
      | some (.int i), some (.int j) => R.opt (rngT l i j) s
      | _, _ => .bad) P := rfl
def Kr1 (G : Cfg) (l : Bool) (b : IE) (P : Rt → S → Prop) : Rt → S → Prop := fun x s => Ok1 ((ev G b s).bind fun y s2 => match x.t, y.t with
      | some (.int i), some (.int j) => R.opt (rngT l i j) s2
      | _, _ => .bad) P
@[simp] theorem Kr1_ap {G : Cfg} {l : Bool} {b : IE} {P : Rt → S → Prop} {x : Rt} : Kr1 G l b P x s = Ok1 (ev G b s) (Kr2 l x P) := by unfold Kr1; first | (rw [ok1_bind]; rfl) | rfl
@[simp ↓] theorem w_rng1 {l : Bool} {a b : IE} {P : Rt → S → Prop} : Ok1 (ev G (.rng l a (some b)) s) P = Ok1 (ev G a s) (Kr1 G l b P) := by rw [e_rng1, ok1_bind]; rfl
def Kce (P : Rt → S → Prop) : List T → S → Prop := fun x s => Ok1 (if x.length ≤ sizeLine then .ok (.v (.ref s.sto.length)) { s with sto := s.sto ++ [.lst x] } else .bad) P
@[simp] theorem Kce_ap {P : Rt → S → Prop} {x : List T} : Kce P x s = Ok1 (if x.length ≤ sizeLine then .ok (.v (.ref s.sto.length)) { s with sto := s.sto ++ [.lst x] } else .bad) P := rfl
@[simp ↓] theorem w_cel {es : List IE} {P : Rt → S → Prop} : Ok1 (ev G (.cel es) s) P = Ok1 (evs G es s) (Kce P) := by rw [e_cel, ok1_bind]; rfl
def Kq (P : Bool → S → Prop) : Rt → S → Prop := fun x s => Ok1 (match x.res s with
    | some t => R.opt (truth t) s
    | none => .bad) P
@[simp] theorem Kq_ap {P : Bool → S → Prop} {x : Rt} : Kq P x s = Ok1 (match x.res s with
    | some t => R.opt (truth t) s
    | none => .bad) P := rfl
def KB1 (G : Cfg) (b : IE) (P : Bool → S → Prop) : Bool → S → Prop := fun k s => Ok1 (if k then evB G b s else .ok false s) P
@[simp] theorem KB1_t {b : IE} {P : Bool → S → Prop} : KB1 G b P true s = Ok1 (evB G b s) P := rfl
@[simp] theorem KB1_f {b : IE} {P : Bool → S → Prop} : KB1 G b P false s = P false s := rfl
def KB2 (G : Cfg) (b : IE) (P : Bool → S → Prop) : Bool → S → Prop := fun k s => Ok1 (if k then .ok true s else evB G b s) P
@[simp] theorem KB2_t {b : IE} {P : Bool → S → Prop} : KB2 G b P true s = P true s := rfl
@[simp] theorem KB2_f {b : IE} {P : Bool → S → Prop} : KB2 G b P false s = Ok1 (evB G b s) P := rfl
def KB3 (P : Bool → S → Prop) : Bool → S → Prop := fun x s => P (!x) s
@[simp] theorem KB3_ap {P : Bool → S → Prop} {x : Bool} : KB3 P x s = P (!x) s := rfl
@[simp ↓] theorem w_Band {a b : IE} {P : Bool → S → Prop} : Ok1 (evB G (.and a b) s) P = Ok1 (evB G a s) (KB1 G b P) := by rw [evB_and, ok1_bind]; rfl
@[simp ↓] theorem w_Bor {a b : IE} {P : Bool → S → Prop} : Ok1 (evB G (.or a b) s) P = Ok1 (evB G a s) (KB2 G b P) := by rw [evB_or, ok1_bind]; rfl
@[simp ↓] theorem w_Bnot {a : IE} {P : Bool → S → Prop} : Ok1 (evB G (.not a) s) P = Ok1 (evB G a s) (KB3 P) := by rw [evB_not, ok1_bind]; rfl
@[simp ↓] theorem w_Bcmp {o : Cop} {a b : IE} {P : Bool → S → Prop} : Ok1 (evB G (.cmp o a b) s) P = Ok1 (ev G (.cmp o a b) s) (Kq P) := by
  have : evB G (.cmp o a b) s = (ev G (.cmp o a b) s).bind fun x s1 => match x.res s1 with
    | some t => R.opt (truth t) s1
    | none => .bad := by simp only [evB] <;> rfl
  rw [this, ok1_bind]; rfl
@[simp ↓] theorem w_Bvar {i : Nat} {P : Bool → S → Prop} : Ok1 (evB G (.var i) s) P = Ok1 (ev G (.var i) s) (Kq P) := by
  have : evB G (.var i) s = (ev G (.var i) s).bind fun x s1 => match x.res s1 with
    | some t => R.opt (truth t) s1
    | none => .bad := by simp only [evB] <;> rfl
  rw [this, ok1_bind]; rfl
@[simp ↓] theorem w_Bpeek {i : Nat} {P : Bool → S → Prop} : Ok1 (evB G (.peek i) s) P = Ok1 (ev G (.peek i) s) (Kq P) := by
  have : evB G (.peek i) s = (ev G (.peek i) s).bind fun x s1 => match x.res s1 with
    | some t => R.opt (truth t) s1
    | none => .bad := by simp only [evB] <;> rfl
  rw [this, ok1_bind]; rfl
@[simp ↓] theorem w_Bcall {f : String} {es : List IE} {P : Bool → S → Prop} : Ok1 (evB G (.call f es) s) P = Ok1 (ev G (.call f es) s) (Kq P) := by
  have : evB G (.call f es) s = (ev G (.call f es) s).bind fun x s1 => match x.res s1 with
    | some t => R.opt (truth t) s1
    | none => .bad := by simp only [evB] <;> rfl
  rw [this, ok1_bind]; rfl
@[simp ↓] theorem w_BcallK {f : String} {es : List IE} {is : List Nat} {P : Bool → S → Prop} : Ok1 (evB G (.callK f es is) s) P = Ok1 (ev G (.callK f es is) s) (Kq P) := by
  have : evB G (.callK f es is) s = (ev G (.callK f es is) s).bind fun x s1 => match x.res s1 with
    | some t => R.opt (truth t) s1
    | none => .bad := by simp only [evB] <;> rfl
  rw [this, ok1_bind]; rfl
@[simp ↓] theorem w_Bfn {f : Fn} {es : List IE} {P : Bool → S → Prop} : Ok1 (evB G (.fn f es) s) P = Ok1 (ev G (.fn f es) s) (Kq P) := by
  have : evB G (.fn f es) s = (ev G (.fn f es) s).bind fun x s1 => match x.res s1 with
    | some t => R.opt (truth t) s1
    | none => .bad := by simp only [evB] <;> rfl
  rw [this, ok1_bind]; rfl
@[simp ↓] theorem w_Bisi {a : IE} {ks : List Kd} {P : Bool → S → Prop} : Ok1 (evB G (.isi a ks) s) P = Ok1 (ev G (.isi a ks) s) (Kq P) := by
  have : evB G (.isi a ks) s = (ev G (.isi a ks) s).bind fun x s1 => match x.res s1 with
    | some t => R.opt (truth t) s1
    | none => .bad := by simp only [evB] <;> rfl
  rw [this, ok1_bind]; rfl
@[simp ↓] theorem w_Bchn {o p : Cop} {a b c : IE} {P : Bool → S → Prop} : Ok1 (evB G (.chn o p a b c) s) P = Ok1 (ev G (.chn o p a b c) s) (Kq P) := by
  have : evB G (.chn o p a b c) s = (ev G (.chn o p a b c) s).bind fun x s1 => match x.res s1 with
    | some t => R.opt (truth t) s1
    | none => .bad := by simp only [evB] <;> rfl
  rw [this, ok1_bind]; rfl
@[simp ↓] theorem w_Bix {a b : IE} {P : Bool → S → Prop} : Ok1 (evB G (.ix a b) s) P = Ok1 (ev G (.ix a b) s) (Kq P) := by
  have : evB G (.ix a b) s = (ev G (.ix a b) s).bind fun x s1 => match x.res s1 with
    | some t => R.opt (truth t) s1
    | none => .bad := by simp only [evB] <;> rfl
  rw [this, ok1_bind]; rfl
@[simp ↓] theorem w_Bbin {o : Bop} {a b : IE} {P : Bool → S → Prop} : Ok1 (evB G (.bin o a b) s) P = Ok1 (ev G (.bin o a b) s) (Kq P) := by
  have : evB G (.bin o a b) s = (ev G (.bin o a b) s).bind fun x s1 => match x.res s1 with
    | some t => R.opt (truth t) s1
    | none => .bad := by simp only [evB] <;> rfl
  rw [this, ok1_bind]; rfl
@[simp ↓] theorem w_Bbl {b : Bool} {P : Bool → S → Prop} : Ok1 (evB G (.bl b) s) P = Ok1 (ev G (.bl b) s) (Kq P) := by
  have : evB G (.bl b) s = (ev G (.bl b) s).bind fun x s1 => match x.res s1 with
    | some t => R.opt (truth t) s1
    | none => .bad := by simp only [evB] <;> rfl
  rw [this, ok1_bind]; rfl
@[simp ↓] theorem w_Bcst {x : String} {P : Bool → S → Prop} : Ok1 (evB G (.cst x) s) P = Ok1 (ev G (.cst x) s) (Kq P) := by
  have : evB G (.cst x) s = (ev G (.cst x) s).bind fun x s1 => match x.res s1 with
    | some t => R.opt (truth t) s1
    | none => .bad := by simp only [evB] <;> rfl
  rw [this, ok1_bind]; rfl
@[simp ↓] theorem w_C0 {P : Bool → S → Prop} : Ok1 (evC G none s) P = P true s := by rw [evC_none]; rfl
@[simp ↓] theorem w_C1 {e : IE} {P : Bool → S → Prop} : Ok1 (evC G (some e) s) P = Ok1 (evB G e s) P := by rw [evC_some]
def Ke (P : List T → S → Prop) : Rt → S → Prop := fun x s => Ok1 (match x.t with
    | some t => R.opt (listOf t) s
    | none => .bad) P
@[simp] theorem Ke_ap {P : List T → S → Prop} {x : Rt} : Ke P x s = Ok1 (match x.t with
    | some t => R.opt (listOf t) s
    | none => .bad) P := rfl
@[simp ↓] theorem w_se {a : IE} {P : List T → S → Prop} : Ok1 (evSrc G (.e a) s) P = Ok1 (ev G a s) (Ke P) := by rw [src_e', ok1_bind]; rfl
def Ken (P : List T → S → Prop) : Rt → S → Prop := fun x s => Ok1 (match x.t with
    | some t => R.opt ((listOf t).map enumL) s
    | none => .bad) P
@[simp] theorem Ken_ap {P : List T → S → Prop} {x : Rt} : Ken P x s = Ok1 (match x.t with
    | some t => R.opt ((listOf t).map enumL) s
    | none => .bad) P := rfl
@[simp ↓] theorem w_sen {a : IE} {P : List T → S → Prop} : Ok1 (evSrc G (.enum a) s) P = Ok1 (ev G a s) (Ken P) := by rw [src_en, ok1_bind]; rfl
inductive Krg (P : List T → S → Prop) (x : Rt) (s : S) : Prop
  | mk : Ok1 (match x.t with
    | some (.int i) => if ok62 i then .ok (rangeL 0 i) s else .bad
    | _ => .bad) P → Krg P x s
theorem Krg_un {P : List T → S → Prop} {x : Rt} {s : S} : (Krg P x s) = Ok1 (match x.t with
    | some (.int i) => if ok62 i then .ok (rangeL 0 i) s else .bad
    | _ => .bad) P := propext ⟨fun ⟨h⟩ => h, fun h => ⟨h⟩⟩
@[simp ↓] theorem w_sr1 {a : IE} {P : List T → S → Prop} : Ok1 (evSrc G (.range1 a) s) P = Ok1 (ev G a s) (Krg P) := by
  rw [src_r1, ok1_bind]
  congr 1
  funext x s
  exact Krg_un.symm
theorem src_r2 (a b : IE) : evSrc G (.range2 a b) s = (ev G a s).bind fun x s1 => (ev G b s1).bind fun y s2 => match x.t, y.t with
    | some (.int i), some (.int j) => if ok62 i && ok62 j then .ok (rangeL i j) s2 else .bad
    | _, _ => .bad := by simp only [evSrc] <;> rfl
inductive Kr2b (y : Rt) (P : List T → S → Prop) (x : Rt) (s : S) : Prop
  | mk : Ok1 (match y.t, x.t with
    | some (.int i), some (.int j) => if ok62 i && ok62 j then .ok (rangeL i j) s else .bad
    | _, _ => .bad) P → Kr2b y P x s
theorem Kr2b_un {P : List T → S → Prop} {y x : Rt} {s : S} : (Kr2b y P x s) = Ok1 (match y.t, x.t with
    | some (.int i), some (.int j) => if ok62 i && ok62 j then .ok (rangeL i j) s else .bad
    | _, _ => .bad) P := propext ⟨fun ⟨h⟩ => h, fun h => ⟨h⟩⟩
def Kr2a (G : Cfg) (b : IE) (P : List T → S → Prop) : Rt → S → Prop := fun x s => Ok1 ((ev G b s).bind fun y s2 => match x.t, y.t with
    | some (.int i), some (.int j) => if ok62 i && ok62 j then .ok (rangeL i j) s2 else .bad
    | _, _ => .bad) P
@[simp] theorem Kr2a_ap {G : Cfg} {b : IE} {P : List T → S → Prop} {x : Rt} : Kr2a G b P x s = Ok1 (ev G b s) (Kr2b x P) := by
  unfold Kr2a
  rw [ok1_bind]
  congr 1
  funext x s
  exact Kr2b_un.symm
@[simp ↓] theorem w_sr2 {a b : IE} {P : List T → S → Prop} : Ok1 (evSrc G (.range2 a b) s) P = Ok1 (ev G a s) (Kr2a G b P) := by rw [src_r2, ok1_bind]; rfl
theorem src_zip (a b : IE) : evSrc G (.zip a b) s = (ev G a s).bind fun x s1 => (ev G b s1).bind fun y s2 => match x.t, y.t with
    | some t, some u => match listOf t, listOf u with
      | some l, some m => .ok (zipL l m) s2
      | _, _ => .bad
    | _, _ => .bad := by simp only [evSrc] <;> rfl
def Kzp2 (y : Rt) (P : List T → S → Prop) : Rt → S → Prop := fun x s => Ok1 (match y.t, x.t with
    | some t, some u => match listOf t, listOf u with
      | some l, some m => .ok (zipL l m) s
      | _, _ => .bad
    | _, _ => .bad) P
@[simp] theorem Kzp2_ap {y : Rt} {P : List T → S → Prop} {x : Rt} : Kzp2 y P x s = Ok1 (match y.t, x.t with
    | some t, some u => match listOf t, listOf u with
      | some l, some m => .ok (zipL l m) s
      | _, _ => .bad
    | _, _ => .bad) P := rfl
def Kzp1 (G : Cfg) (b : IE) (P : List T → S → Prop) : Rt → S → Prop := fun x s => Ok1 ((ev G b s).bind fun y s2 => match x.t, y.t with
    | some t, some u => match listOf t, listOf u with
      | some l, some m => .ok (zipL l m) s2
      | _, _ => .bad
    | _, _ => .bad) P
@[simp] theorem Kzp1_ap {G : Cfg} {b : IE} {P : List T → S → Prop} {x : Rt} : Kzp1 G b P x s = Ok1 (ev G b s) (Kzp2 x P) := by unfold Kzp1; first | (rw [ok1_bind]; rfl) | rfl
@[simp ↓] theorem w_szip {a b : IE} {P : List T → S → Prop} : Ok1 (evSrc G (.zip a b) s) P = Ok1 (ev G a s) (Kzp1 G b P) := by rw [src_zip, ok1_bind]; rfl
/-! ### statements -/
def Kx (G : Cfg) (b : List IS) (P : Fl → S → Prop) : Fl → S → Prop := fun fl s => match fl with
    | .nx => Ok1 (exs G b s) P
    | fl => P fl s
@[simp] theorem Kx_n {b : List IS} {P : Fl → S → Prop} : Kx G b P .nx s = Ok1 (exs G b s) P := rfl
@[simp] theorem Kx_bk {b : List IS} {P : Fl → S → Prop} : Kx G b P .bk s = P .bk s := rfl
@[simp] theorem Kx_ct {b : List IS} {P : Fl → S → Prop} : Kx G b P .ct s = P .ct s := rfl
@[simp] theorem Kx_r {b : List IS} {P : Fl → S → Prop} {t : T} : Kx G b P (.ret t) s = P (.ret t) s := rfl
@[simp ↓] theorem w_x0 {P : Fl → S → Prop} : Ok1 (exs G [] s) P = P .nx s := by rw [xs_nil]; rfl
@[simp ↓] theorem w_x1 {a : IS} {b : List IS} {P : Fl → S → Prop} : Ok1 (exs G (a :: b) s) P = Ok1 (ex G a s) (Kx G b P) := by
  rw [xs_cons, ok1_bind]
  congr 1
  funext fl s1
  cases fl <;> rfl
def Kset (i : Nat) (P : Fl → S → Prop) : Rt → S → Prop := fun x s => Ok1 (setR i x s) P
@[simp] theorem Kset_ap {i : Nat} {P : Fl → S → Prop} {x : Rt} : Kset i P x s = Ok1 (setR i x s) P := rfl
@[simp ↓] theorem w_set {i : Nat} {e : IE} {P : Fl → S → Prop} : Ok1 (ex G (.set i e) s) P = Ok1 (ev G e s) (Kset i P) := by rw [x_set, ok1_bind]; rfl
def Ksv (i : Nat) (P : Fl → S → Prop) : Rt → S → Prop := fun x s => Ok1 (match x.t with
    | some t => .ok .nx (setE s i (.val t))
    | none => .bad) P
@[simp] theorem Ksv_ap {i : Nat} {P : Fl → S → Prop} {x : Rt} : Ksv i P x s = Ok1 (match x.t with
    | some t => .ok .nx (setE s i (.val t))
    | none => .bad) P := rfl
@[simp ↓] theorem w_setv {i : Nat} {e : IE} {P : Fl → S → Prop} : Ok1 (ex G (.setv i e) s) P = Ok1 (ev G e s) (Ksv i P) := by rw [x_setv, ok1_bind]; rfl
def Kpa (is : List Nat) (P : Fl → S → Prop) : List Rt → S → Prop := fun x s => Ok1 (setRs is x s) P
@[simp] theorem Kpa_ap {is : List Nat} {P : Fl → S → Prop} {x : List Rt} : Kpa is P x s = Ok1 (setRs is x s) P := rfl
@[simp ↓] theorem w_par {is : List Nat} {es : List IE} {P : Fl → S → Prop} : Ok1 (ex G (.par is es) s) P = Ok1 (evL G es s) (Kpa is P) := by rw [x_par, ok1_bind]; rfl
def Ktg (g : Tg) (P : Fl → S → Prop) : Rt → S → Prop := fun x s => Ok1 (match x.t with
    | some t => match bindTg g t s.env with
      | some env => .ok .nx { s with env := env }
      | none => .bad
    | none => .bad) P
@[simp] theorem Ktg_ap {g : Tg} {P : Fl → S → Prop} {x : Rt} : Ktg g P x s = Ok1 (match x.t with
    | some t => match bindTg g t s.env with
      | some env => .ok .nx { s with env := env }
      | none => .bad
    | none => .bad) P := rfl
@[simp ↓] theorem w_tg {g : Tg} {e : IE} {P : Fl → S → Prop} : Ok1 (ex G (.tg g e) s) P = Ok1 (ev G e s) (Ktg g P) := by rw [x_tg, ok1_bind]; rfl
def Kex (P : Fl → S → Prop) : Rt → S → Prop := fun x s => P .nx s
@[simp] theorem Kex_ap {P : Fl → S → Prop} {x : Rt} : Kex P x s = P .nx s := rfl
@[simp ↓] theorem w_expr {e : IE} {P : Fl → S → Prop} : Ok1 (ex G (.expr e) s) P = Ok1 (ev G e s) (Kex P) := by rw [x_expr, ok1_bind]; rfl
def Kret (P : Fl → S → Prop) : Rt → S → Prop := fun x s => Ok1 (match x.t with
    | some t => .ok (.ret t) s
    | none => .bad) P
@[simp] theorem Kret_ap {P : Fl → S → Prop} {x : Rt} : Kret P x s = Ok1 (match x.t with
    | some t => .ok (.ret t) s
    | none => .bad) P := rfl
@[simp ↓] theorem w_ret {e : IE} {P : Fl → S → Prop} : Ok1 (ex G (.ret e) s) P = Ok1 (ev G e s) (Kret P) := by rw [x_ret, ok1_bind]; rfl
def Kif (G : Cfg) (a b : List IS) (P : Fl → S → Prop) : Bool → S → Prop := fun k s => Ok1 (if k then exs G a s else exs G b s) P
@[simp] theorem Kif_t {a b : List IS} {P : Fl → S → Prop} : Kif G a b P true s = Ok1 (exs G a s) P := rfl
@[simp] theorem Kif_f {a b : List IS} {P : Fl → S → Prop} : Kif G a b P false s = Ok1 (exs G b s) P := rfl
@[simp ↓] theorem w_ite {c : IE} {a b : List IS} {P : Fl → S → Prop} : Ok1 (ex G (.ite c a b) s) P = Ok1 (evB G c s) (Kif G a b P) := by rw [x_ite, ok1_bind]; rfl
def Kfor (G : Cfg) (g : Tg) (b : List IS) (P : Fl → S → Prop) : List T → S → Prop := fun ts s => Ok1 (forT (fun s => exs G b s) g ts s) P
@[simp ↓] theorem w_for {g : Tg} {src : Src} {b : List IS} {P : Fl → S → Prop} : Ok1 (ex G (.for_ g src b) s) P = Ok1 (evSrc G src s) (Kfor G g b P) := by rw [x_for, ok1_bind]; rfl
@[simp ↓] theorem w_brk {P : Fl → S → Prop} : Ok1 (ex G .brk s) P = P .bk s := by simp only [ex]; rfl
@[simp ↓] theorem w_cont {P : Fl → S → Prop} : Ok1 (ex G .cont s) P = P .ct s := by simp only [ex]; rfl
@[simp ↓] theorem w_pass {P : Fl → S → Prop} : Ok1 (ex G .pass s) P = P .nx s := by simp only [ex]; rfl
def Kap (i : Nat) (P : Fl → S → Prop) : Rt → S → Prop := fun x s1 => Ok1 (match x.t, s1.env[i]? with
      | some t, some (.own l) => if l.length < sizeLine then .ok .nx (setE s1 i (.own (l ++ [t]))) else .bad
      | _, _ => .bad) P
@[simp] theorem Kap_ap {i : Nat} {P : Fl → S → Prop} {x : Rt} : Kap i P x s = Ok1 (match x.t, s.env[i]? with
      | some t, some (.own l) => if l.length < sizeLine then .ok .nx (setE s i (.own (l ++ [t]))) else .bad
      | _, _ => .bad) P := rfl
@[simp ↓] theorem w_mapp {i : Nat} {e : IE} {env : List Slot} {sto : List Cell} {P : Fl → S → Prop} : Ok1 (ex G (.mapp i e) ⟨env, sto⟩) P = if ownL ⟨env, sto⟩ i = true then Ok1 (ev G e ⟨env, sto⟩) (Kap i P) else False := by
  rw [x_mapp]
  split
  · rw [ok1_bind]; rfl
  · rfl
def Kxt (i : Nat) (P : Fl → S → Prop) : Rt → S → Prop := fun x s1 => Ok1 (match x.t, s1.env[i]? with
      | some (.lst m), some (.own l) => if l.length + m.length ≤ sizeLine then .ok .nx (setE s1 i (.own (l ++ m))) else .bad
      | _, _ => .bad) P
@[simp] theorem Kxt_ap {i : Nat} {P : Fl → S → Prop} {x : Rt} : Kxt i P x s = Ok1 (match x.t, s.env[i]? with
      | some (.lst m), some (.own l) => if l.length + m.length ≤ sizeLine then .ok .nx (setE s i (.own (l ++ m))) else .bad
      | _, _ => .bad) P := rfl
@[simp ↓] theorem w_mext {i : Nat} {e : IE} {env : List Slot} {sto : List Cell} {P : Fl → S → Prop} : Ok1 (ex G (.mext i e) ⟨env, sto⟩) P = if ownL ⟨env, sto⟩ i = true then Ok1 (ev G e ⟨env, sto⟩) (Kxt i P) else False := by
  rw [x_mext]
  split
  · rw [ok1_bind]; rfl
  · rfl
/-- what stands in a loop's body's end -/
def Kbd (I : S → Prop) (P : Fl → S → Prop) : Fl → S → Prop := fun fl s => match fl with
  | .nx => I s
  | .ct => I s
  | .bk => P .nx s
  | .ret t => P (.ret t) s
@[simp] theorem Kbd_n {I : S → Prop} {P : Fl → S → Prop} : Kbd I P .nx s = I s := rfl
@[simp] theorem Kbd_c {I : S → Prop} {P : Fl → S → Prop} : Kbd I P .ct s = I s := rfl
@[simp] theorem Kbd_b {I : S → Prop} {P : Fl → S → Prop} : Kbd I P .bk s = P .nx s := rfl
@[simp] theorem Kbd_r {I : S → Prop} {P : Fl → S → Prop} {t : T} : Kbd I P (.ret t) s = P (.ret t) s := rfl
/-- a def's end -/
def Kfn (P : T → List Cell → Prop) : Fl → S → Prop := fun fl s => match fl with
  | .nx => P .non s.sto
  | .ret t => P t s.sto
  | _ => False
@[simp] theorem Kfn_n {P : T → List Cell → Prop} : Kfn P .nx s = P .non s.sto := rfl
@[simp] theorem Kfn_r {P : T → List Cell → Prop} {t : T} : Kfn P (.ret t) s = P t s.sto := rfl
theorem run_C {d : FD} {ts : List T} {sto : List Cell} {P : T → List Cell → Prop} {env : List Slot} (h1 : ts.length = d.params.length) (h2 : d.params.length ≤ d.slots) (he : ts.map .val ++ List.replicate (d.slots - ts.length) .none = env)
    (h : Ok1 (exs G d.body ⟨env, sto⟩) (Kfn P)) : OkC (runF G d ts sto) P := runF_ok' h1 h2 he (h.mono fun fl s q => by cases fl <;> exact q)
/-- a loop over encoded items; J: what the turn is to lead to -/
theorem Kfor_C {γ : Type} {g : Tg} {b : List IS} {P : Fl → S → Prop} (enc : γ → T) (l : List γ) (I : Nat → S → Prop) {s : S} (h0 : I 0 s)
    (step : ∀ j x s (J : S → Prop), l[j]? = some x → I j s → (∀ s, I (j + 1) s → J s) → ∃ env, bindTg g (enc x) s.env = some env ∧ Ok1 (exs G b ⟨env, s.sto⟩) (Kbd J P))
    (fin : ∀ s, I l.length s → P .nx s) : Kfor G g b P (l.map enc) s := by
  refine Ok1.for_ (j := 0) I h0 (fun j t s ht hI => ?_) fun s hI => ?_
  · rw [List.getElem?_map, Option.map_eq_some_iff] at ht
    obtain ⟨x, hx, rfl⟩ := ht
    rw [Nat.zero_add] at hI ⊢
    obtain ⟨env, e1, e2⟩ := step j x s (I (j + 1)) hx hI fun _ h => h
    exact ⟨env, e1, e2.mono fun fl s' q => by cases fl <;> exact q⟩
  · rw [Nat.zero_add, List.length_map] at hI
    exact fin s hI
/-- .. over the items themselves -/
theorem Kfor_T {g : Tg} {b : List IS} {P : Fl → S → Prop} {l : List T} (I : Nat → S → Prop) {s : S} (h0 : I 0 s)
    (step : ∀ j x s (J : S → Prop), l[j]? = some x → I j s → (∀ s, I (j + 1) s → J s) → ∃ env, bindTg g x s.env = some env ∧ Ok1 (exs G b ⟨env, s.sto⟩) (Kbd J P))
    (fin : ∀ s, I l.length s → P .nx s) : Kfor G g b P l s := by
  have := Kfor_C (G := G) (g := g) (b := b) (P := P) id l I h0 step fin
  rwa [List.map_id] at this
theorem Krg_C {P : List T → S → Prop} {x : Rt} {n : Nat} (hx : x = .v (.int (n : Int))) (hn : n ≤ 16777216) (h : P ((List.range n).map fun (k : Nat) => T.int (k : Int)) s) : Krg P x s := by
  have e : ok62 (n : Int) = true := by unfold ok62; simp; omega
  have er : rangeL 0 (n : Int) = (List.range n).map fun (k : Nat) => T.int (k : Int) := by
    unfold rangeL
    have e : ((n : Int) - 0).toNat = n := by omega
    rw [e]
    exact List.map_congr_left fun k _ => by simp
  subst hx
  rw [Krg_un]
  simp only [t_v, e, if_true, ok1_ok]
  rw [er]
  exact h
theorem whl_C {c : IE} {b : List IS} {P : Fl → S → Prop} (I : Nat → S → Prop) {m : Nat} (hm : m < G.fuel) (h0 : I m s)
    (step : ∀ m s (J : S → Prop), I m s → (∀ m' s, m' < m → I m' s → J s) → Ok1 (evB G c s) fun k s1 => (k = true → Ok1 (exs G b s1) (Kbd J P)) ∧ (k = false → P .nx s1)) : Ok1 (ex G (.whl c b) s) P := by
  rw [x_whl]
  exact Ok1.whl I (fun m s hI => (step m s (fun s2 => ∃ m', m' < m ∧ I m' s2) hI fun m' s lt h => ⟨m', lt, h⟩).mono fun k s1 ⟨q1, q2⟩ => ⟨fun hk => (q1 hk).mono fun fl s2 q => by cases fl <;> exact q, q2⟩) hm h0
end
section
variable {α β : Type} {G : Cfg}
/-- .. as an equation -/
theorem Ok1.eq {r : R α} {a : α} {s : S} (h : Ok1 r fun b s' => b = a ∧ s' = s) : r = .ok a s := by
  obtain ⟨b, s', e, rfl, rfl⟩ := h.ok
  exact e
theorem OkC.eq {r : RC} {a : T} {s : List Cell} (h : OkC r fun b s' => b = a ∧ s' = s) : r = .ok a s := by
  obtain ⟨b, s', e, rfl, rfl⟩ := h.ok
  exact e
@[simp] theorem okC_ok (a : T) (s : List Cell) (P : T → List Cell → Prop) : OkC (.ok a s) P = P a s := rfl
/-- a def that answers t -/
theorem runF_eq {d : FD} {ts : List T} {sto : List Cell} {env : List Slot} {t : T} (h1 : ts.length = d.params.length) (h2 : d.params.length ≤ d.slots) (he : ts.map .val ++ List.replicate (d.slots - ts.length) .none = env)
    (h : Ok1 (exs G d.body ⟨env, sto⟩) fun fl s => match fl with
      | .nx => .non = t ∧ s.sto = sto
      | .ret u => u = t ∧ s.sto = sto
      | _ => False) : runF G d ts sto = .ok t sto :=
  (runF_ok' h1 h2 he h).eq
/-- a call whose answer is known, nothing lent -/
theorem call_eq {f : String} {d : FD} {G' : Cfg} {xs : List Rt} {ts : List T} {t : T} {s : S} (H : HasD G f d G') (hr : resL s xs = some ts) (hl : ts.length = d.params.length) (hx : xs.any Rt.lent = false)
    (h : runF G' d ts s.sto = .ok t s.sto) : callR G f none xs s = .ok (.v t) s :=
  Ok1.eq (call_ok H hr hl (by rw [h, okC_ok]; exact ⟨fun z => (by rw [hx] at z; exact Bool.noConfusion z), rfl, rfl⟩))
/-- .. own lists lent, a flat answer -/
theorem call_eqL {f : String} {d : FD} {G' : Cfg} {xs : List Rt} {ts : List T} {t : T} {s : S} (H : HasD G f d G') (hr : resL s xs = some ts) (hl : ts.length = d.params.length) (hf : (t.flat && s.sto.all Cell.flat) = true)
    (h : runF G' d ts s.sto = .ok t s.sto) : callR G f none xs s = .ok (.v t) s :=
  Ok1.eq (call_ok H hr hl (by rw [h, okC_ok]; exact ⟨fun _ => hf, rfl, rfl⟩))
theorem callK_eq {f : String} {d : FD} {G' : Cfg} {is : List Nat} {xs : List Rt} {ts us : List T} {t : T} {s : S} (H : HasD G f d G') (hr : resL s xs = some ts) (hp : pick is ts = us) (hl : us.length = d.params.length) (hx : xs.any Rt.lent = false)
    (h : runF G' d us s.sto = .ok t s.sto) : callR G f (some is) xs s = .ok (.v t) s :=
  Ok1.eq (callK_ok H hr (by rw [hp]; exact hl) (by rw [hp, h, okC_ok]; exact ⟨fun z => (by rw [hx] at z; exact Bool.noConfusion z), rfl, rfl⟩))
/-- a call by its spec -/
theorem call_C {f : String} {d : FD} {G' : Cfg} {xs : List Rt} {ts : List T} {P : Rt → S → Prop} {s : S} (H : HasD G f d G') (hr : resL s xs = some ts) (hl : ts.length = d.params.length) (hx : xs.any Rt.lent = false)
    (h : OkC (runF G' d ts s.sto) fun t sto => P (.v t) { s with sto := sto }) : Ok1 (callR G f none xs s) P :=
  call_ok H hr hl (h.mono fun t sto h => ⟨fun z => (by rw [hx] at z; exact Bool.noConfusion z), h⟩)
end
/-! ### blocks over encoded items -/
/-- what a target does to a frame: the names are set in their order -/
def tgOk (tg : Tg) (own : List Nat) (t : T) (env env' : List Slot) : Prop := ∀ e, wipeE e own = wipeE env own → bindTg tg t (wipeE e own) = some env'
section
variable {α β : Type} {G : Cfg} {elt : IE} {tg : Tg} {src : Src} {cond : Option IE} {own : List Nat} {env : List Slot} {sto : List Cell} {s : S}
/-- a pure block: its list -/
theorem lcE (enc : α → T) (l : List α) (p : α → Bool) (f : α → T) (E : α → List Slot) (hs : evSrc G src s = .ok (l.map enc) ⟨env, sto⟩) (hno : (own.any fun i => (env.getD i .none).isOwn) = false)
    (hb : ∀ x ∈ l, bindTg tg (enc x) (wipeE env own) = some (E x)) (hw : ∀ x ∈ l, wipeE (E x) own = wipeE env own)
    (hc : ∀ x ∈ l, evC G cond ⟨E x, sto⟩ = .ok (p x) ⟨E x, sto⟩)
    (he : ∀ x ∈ l, p x = true → ∃ y, ev G elt ⟨E x, sto⟩ = .ok y ⟨E x, sto⟩ ∧ y.t = some (f x))
    (hz : l.length < sizeLine) : ev G (.lc elt tg src cond own) s = .ok (.l ((l.filter p).map f)) ⟨env, sto⟩ := by
  refine Ok1.eq ?_
  rw [e_lc, hs]
  simp only [rbind_ok]
  rw [hno]
  simp only [Bool.false_eq_true, if_false, ok1_bind, ok1_quiet, ok1_ok]
  refine Ok1.turns (j := 0) (fun i s acc => s.sto = sto ∧ wipeE s.env own = wipeE env own ∧ acc = ((l.take i).filter p).map f) ⟨rfl, rfl, by simp⟩ (fun i t s acc ht hI => ?_) fun s acc hI => ?_
  · obtain ⟨h1, h2, h3⟩ := hI
    rw [Nat.zero_add] at h3 ⊢
    rw [List.getElem?_map, Option.map_eq_some_iff] at ht
    obtain ⟨x, hx, rfl⟩ := ht
    have xm := List.mem_of_getElem? hx
    refine ⟨E x, by rw [h2]; exact hb x xm, ?_⟩
    rw [h1]
    have tk : l.take (i + 1) = l.take i ++ [x] := by rw [List.take_succ, hx]; rfl
    have hil : i < l.length := (List.getElem?_eq_some_iff.mp hx).1
    have al : acc.length < sizeLine := by
      rw [h3, List.length_map]
      have := List.length_filter_le p (l.take i)
      have := List.length_take_le i l
      omega
    rw [hc x xm, ok1_ok]
    refine ⟨fun hk => ?_, fun hk => ⟨rfl, hw x xm, ?_⟩⟩
    · obtain ⟨y, e1, e2⟩ := he x xm hk
      rw [e1]
      simp only [rbind_ok, e2, R.opt_some, ok1_ok]
      refine ⟨al, trivial, hw x xm, ?_⟩
      rw [tk, List.filter_append, List.map_append, h3]
      simp [hk]
    · rw [tk, List.filter_append, List.map_append, h3]
      simp [hk]
  · obtain ⟨h1, h2, h3⟩ := hI
    rw [Nat.zero_add, List.length_map, List.take_length] at h3
    rw [back_same h2, h1, h3]
    exact ⟨rfl, rfl⟩
/-- .. by the calculus -/
theorem lcW (enc : α → T) (l : List α) (p : α → Bool) (f : α → T) (E : α → List Slot) (hs : Ok1 (evSrc G src s) fun ts s' => ts = l.map enc ∧ s' = ⟨env, sto⟩) (hno : (own.any fun i => (env.getD i .none).isOwn) = false)
    (hb : ∀ x ∈ l, bindTg tg (enc x) (wipeE env own) = some (E x)) (hw : ∀ x ∈ l, wipeE (E x) own = wipeE env own)
    (hc : ∀ x ∈ l, Ok1 (evC G cond ⟨E x, sto⟩) fun k s' => k = p x ∧ s' = ⟨E x, sto⟩)
    (he : ∀ x ∈ l, p x = true → Ok1 (ev G elt ⟨E x, sto⟩) fun y s' => y.t = some (f x) ∧ s' = ⟨E x, sto⟩)
    (hz : l.length < 16777216) : ev G (.lc elt tg src cond own) s = .ok (.l ((l.filter p).map f)) ⟨env, sto⟩ := by
  refine lcE enc l p f E hs.eq hno hb hw (fun x hx => (hc x hx).eq) (fun x hx hp => ?_) (by rw [szLine]; exact hz)
  obtain ⟨y, s', e, h1, rfl⟩ := (he x hx hp).ok
  exact ⟨y, e, h1⟩
/-- .. of one name -/
theorem lc1 {i : Nat} (enc : α → T) (l : List α) (p : α → Bool) (f : α → T) (hs : Ok1 (evSrc G src s) fun ts s' => ts = l.map enc ∧ s' = ⟨env, sto⟩) (hno : ((env.getD i .none).isOwn) = false)
    (hc : ∀ x ∈ l, Ok1 (evC G cond ⟨env.set i (.val (enc x)), sto⟩) fun k s' => k = p x ∧ s' = ⟨env.set i (.val (enc x)), sto⟩)
    (he : ∀ x ∈ l, p x = true → Ok1 (ev G elt ⟨env.set i (.val (enc x)), sto⟩) fun y s' => y.t = some (f x) ∧ s' = ⟨env.set i (.val (enc x)), sto⟩)
    (hz : l.length < 16777216) : ev G (.lc elt (.name i) src cond [i]) s = .ok (.l ((l.filter p).map f)) ⟨env, sto⟩ := by
  refine lcW enc l p f (fun x => env.set i (.val (enc x))) hs (by simpa using hno) (fun x _ => ?_) (fun x _ => ?_) hc he hz
  · simp [bindTg, wipeE]
  · simp [wipeE]
/-- .. all items, changed by f -/
theorem lcM {i : Nat} (enc : α → T) (l : List α) (f : α → T) (hs : Ok1 (evSrc G src s) fun ts s' => ts = l.map enc ∧ s' = ⟨env, sto⟩) (hno : ((env.getD i .none).isOwn) = false)
    (he : ∀ x ∈ l, Ok1 (ev G elt ⟨env.set i (.val (enc x)), sto⟩) fun y s' => y.t = some (f x) ∧ s' = ⟨env.set i (.val (enc x)), sto⟩)
    (hz : l.length < 16777216) : ev G (.lc elt (.name i) src none [i]) s = .ok (.l (l.map f)) ⟨env, sto⟩ := by
  have := lc1 (G := G) (elt := elt) (cond := none) (i := i) enc l (fun _ => true) f hs hno (fun x _ => by simp) (fun x hx _ => he x hx) hz
  rwa [List.filter_eq_self.mpr (fun _ _ => rfl)] at this
/-- .. let through as they are -/
theorem lcF {i : Nat} (enc : α → T) (l : List α) (p : α → Bool) (hs : Ok1 (evSrc G src s) fun ts s' => ts = l.map enc ∧ s' = ⟨env, sto⟩) (hi : i < env.length) (hno : ((env.getD i .none).isOwn) = false)
    (hc : ∀ x ∈ l, Ok1 (evC G cond ⟨env.set i (.val (enc x)), sto⟩) fun k s' => k = p x ∧ s' = ⟨env.set i (.val (enc x)), sto⟩)
    (hz : l.length < 16777216) : ev G (.lc (.var i) (.name i) src cond [i]) s = .ok (.l ((l.filter p).map enc)) ⟨env, sto⟩ := by
  refine lc1 enc l p enc hs hno hc (fun x _ _ => ?_) hz
  simp [hi]
/-- a block that draws: an invariant of the cells, items found one by one -/
theorem lcD {i : Nat} {P : Rt → S → Prop} (enc : α → T) (out : β → T) (l : List α) (I : Nat → List Cell → List β → Prop) (hs : Ok1 (evSrc G src s) fun ts s' => ts = l.map enc ∧ s' = ⟨env, sto⟩) (hno : ((env.getD i .none).isOwn) = false) (h0 : I 0 sto [])
    (turn : ∀ j x sto' acc, l[j]? = some x → I j sto' acc → Ok1 (evC G cond ⟨env.set i (.val (enc x)), sto'⟩) fun k s2 => s2.env = env.set i (.val (enc x)) ∧
      (k = true → Ok1 (ev G elt s2) fun y s3 => ∃ b, y.t = some (out b) ∧ s3.env = env.set i (.val (enc x)) ∧ I (j + 1) s3.sto (acc ++ [b])) ∧ (k = false → I (j + 1) s2.sto acc))
    (hz : l.length < 16777216) (q : ∀ sto' acc, I l.length sto' acc → acc.length ≤ l.length → P (.l (acc.map out)) ⟨env, sto'⟩) : Ok1 (ev G (.lc elt (.name i) src cond [i]) s) P := by
  refine lc_inv (ts := l.map enc) (s1 := ⟨env, sto⟩) (fun j sto' a => ∃ acc : List β, a = acc.map out ∧ I j sto' acc) hs.eq (by simpa using hno) ⟨[], rfl, h0⟩ (fun j t sto' a ht ⟨acc, ea, hI⟩ => ?_) (by rw [List.length_map, szLine]; exact hz) fun sto' a ⟨acc, ea, hI⟩ hl => ?_
  · rw [List.getElem?_map, Option.map_eq_some_iff] at ht
    obtain ⟨x, hx, rfl⟩ := ht
    refine ⟨env.set i (.val (enc x)), by simp [bindTg, wipeE], (turn j x sto' acc hx hI).mono fun k s2 ⟨e1, e2, e3⟩ => ⟨by rw [e1]; simp [wipeE], fun hk => (e2 hk).mono fun y s3 ⟨b, f1, f2, f3⟩ => ⟨_, f1, by rw [f2]; simp [wipeE], acc ++ [b], by rw [ea]; simp, f3⟩, fun hk => ⟨acc, ea, e3 hk⟩⟩⟩
  · subst ea
    rw [List.length_map] at hI hl
    exact q sto' acc hI (by simpa using hl)
end
/-! ### equalities -/
@[simp] theorem eqB_bb (a b : Bool) : eqB (.bl a) (.bl b) = some (decide (a = b)) := by
  have e : SeqAt.shaped (.bool a) = true ∧ SeqAt.shaped (.bool b) = true := ⟨rfl, rfl⟩
  show (if SeqAt.shaped (.bool a) = true ∧ SeqAt.shaped (.bool b) = true then some (PyData.eqv (.bool a) (.bool b)) else none) = _
  rw [if_pos e]
  cases a <;> cases b <;> rfl
@[simp] theorem isB_nn : isB .non .non = some true := rfl
@[simp] theorem isB_in (i : Int) : isB (.int i) .non = some false := rfl
@[simp] theorem isB_tn (l : List T) : isB (.tup l) .non = some false := rfl
@[simp] theorem isB_sn (l : Str) : isB (.str l) .non = some false := rfl
/-! ### ranges -/
def encN (n : Nat) : T := .int (n : Int)
theorem ok62_of {i : Int} (h0 : 0 ≤ i) (h1 : i ≤ 16777216) : ok62 i = true := by unfold ok62; simp; omega
theorem rangeL_N (n : Nat) : rangeL 0 (n : Int) = (List.range n).map encN := by
  unfold rangeL encN
  have e : ((n : Int) - 0).toNat = n := by omega
  rw [e]
  exact List.map_congr_left fun k _ => by simp
theorem rangeL_2 (m n : Nat) : rangeL (m : Int) (n : Int) = (List.range (n - m)).map fun k => encN (m + k) := by
  unfold rangeL encN
  have e : ((n : Int) - m).toNat = n - m := by omega
  rw [e]
  exact List.map_congr_left fun k _ => by simp
theorem src_int {G : Cfg} {a : IE} {s s1 : S} {i : Int} (h : ev G a s = .ok (.v (.int i)) s1) (h0 : 0 ≤ i) (h1 : i ≤ 16777216) : evSrc G (.range1 a) s = .ok (rangeL 0 i) s1 := by
  rw [src_r1, h]
  simp only [rbind_ok, t_v, ok62_of h0 h1, if_true]
theorem src_N {G : Cfg} {a : IE} {s s1 : S} {n : Nat} (h : ev G a s = .ok (.v (.int (n : Int))) s1) (h1 : n ≤ 16777216) : evSrc G (.range1 a) s = .ok ((List.range n).map encN) s1 := by
  rw [src_int h (by omega) (by omega), rangeL_N]
theorem enum_get {l : List T} {i : Nat} {t : T} (h : (enumL l)[i]? = some t) : ∃ u, l[i]? = some u ∧ t = .tup [.int (i : Int), u] := by
  unfold enumL at h
  rw [List.getElem?_map, Option.map_eq_some_iff] at h
  obtain ⟨p, hp, rfl⟩ := h
  rw [List.getElem?_zipIdx, Option.map_eq_some_iff] at hp
  obtain ⟨u, hu, rfl⟩ := hp
  exact ⟨u, hu, by simp⟩
theorem enum_map {γ : Type} (enc : γ → T) (l : List γ) : enumL (l.map enc) = l.zipIdx.map fun p => T.tup [.int (p.2 : Int), enc p.1] := by
  unfold enumL
  rw [List.zipIdx_map, List.map_map]
  rfl
theorem zipIdx_at {γ : Type} {l : List γ} {j : Nat} {x : γ} {i : Nat} (h : l.zipIdx[j]? = some (x, i)) : i = j ∧ l[j]? = some x := by
  rw [List.getElem?_zipIdx, Option.map_eq_some_iff] at h
  obtain ⟨u, hu, e⟩ := h
  simp only [Prod.mk.injEq] at e
  obtain ⟨rfl, rfl⟩ := e
  exact ⟨by omega, hu⟩
theorem enum_len (l : List T) : (enumL l).length = l.length := by unfold enumL; simp
/-- an item by a number from 0 on -/
theorem atI_nat {α : Type} (l : List α) (n : Nat) : atI l (n : Int) = l[n]? := by
  unfold atI ixN
  rw [if_pos (by omega)]
  by_cases h : n < l.length
  · rw [if_pos (by omega)]; simp
  · rw [if_neg (by omega), List.getElem?_eq_none (by omega)]; rfl
theorem pds_ints (l : List Int) : T.pds (l.map T.int) = some (l.map PyData.int) := by
  induction l with
  | nil => rfl
  | cons a l ih => simp only [List.map_cons, T.pds, T.pd, ih]
theorem lay_ints (l : List Int) : SeqAt.shaped (.list (l.map PyData.int)) = true := by
  have h1 : PyData.canLayAll0 (l.map PyData.int) = true := by
    induction l with
    | nil => rfl
    | cons a l ih => simp only [List.map_cons, PyData.canLayAll0, PyData.canLay0, ih, Bool.and_self]
  have h2 : PyData.depthAll (l.map PyData.int) = 0 := by
    clear h1
    induction l with
    | nil => simp [PyData.depthAll]
    | cons a l ih => simp [PyData.depthAll, PyData.depth, ih]
  simp [SeqAt.shaped, PyData.canLay0, PyData.depth, h1, h2]
theorem in_ints (x : Int) (l : List Int) : inB (.int x) (.lst (l.map T.int)) = some (decide (x ∈ l)) := by
  have s1 : SeqAt.shaped (.int x) = true := rfl
  simp only [inB, T.pd, pds_ints]
  rw [if_pos ⟨s1, lay_ints l⟩]
  congr 1
  rw [Bool.eq_iff_iff]
  simp [List.any_eq_true, PyData.eqv]
theorem in_intsT (x : Int) (l : List Int) : inB (.int x) (.tup (l.map T.int)) = some (decide (x ∈ l)) := in_ints x l
theorem repr_tm {t : T} {d w : Nat} (h : Tm t d w) (hd : d ≤ 60 := by decide) (hw : w ≤ 500000 := by decide) : ∃ S, reprT t = some (.v (.str S)) := h.repr hd hw
/-! ### closed ends run in the kernel -/
def retOf : R Fl → Option (T × List Cell)
  | .ok (.ret t) s => some (t, s.sto)
  | _ => none
def cfgP (P : Prog) (cst : String → Option T) (tab : String → Option Tab) (fuel k : Nat) : Cfg := ⟨cst, tab, callP P cst tab fuel k, fun g => (P.lookup g).map (·.params), fuel⟩
theorem cfgP_eq (P : Prog) (cst : String → Option T) (tab : String → Option Tab) (fuel k : Nat) : cfgP P cst tab fuel k = cfgN P cst tab fuel k := by
  unfold cfgP cfgN
  rw [callP_eq]
theorem ret_C {pr : Prog} {cst : String → Option T} {tab : String → Option Tab} {fuel k : Nat} {b : List IS} {s : S} {t : T} {sto : List Cell} {P : T → List Cell → Prop} (h : retOf (exsP (cfgP pr cst tab fuel k) b s) = some (t, sto)) (q : P t sto) : Ok1 (exs (cfgN pr cst tab fuel k) b s) (Kfn P) := by
  rw [exsP_eq, cfgP_eq] at h
  revert h
  cases exs (cfgN pr cst tab fuel k) b s with
  | ok fl s' =>
    cases fl with
    | ret u =>
      intro h
      simp only [retOf, Option.some.injEq, Prod.mk.injEq] at h
      obtain ⟨rfl, rfl⟩ := h
      exact q
    | _ => intro h; cases h
  | _ => intro h; cases h
end L2.TV

set_option maxHeartbeats 1000000
/-! Gaps of tables: blocks that give dicts; the defs from known_marks to fewest_steps, for any configuration. -/
namespace L2.TV
open PySem PySem.Spec PyProof.Rows
/-- a closed run, with all that it calls, for the kernel -/
theorem runPN {P : Prog} {cst : String → Option T} {tab : String → Option Tab} {fuel k : Nat} {d : FD} {ts : List T} {sto : List Cell} : runF (cfgN P cst tab fuel k) d ts sto = runP ⟨cst, tab, callP P cst tab fuel k, fun g => (P.lookup g).map (·.params), fuel⟩ d ts sto := by
  rw [runP_eq, callP_eq]
  rfl
section
variable {α κ : Type} {G : Cfg} {s : S}
theorem e_dcT (kx vx : IE) (tg : Tg) (src : Src) (cond : Option IE) (own : List Nat) : ev G (.dcT kx vx tg src cond own) s = (evSrc G src s).bind fun ts s1 => if (own.any fun i => (s1.env.getD i .none).isOwn) then .bad else
      (dcTurns tkT own tg (fun s => evC G cond s) (fun s => (ev G kx s).bind fun y s' => R.opt y.t s') (fun s => (ev G vx s).bind fun y s' => R.opt y.t s') ts s1 []).quiet.bind fun ys s2 => .ok (.d ys) { s2 with env := backE s1.env s2.env own } := by simp only [ev] <;> rfl
theorem e_dcK (kx vx : IE) (tg : Tg) (src : Src) (cond : Option IE) (own : List Nat) : ev G (.dcK kx vx tg src cond own) s = (evSrc G src s).bind fun ts s1 => if (own.any fun i => (s1.env.getD i .none).isOwn) then .bad else
      (dcTurns keyT own tg (fun s => evC G cond s) (fun s => (ev G kx s).bind fun y s' => R.opt y.t s') (fun s => (ev G vx s).bind fun y s' => R.opt y.t s') ts s1 []).quiet.bind fun ys s2 => .ok (.k ys) { s2 with env := backE s1.env s2.env own } := by simp only [ev] <;> rfl
theorem putT_len [DecidableEq κ] (l : List (κ × T)) (k : κ) (t : T) : (putT l k t).length ≤ l.length + 1 := by
  unfold putT
  split <;> simp
theorem dcTurns_pure [DecidableEq κ] {kof : T → Option κ} {own : List Nat} {tg : Tg} {cond : S → R Bool} {kx vx : S → R T} {sto : List Cell} {W : List Slot} (enc : α → T) (kk : α → κ) (f : α → T) (E : α → List Slot) :
    ∀ (l : List α) (acc : List (κ × T)) (env : List Slot), (∀ x ∈ l, bindTg tg (enc x) W = some (E x)) → (∀ x ∈ l, wipeE (E x) own = W) → (∀ x ∈ l, cond ⟨E x, sto⟩ = .ok true ⟨E x, sto⟩) →
    (∀ x ∈ l, ∃ y, kx ⟨E x, sto⟩ = .ok y ⟨E x, sto⟩ ∧ kof y = some (kk x)) → (∀ x ∈ l, vx ⟨E x, sto⟩ = .ok (f x) ⟨E x, sto⟩) → acc.length + l.length ≤ 16777216 → wipeE env own = W →
    ∃ env', wipeE env' own = W ∧ dcTurns kof own tg cond kx vx (l.map enc) ⟨env, sto⟩ acc = .ok (l.foldl (fun a x => putT a (kk x) (f x)) acc) ⟨env', sto⟩
  | [], acc, env, _, _, _, _, _, _, hw => ⟨env, hw, rfl⟩
  | x :: l, acc, env, hb, hw, hc, hk, hv, hz, hW => by
    obtain ⟨y, k1, k2⟩ := hk x (.head _)
    simp only [List.length_cons] at hz
    have pl := putT_len acc (kk x) (f x)
    obtain ⟨env', e1, e2⟩ := dcTurns_pure enc kk f E l (putT acc (kk x) (f x)) (E x) (fun z h => hb z (.tail _ h)) (fun z h => hw z (.tail _ h)) (fun z h => hc z (.tail _ h)) (fun z h => hk z (.tail _ h)) (fun z h => hv z (.tail _ h)) (by omega) (hw x (.head _))
    refine ⟨env', e1, ?_⟩
    rw [List.map_cons, List.foldl_cons, ← e2]
    have al : acc.length < sizeLine := by rw [szLine]; omega
    simp only [dcTurns, hW, hb x (.head _), hc x (.head _), R.bind, k1, hv x (.head _), k2, al, if_true]
theorem dcK1 {i : Nat} {kx vx : IE} {src : Src} {env : List Slot} {sto : List Cell} (enc : α → T) (l : List α) (kk : α → Key) (f : α → T) (hs : Ok1 (evSrc G src s) fun ts s' => ts = l.map enc ∧ s' = ⟨env, sto⟩) (hno : ((env.getD i .none).isOwn) = false)
    (hk : ∀ x ∈ l, Ok1 (ev G kx ⟨env.set i (.val (enc x)), sto⟩) fun y s' => (∃ t, y.t = some t ∧ keyT t = some (kk x)) ∧ s' = ⟨env.set i (.val (enc x)), sto⟩)
    (hv : ∀ x ∈ l, Ok1 (ev G vx ⟨env.set i (.val (enc x)), sto⟩) fun y s' => y.t = some (f x) ∧ s' = ⟨env.set i (.val (enc x)), sto⟩)
    (hz : l.length ≤ 16777216) : ev G (.dcK kx vx (.name i) src none [i]) s = .ok (.k (l.foldl (fun a x => putT a (kk x) (f x)) [])) ⟨env, sto⟩ := by
  rw [e_dcK, hs.eq, rbind_ok]
  rw [show (([i] : List Nat).any fun i => (env.getD i .none).isOwn) = false from by simpa using hno]
  simp only [Bool.false_eq_true, if_false]
  obtain ⟨env', e1, e2⟩ := dcTurns_pure (kof := keyT) (own := [i]) (tg := .name i) (cond := fun s => evC G none s) (kx := fun s => (ev G kx s).bind fun y s' => R.opt y.t s') (vx := fun s => (ev G vx s).bind fun y s' => R.opt y.t s') (sto := sto) (W := wipeE env [i])
    enc kk f (fun x => env.set i (.val (enc x))) l [] env (fun x _ => by simp [bindTg, wipeE]) (fun x _ => by simp [wipeE]) (fun x _ => by rw [evC_none]) (fun x hx => by
      obtain ⟨y, s', e, ⟨t, q1, q2⟩, rfl⟩ := (hk x hx).ok
      exact ⟨t, by rw [e]; simp only [R.bind, q1, R.opt], q2⟩) (fun x hx => by
      obtain ⟨y, s', e, q1, rfl⟩ := (hv x hx).ok
      show R.bind _ _ = _
      rw [e]; simp only [R.bind, q1, R.opt]) (by simpa using hz) rfl
  rw [e2]
  simp only [R.quiet, rbind_ok]
  rw [back_same e1]
theorem dcT1 {i : Nat} {kx vx : IE} {src : Src} {env : List Slot} {sto : List Cell} (enc : α → T) (l : List α) (kk : α → List Key) (f : α → T) (hs : Ok1 (evSrc G src s) fun ts s' => ts = l.map enc ∧ s' = ⟨env, sto⟩) (hno : ((env.getD i .none).isOwn) = false)
    (hk : ∀ x ∈ l, Ok1 (ev G kx ⟨env.set i (.val (enc x)), sto⟩) fun y s' => (∃ t, y.t = some t ∧ tkT t = some (kk x)) ∧ s' = ⟨env.set i (.val (enc x)), sto⟩)
    (hv : ∀ x ∈ l, Ok1 (ev G vx ⟨env.set i (.val (enc x)), sto⟩) fun y s' => y.t = some (f x) ∧ s' = ⟨env.set i (.val (enc x)), sto⟩)
    (hz : l.length ≤ 16777216) : ev G (.dcT kx vx (.name i) src none [i]) s = .ok (.d (l.foldl (fun a x => putT a (kk x) (f x)) [])) ⟨env, sto⟩ := by
  rw [e_dcT, hs.eq, rbind_ok]
  rw [show (([i] : List Nat).any fun i => (env.getD i .none).isOwn) = false from by simpa using hno]
  simp only [Bool.false_eq_true, if_false]
  obtain ⟨env', e1, e2⟩ := dcTurns_pure (kof := tkT) (own := [i]) (tg := .name i) (cond := fun s => evC G none s) (kx := fun s => (ev G kx s).bind fun y s' => R.opt y.t s') (vx := fun s => (ev G vx s).bind fun y s' => R.opt y.t s') (sto := sto) (W := wipeE env [i])
    enc kk f (fun x => env.set i (.val (enc x))) l [] env (fun x _ => by simp [bindTg, wipeE]) (fun x _ => by simp [wipeE]) (fun x _ => by rw [evC_none]) (fun x hx => by
      obtain ⟨y, s', e, ⟨t, q1, q2⟩, rfl⟩ := (hk x hx).ok
      exact ⟨t, by rw [e]; simp only [R.bind, q1, R.opt], q2⟩) (fun x hx => by
      obtain ⟨y, s', e, q1, rfl⟩ := (hv x hx).ok
      show R.bind _ _ = _
      rw [e]; simp only [R.bind, q1, R.opt]) (by simpa using hz) rfl
  rw [e2]
  simp only [R.quiet, rbind_ok]
  rw [back_same e1]
/-- which keys a written dict holds -/
theorem putT_any [DecidableEq κ] (l : List (κ × T)) (k q : κ) (t : T) : ((putT l k t).any fun kv => decide (kv.1 = q)) = ((l.any fun kv => decide (kv.1 = q)) || decide (k = q)) := by
  unfold putT
  split
  · rename_i h
    have e : ((l.map fun kv => if kv.1 = k then (kv.1, t) else kv).any fun kv => decide (kv.1 = q)) = l.any fun kv => decide (kv.1 = q) := by
      rw [List.any_map]
      congr 1
      funext kv
      simp only [Function.comp]
      split <;> rfl
    rw [e]
    by_cases hq : k = q
    · subst hq
      rw [h]; rfl
    · simp [hq]
  · simp [List.any_append]
theorem fold_any [DecidableEq κ] (kk : α → κ) (f : α → T) (q : κ) : ∀ (l : List α) (acc : List (κ × T)), ((l.foldl (fun a x => putT a (kk x) (f x)) acc).any fun kv => decide (kv.1 = q)) = ((acc.any fun kv => decide (kv.1 = q)) || l.any fun x => decide (kk x = q))
  | [], acc => by simp
  | x :: l, acc => by
    rw [List.foldl_cons, fold_any kk f q l, putT_any, List.any_cons, Bool.or_assoc]
theorem fold_nodup [DecidableEq κ] (kk : α → κ) (f : α → T) : ∀ (l : List α) (acc : List (κ × T)), (l.map kk).Nodup → (∀ x ∈ l, ∀ kv ∈ acc, kv.1 ≠ kk x) → l.foldl (fun a x => putT a (kk x) (f x)) acc = acc ++ l.map fun x => (kk x, f x)
  | [], acc, _, _ => by simp
  | x :: l, acc, hn, ha => by
    rw [List.map_cons, List.nodup_cons] at hn
    rw [List.foldl_cons]
    have e : putT acc (kk x) (f x) = acc ++ [(kk x, f x)] := by
      unfold putT
      rw [if_neg]
      intro h
      obtain ⟨kv, m, e⟩ := List.any_eq_true.mp h
      exact ha x (.head _) kv m (of_decide_eq_true e)
    rw [e, fold_nodup kk f l _ hn.2 (fun y hy kv hkv => ?_)]
    · simp
    · rcases List.mem_append.mp hkv with h | h
      · exact ha y (.tail _ hy) kv h
      · rw [List.mem_singleton.mp h]
        intro e
        apply hn.1
        rw [show kk x = kk y from e]
        exact List.mem_map_of_mem hy
end
section
variable {α : Type} {G : Cfg} {s : S}
theorem e_lcI (elt : IE) (tg : Tg) (vals : Bool) (a : IE) (cond : Option IE) (own : List Nat) : ev G (.lcI elt tg vals a cond own) s = (ev G a s).bind fun x s1 => match x.t with
    | some (.dk l) => if (own.any fun i => (s1.env.getD i .none).isOwn) then .bad else
      (lcTurns own tg (fun s => evC G cond s) (fun s => (ev G elt s).bind fun y s' => R.opt y.t s') (itemsL vals l) s1 []).quiet.bind fun ys s2 => .ok (.l ys) { s2 with env := backE s1.env s2.env own }
    | _ => .bad := by simp only [ev] <;> rfl
/-- a walk over a dict's values or pairs -/
theorem lcIW {elt : IE} {tg : Tg} {vals : Bool} {a : IE} {cond : Option IE} {own : List Nat} {env : List Slot} {sto : List Cell} {d : List (Key × T)} (enc : α → T) (l : List α) (p : α → Bool) (f : α → T) (E : α → List Slot) (hs : Ok1 (ev G a s) fun x s' => x.t = some (.dk d) ∧ s' = ⟨env, sto⟩) (hd : itemsL vals d = l.map enc) (hno : (own.any fun i => (env.getD i .none).isOwn) = false)
    (hb : ∀ x ∈ l, bindTg tg (enc x) (wipeE env own) = some (E x)) (hw : ∀ x ∈ l, wipeE (E x) own = wipeE env own)
    (hc : ∀ x ∈ l, Ok1 (evC G cond ⟨E x, sto⟩) fun k s' => k = p x ∧ s' = ⟨E x, sto⟩)
    (he : ∀ x ∈ l, p x = true → Ok1 (ev G elt ⟨E x, sto⟩) fun y s' => y.t = some (f x) ∧ s' = ⟨E x, sto⟩)
    (hz : l.length < 16777216) : ev G (.lcI elt tg vals a cond own) s = .ok (.l ((l.filter p).map f)) ⟨env, sto⟩ := by
  refine Ok1.eq ?_
  obtain ⟨x, s', ex, hx, rfl⟩ := hs.ok
  rw [e_lcI, ex]
  simp only [rbind_ok, hx]
  rw [hno, hd]
  simp only [Bool.false_eq_true, if_false, ok1_bind, ok1_quiet, ok1_ok]
  refine Ok1.turns (j := 0) (fun i s acc => s.sto = sto ∧ wipeE s.env own = wipeE env own ∧ acc = ((l.take i).filter p).map f) ⟨rfl, rfl, by simp⟩ (fun i t s acc ht hI => ?_) fun s acc hI => ?_
  · obtain ⟨h1, h2, h3⟩ := hI
    rw [Nat.zero_add] at h3 ⊢
    rw [List.getElem?_map, Option.map_eq_some_iff] at ht
    obtain ⟨x, hx, rfl⟩ := ht
    have xm := List.mem_of_getElem? hx
    refine ⟨E x, by rw [h2]; exact hb x xm, ?_⟩
    rw [h1]
    have tk : l.take (i + 1) = l.take i ++ [x] := by rw [List.take_succ, hx]; rfl
    have hil : i < l.length := (List.getElem?_eq_some_iff.mp hx).1
    have al : acc.length < sizeLine := by
      rw [h3, List.length_map, szLine]
      have := List.length_filter_le p (l.take i)
      have := List.length_take_le i l
      omega
    rw [(hc x xm).eq, ok1_ok]
    refine ⟨fun hk => ?_, fun hk => ⟨rfl, hw x xm, ?_⟩⟩
    · obtain ⟨y, s', e1, e2, rfl⟩ := (he x xm hk).ok
      rw [e1]
      simp only [rbind_ok, e2, R.opt_some, ok1_ok]
      refine ⟨al, trivial, hw x xm, ?_⟩
      rw [tk, List.filter_append, List.map_append, h3]
      simp [hk]
    · rw [tk, List.filter_append, List.map_append, h3]
      simp [hk]
  · obtain ⟨h1, h2, h3⟩ := hI
    rw [Nat.zero_add, List.length_map, List.take_length] at h3
    rw [back_same h2, h1, h3]
    exact ⟨rfl, rfl⟩
end
theorem allB_maps {α : Type} (f : α → Bool) : ∀ l : List α, TV.allB (l.map fun x => .bl (f x)) = some (l.map f)
  | [] => rfl
  | x :: l => by simp [TV.allB, allB_maps f l]
@[simp high] theorem any_maps {α : Type} (f : α → Bool) (l : List α) : anyT (.lst (l.map fun x => .bl (f x))) = some (.v (.bl (l.any f))) := by
  simp [anyT, allB_maps f l, List.any_map]
@[simp high] theorem all_maps {α : Type} (f : α → Bool) (l : List α) : allT (.lst (l.map fun x => .bl (f x))) = some (.v (.bl (l.all f))) := by
  simp [allT, allB_maps f l, List.all_map]
end L2.TV

set_option maxHeartbeats 1000000
/-! Gaps of tables: the defs from known_marks to fewest_steps, for any configuration that holds them. -/
namespace L2.TV
open PySem PySem.Spec PyProof.Rows
namespace Sh
def d_known_marks : FD := ⟨["table"], 2, [.ret (.dcT (.var 1) (.bl true) (.name 1) (.e (.ix (.var 0) (.int 0))) none [1])]⟩
def d_open_marks : FD := ⟨["known", "gap"], 4, [.ret (.lc (.var 2) (.name 2) (.e (.call "marks_that_close" [.var 1])) (some (.not (.fn .any [.lc (.cmp .isin (.var 3) (.var 0)) (.name 3) (.e (.var 2)) none [3]]))) [2])]⟩
def d_gaps_of : FD := ⟨["table"], 3, [.setv 1 (.call "known_marks" [.var 0]),
    .ret (.dcK (.var 2) (.cmp .ne (.call "open_marks" [.var 1, .var 2]) (.lst [])) (.name 2) (.e (.cst "GAPS")) none [2])]⟩
def d_breaks : FD := ⟨["gaps", "rescans", "word"], 6, [.ret (.fn .any [.lc (.fn .all [.lc (.ix (.var 0) (.var 5)) (.name 5) (.e (.var 3)) none [5]]) (.tup [.name 3, .name 4]) (.e (.call "ways_to_break" [.var 1, .var 2])) none [3, 4]])]⟩
def d_holds : FD := ⟨["table", "word"], 2, [.expr (.call "check_word" [.var 1]),
    .ret (.not (.call "breaks" [.call "gaps_of" [.var 0], .ix (.var 0) (.int 1), .var 1]))]⟩
def d_properties_of : FD := ⟨["table"], 2, [.ret (.fn .tuple [.lc (.var 1) (.name 1) (.e (.cst "PROPERTIES")) (some (.call "holds" [.var 0, .var 1])) [1]])]⟩
def d_cut_entry : FD := ⟨["known", "gap"], 6, [.setv 2 (.lc (.tup [.ix (.ix (.var 4) (.int 0)) (.int 1), .ix (.ix (.var 4) (.int 0)) (.int 4)]) (.name 4) (.e (.call "open_marks" [.var 0, .var 1])) none [4]),
    .setv 3 (.lc (.var 5) (.name 5) (.e (.var 2)) (some (.cmp .ne (.var 5) (.tup [.cst "SCANNED", .cst "WHITE"]))) [5]),
    .ret (.ife (.cmp .ne (.var 3) (.lst [])) (.ix (.var 3) (.int 0)) (.ix (.var 2) (.int 0)))]⟩
def d_steps_of_way : FD := ⟨["known", "needed", "count"], 3, [.ret (.bin .add (.var 2) (.fn .int [.and (.cmp .isin (.cst "CUT_GREY") (.var 1)) (.cmp .eq (.call "cut_entry" [.var 0, .cst "CUT_GREY"]) (.tup [.cst "SCANNED", .cst "WHITE"]))]))]⟩
def d_shortest_way : FD := ⟨["table", "word"], 9, [.par [2, 3, 4] [.call "gaps_of" [.var 0], .call "known_marks" [.var 0], .non],
    .for_ (.tup [.name 5, .name 6]) (.e (.call "ways_to_break" [.ix (.var 0) (.int 1), .var 1])) [.ite (.fn .all [.lc (.ix (.var 2) (.var 8)) (.name 8) (.e (.var 5)) none [8]]) [.setv 7 (.call "steps_of_way" [.var 3, .var 5, .var 6]),
    .ite (.or (.cmp .is (.var 4) .non) (.cmp .lt (.var 7) (.ix (.var 4) (.int 0)))) [.setv 4 (.tup [.var 7, .var 5])] []] []],
    .ret (.var 4)]⟩
def d_fewest_steps : FD := ⟨["table", "word"], 3, [.expr (.call "check_word" [.var 1]),
    .setv 2 (.call "shortest_way" [.var 0, .var 1]),
    .ret (.ife (.cmp .is (.var 2) .non) .non (.ix (.var 2) (.int 0)))]⟩
end Sh
inductive Gap | nw | lg | lw | lb | bu | ou | bs | cg | cw deriving DecidableEq
def Gap.s : Gap → Str
  | .nw => Str.ofString "new_white" | .lg => Str.ofString "load_grey" | .lw => Str.ofString "load_white" | .lb => Str.ofString "load_black" | .bu => Str.ofString "by_unscanned"
  | .ou => Str.ofString "by_unscanned_over_white" | .bs => Str.ofString "by_scanned" | .cg => Str.ofString "cut_grey" | .cw => Str.ofString "cut_white"
def Gap.enc (g : Gap) : T := .str g.s
def gaps : List Gap := [.nw, .lg, .lw, .lb, .bu, .ou, .bs, .cg, .cw]
inductive Wo | cl | co | di | sa | so | we deriving DecidableEq
def Wo.s : Wo → Str
  | .cl => Str.ofString "clean" | .co => Str.ofString "covered" | .di => Str.ofString "direct" | .sa => Str.ofString "safe" | .so => Str.ofString "strong" | .we => Str.ofString "weak"
def Wo.enc (w : Wo) : T := .str w.s
def wds : List Wo := [.cl, .co, .di, .sa, .so, .we]
def ways (b : Bool) : Wo → List (List Gap × Int)
  | .cl => [([.nw], 1), ([.lg], 1), ([.bu, .lb], 2)]
  | .co => [([.nw], 1), ([.lg, .cg], 2), ([.bu, .lb], 2), ([.lg, .lw, .cw], 3), ([.lg, .bs, .ou, .lb], 4)]
  | .di => [([.nw], 1), ([.lg, .cg], 2), ([.lg, .lw], 2), ([.bu, .lb], 2), ([.lg, .bs, .ou, .lb], 4)]
  | .so => [([.bu], 1), ([.nw, .bs], 2), ([.lg, .bs], 2)]
  | .we => [([.bu], 1), ([.nw, .bs], 2), ([.lg, .bs, .cg], 3), ([.lg, .bs, .ou], 3), ([.lg, .lw, .bs, .cw], 4)]
  | .sa => if b then [([.bu], 2), ([.nw, .bs], 3), ([.lg, .bs, .cg], 4), ([.lg, .bs, .ou], 4), ([.lg, .lw, .bs, .cw], 5)]
    else [([.nw], 1), ([.bu], 2), ([.lg, .cg], 2), ([.lg, .lw, .cw], 3), ([.lg, .bs, .ou], 4)]
def encNeed (l : List Gap) : T := .tup (l.map Gap.enc)
def encWay (p : List Gap × Int) : T := .tup [encNeed p.1, .int p.2]
def encWays (b : Bool) (w : Wo) : T := .tup ((ways b w).map encWay)
def stM (t b o n w : String) : List Str := [st "store", st t, st b, st o, st n, st w]
def intoB (t o : String) : List (List Str) := ["new", "holder"].map fun w => stM t "black" o "white" w
def cutsOf (b : String) : List (List (List Str)) := ["scanned", "unscanned"].flatMap fun t => ["none", "grey", "black", "white"].map fun n => [stM t b "white" n "old"]
/-- the groups of marks that close a gap -/
def closers : Gap → List (List (List Str))
  | .nw => [[[st "new", st "scanned"]]]
  | .lg => [[[st "load", st "scanned", st "grey"]]]
  | .lw => [[[st "load", st "scanned", st "white"]]]
  | .lb => [[[st "load", st "scanned", st "black"]]]
  | .bu => ["none", "grey", "black"].map (intoB "unscanned")
  | .ou => [intoB "unscanned" "white"]
  | .bs => ["none", "grey", "black"].map (intoB "scanned")
  | .cg => cutsOf "grey"
  | .cw => cutsOf "white"
def encGrp (l : List (List Str)) : T := .tup (l.map tupS)
def encClose (g : Gap) : T := .tup ((closers g).map encGrp)
/-- a table -/
def tblT (L : List (List Str)) (b : Bool) : T := .tup [.tup (L.map tupS), .bl b]
def isMk (m : List Str) : Bool := markT (m.map .str)
def mkeys (m : List Str) : List Key := m.map Sum.inr
def knL (L : List (List Str)) : List (List Key × T) := L.foldl (fun a m => putT a (mkeys m) (.bl true)) []
theorem keyL_strs : ∀ m : List Str, keyL (m.map .str) = some (mkeys m)
  | [] => rfl
  | x :: m => by simp only [List.map_cons, keyL, keyT, keyL_strs m]; rfl
theorem tkT_mk {m : List Str} (h : isMk m = true) : tkT (tupS m) = some (mkeys m) := by
  have h' : markT (m.map .str) = true := h
  simp only [tupS, tkT, h', if_true, keyL_strs]
theorem mkeys_inj {a b : List Str} : mkeys a = mkeys b ↔ a = b := by
  refine ⟨fun h => ?_, fun h => by rw [h]⟩
  exact List.map_inj_right (fun x y e => by cases e; rfl) |>.mp h
theorem kn_in {m : List Str} (h : isMk m = true) (L : List (List Str)) : inB (tupS m) (.dt (knL L)) = some (decide (m ∈ L)) := by
  show (tkT (tupS m)).map _ = _
  rw [tkT_mk h, Option.map_some, knL, fold_any]
  congr 1
  rw [Bool.eq_iff_iff]
  simp [mkeys_inj]
theorem closers_mk (g : Gap) : ((closers g).all fun l => l.all isMk) = true := by cases g <;> decide +kernel
/-- the groups left open -/
def opn (k : List Str → Bool) (g : Gap) : List (List (List Str)) := (closers g).filter fun l => !l.any k
def isOpen (k : List Str → Bool) (g : Gap) : Bool := decide (opn k g ≠ [])
def inL (L : List (List Str)) (m : List Str) : Bool := decide (m ∈ L)
structure Gp (C : Nat → Cfg) : Prop where
  known : ∀ k, HasD (C (k + 1)) "known_marks" Sh.d_known_marks (C k)
  openm : ∀ k, HasD (C (k + 1)) "open_marks" Sh.d_open_marks (C k)
  gapsOf : ∀ k, HasD (C (k + 1)) "gaps_of" Sh.d_gaps_of (C k)
  breaks : ∀ k, HasD (C (k + 1)) "breaks" Sh.d_breaks (C k)
  holds : ∀ k, HasD (C (k + 1)) "holds" Sh.d_holds (C k)
  props : ∀ k, HasD (C (k + 1)) "properties_of" Sh.d_properties_of (C k)
  entry : ∀ k, HasD (C (k + 1)) "cut_entry" Sh.d_cut_entry (C k)
  steps : ∀ k, HasD (C (k + 1)) "steps_of_way" Sh.d_steps_of_way (C k)
  short : ∀ k, HasD (C (k + 1)) "shortest_way" Sh.d_shortest_way (C k)
  fewest : ∀ k, HasD (C (k + 1)) "fewest_steps" Sh.d_fewest_steps (C k)
  closeC : ∀ k g s, callR (C (k + 3)) "marks_that_close" none [.v (Gap.enc g)] s = .ok (.v (encClose g)) s
  waysC : ∀ k b w s, callR (C (k + 1)) "ways_to_break" none [.v (.bl b), .v (Wo.enc w)] s = .ok (.v (encWays b w)) s
  checkC : ∀ k w s, callR (C (k + 1)) "check_word" none [.v (Wo.enc w)] s = .ok (.v .non) s
  cst : ∀ k, (C k).cst "GAPS" = some (.tup (gaps.map Gap.enc)) ∧ (C k).cst "PROPERTIES" = some (.tup (wds.map Wo.enc)) ∧ (C k).cst "CUT_GREY" = some (Gap.enc .cg) ∧ (C k).cst "SCANNED" = some (.str (Str.ofString "scanned")) ∧ (C k).cst "WHITE" = some (.str (Str.ofString "white"))
section
variable {C : Nat → Cfg} (h : Gp C) {k : Nat} {sto : List Cell} {L : List (List Str)} {b : Bool}
@[simp high] theorem Ki2_T0 {P : Rt → S → Prop} {s : S} : Ki2 (.v (tblT L b)) P (.v (.int 0)) s = P (.v (.tup (L.map tupS))) s := rfl
@[simp high] theorem Ki2_T1 {P : Rt → S → Prop} {s : S} : Ki2 (.v (tblT L b)) P (.v (.int 1)) s = P (.v (.bl b)) s := rfl
theorem known_run (G : Cfg) (hm : ∀ m ∈ L, isMk m = true) (hz : L.length ≤ 16777000) : runF G Sh.d_known_marks [tblT L b] sto = .ok (.dt (knL L)) sto := by
  refine OkC.eq (run_C (env := [.val (tblT L b), .none]) rfl (by decide) rfl ?_)
  simp [Sh.d_known_marks]
  rw [dcT1 tupS L mkeys (fun _ => .bl true) (env := [.val (tblT L b), .none]) (sto := sto) (by simp) rfl (fun m hmL => ?_) (fun m hmL => ?_) (by omega)]
  · simp [knL]
  · simp [tkT_mk (hm m hmL)]
  · simp
@[simp high] theorem res_mk {m : List Str} {s : S} : Rt.res (.v (tupS m)) s = some (tupS m) := rfl
theorem open_run (G : Cfg) {g : Gap} (hc : ∀ s, callR G "marks_that_close" none [.v (Gap.enc g)] s = .ok (.v (encClose g)) s) : runF G Sh.d_open_marks [.dt (knL L), Gap.enc g] sto = .ok (.lst ((opn (inL L) g).map encGrp)) sto := by
  refine OkC.eq (run_C (env := [.val (.dt (knL L)), .val (Gap.enc g), .none, .none]) rfl (by decide) rfl ?_)
  have hk := List.all_eq_true.mp (closers_mk g)
  have hl : (closers g).length ≤ 8 := by cases g <;> decide
  have hl2 : ∀ l ∈ closers g, l.length ≤ 2 := by cases g <;> decide
  simp [Sh.d_open_marks]
  rw [lcF encGrp (closers g) (fun l => !l.any (inL L)) (env := [.val (.dt (knL L)), .val (Gap.enc g), .none, .none]) (sto := sto) (by simp [hc, encClose]) (by simp) rfl (fun l hl' => ?_) (by omega)]
  · simp [opn]
  · have hk' := List.all_eq_true.mp (hk l hl')
    simp
    rw [lcM tupS l (fun m => .bl (inL L m)) (env := [.val (.dt (knL L)), .val (Gap.enc g), .val (encGrp l), .none]) (sto := sto) (by simp [encGrp]) rfl (fun m hmL => ?_) (by have := hl2 l hl'; omega)]
    · simp
    · simp [kn_in (hk' m hmL), inL]
include h in
theorem open_call {g : Gap} (s : S) : callR (C (k + 4)) "open_marks" none [.v (.dt (knL L)), .v (Gap.enc g)] s = .ok (.v (.lst ((opn (inL L) g).map encGrp))) s :=
  call_eq (h.openm (k + 3)) rfl rfl rfl (open_run (C (k + 3)) (h.closeC k g))
include h in
theorem known_call (hm : ∀ m ∈ L, isMk m = true) (hz : L.length ≤ 16777000) (s : S) : callR (C (k + 1)) "known_marks" none [.v (tblT L b)] s = .ok (.v (.dt (knL L))) s :=
  call_eq (h.known k) rfl rfl rfl (known_run (C k) hm hz)
def gapsT (f : Gap → Bool) : T := .dk (gaps.map fun g => (.inr g.s, .bl (f g)))
theorem opn_nil (kf : List Str → Bool) (g : Gap) : eqB (.lst ((opn kf g).map encGrp)) (.lst []) = some (decide (opn kf g = [])) := by
  have hm : ∀ l ∈ closers g, ∀ m ∈ l, m ∈ marks := by cases g <;> decide +kernel
  have hl2 : ∀ l ∈ closers g, l.length ≤ 2 := by cases g <;> decide
  have : TmL ((opn kf g).map encGrp) 2 (((opn kf g).map encGrp).length * (122 + 1)) := TmL.of fun t ht => by
    obtain ⟨l, hl, rfl⟩ := List.mem_map.mp ht
    have hl := (List.mem_filter.mp hl).1
    exact (Tm.tup (marks_tm (hm l hl))).mono (Nat.le_refl _) (by have := hl2 l hl; omega)
  rw [eqL_nil this (by decide)]
  simp
theorem gaps_nodup : ((gaps.map fun g => (Sum.inr g.s : Key))).Nodup := by decide +kernel
theorem gaps_fold (f : Gap → Bool) : gaps.foldl (fun a g => putT a (Sum.inr g.s : Key) (.bl (f g))) [] = gaps.map fun g => (Sum.inr g.s, .bl (f g)) := by
  rw [fold_nodup (fun g : Gap => (Sum.inr g.s : Key)) (fun g => .bl (f g)) gaps [] gaps_nodup (fun x _ kv hkv => nomatch hkv)]
  rfl
@[simp high] theorem Ki2_G {f : Gap → Bool} {g : Gap} {P : Rt → S → Prop} {s : S} : Ki2 (.v (gapsT f)) P (.v (Gap.enc g)) s = P (.v (.bl (f g))) s := by cases g <;> rfl
@[simp high] theorem t_tbl {s : S} : Rt.t (.v (tblT L b)) = some (tblT L b) := rfl
@[simp high] theorem t_genc {g : Gap} : Rt.t (.v (Gap.enc g)) = some (Gap.enc g) := rfl
@[simp high] theorem t_gapsT {f : Gap → Bool} : Rt.t (.v (gapsT f)) = some (gapsT f) := rfl
@[simp high] theorem key_genc {g : Gap} : keyT (Gap.enc g) = some (.inr g.s) := rfl
include h in
theorem gaps_call (hm : ∀ m ∈ L, isMk m = true) (hz : L.length ≤ 16777000) (s : S) : callR (C (k + 5)) "gaps_of" none [.v (tblT L b)] s = .ok (.v (gapsT (isOpen (inL L)))) s := by
  refine call_eq (h.gapsOf (k + 4)) rfl rfl rfl ?_
  refine OkC.eq (run_C (env := [.val (tblT L b), .none, .none]) rfl (by decide) rfl ?_)
  simp [Sh.d_gaps_of, known_call h (k := k + 3) (b := b) hm hz]
  rw [dcK1 Gap.enc gaps (fun g => Sum.inr g.s) (fun g => .bl (isOpen (inL L) g)) (env := [.val (tblT L b), .val (.dt (knL L)), .none]) (sto := s.sto) (by simp [h.cst]) rfl (fun g _ => ?_) (fun g _ => ?_) (by decide)]
  · simp [gapsT, gaps_fold]
  · simp
  · simp [open_call h, opn_nil, isOpen]
/-- whether a way is open -/
def brk (f : Gap → Bool) (b : Bool) (w : Wo) : Bool := (ways b w).any fun p => p.1.all f
@[simp high] theorem lst_ways {b : Bool} {w : Wo} : listOf (encWays b w) = some ((ways b w).map encWay) := rfl
@[simp high] theorem lst_need {l : List Gap} : listOf (encNeed l) = some (l.map Gap.enc) := rfl
theorem ways_len (b : Bool) (w : Wo) : (ways b w).length ≤ 5 ∧ ∀ p ∈ ways b w, p.1.length ≤ 4 := by cases b <;> cases w <;> decide
include h in
theorem breaks_call (f : Gap → Bool) (w : Wo) (s : S) : callR (C (k + 2)) "breaks" none [.v (gapsT f), .v (.bl b), .v (Wo.enc w)] s = .ok (.v (.bl (brk f b w))) s := by
  refine call_eq (h.breaks (k + 1)) rfl rfl rfl ?_
  refine OkC.eq (run_C (env := [.val (gapsT f), .val (.bl b), .val (Wo.enc w), .none, .none, .none]) rfl (by decide) rfl ?_)
  obtain ⟨wl, w2⟩ := ways_len b w
  simp [Sh.d_breaks]
  rw [lcW encWay (ways b w) (fun _ => true) (fun p => .bl (p.1.all f)) (fun p => [.val (gapsT f), .val (.bl b), .val (Wo.enc w), .val (encNeed p.1), .val (.int p.2), .none]) (env := [.val (gapsT f), .val (.bl b), .val (Wo.enc w), .none, .none, .none]) (sto := s.sto) (by simp [h.waysC]) rfl (fun p _ => rfl) (fun p _ => rfl) (fun p _ => by simp) (fun p hp _ => ?_) (by omega)]
  · rw [List.filter_eq_self.mpr (fun _ _ => rfl)]
    simp [brk]
  · simp
    rw [lcM Gap.enc p.1 (fun g => .bl (f g)) (env := [.val (gapsT f), .val (.bl b), .val (Wo.enc w), .val (encNeed p.1), .val (.int p.2), .none]) (sto := s.sto) (by simp) rfl (fun g _ => by simp) (by have := w2 p hp; omega)]
    simp
include h in
theorem holds_call (hm : ∀ m ∈ L, isMk m = true) (hz : L.length ≤ 16777000) (w : Wo) (s : S) : callR (C (k + 6)) "holds" none [.v (tblT L b), .v (Wo.enc w)] s = .ok (.v (.bl (!brk (isOpen (inL L)) b w))) s := by
  refine call_eq (h.holds (k + 5)) rfl rfl rfl ?_
  refine OkC.eq (run_C (env := [.val (tblT L b), .val (Wo.enc w)]) rfl (by decide) rfl ?_)
  simp [Sh.d_holds, h.checkC, gaps_call h hm hz, breaks_call h]
include h in
theorem props_call (hm : ∀ m ∈ L, isMk m = true) (hz : L.length ≤ 16777000) (s : S) : callR (C (k + 7)) "properties_of" none [.v (tblT L b)] s = .ok (.v (.tup ((wds.filter fun w => !brk (isOpen (inL L)) b w).map Wo.enc))) s := by
  refine call_eq (h.props (k + 6)) rfl rfl rfl ?_
  refine OkC.eq (run_C (env := [.val (tblT L b), .none]) rfl (by decide) rfl ?_)
  simp [Sh.d_properties_of]
  rw [lcF Wo.enc wds (fun w => !brk (isOpen (inL L)) b w) (env := [.val (tblT L b), .none]) (sto := s.sto) (by simp [h.cst]) (by simp) rfl (fun w _ => ?_) (by decide)]
  · simp
  · simp [holds_call h hm hz]
end
end L2.TV

set_option maxHeartbeats 1000000
/-! Shortest ways. -/
namespace L2.TV
open PySem PySem.Spec PyProof.Rows
/-! ### the store that cuts -/
def cutP : List (Str × Str) := ["scanned", "unscanned"].flatMap fun t => ["none", "grey", "black", "white"].map fun n => (st t, st n)
def mkC (p : Str × Str) : List Str := [st "store", p.1, st "grey", st "white", p.2, st "old"]
def encE2 (p : Str × Str) : T := .tup [.str p.1, .str p.2]
def swP : Str × Str := (st "scanned", st "white")
def cgL (k : List Str → Bool) : List (Str × Str) := cutP.filter fun p => !k (mkC p)
theorem opn_cg (k : List Str → Bool) : opn k .cg = (cgL k).map fun p => [mkC p] := by
  show (cutsOf "grey").filter _ = _
  rw [show cutsOf "grey" = cutP.map fun p => [mkC p] from rfl, List.filter_map]
  congr 1
  unfold cgL
  congr 1
  funext p
  simp
def easyL (k : List Str → Bool) : List (Str × Str) := (cgL k).filter fun p => !decide (p = swP)
def entOf (k : List Str → Bool) : Str × Str := match easyL k with
  | p :: _ => p
  | [] => (cgL k).headD swP
def hard (k : List Str → Bool) : Bool := decide (entOf k = swP)
theorem e2_eq : ∀ p ∈ cutP, eqB (encE2 p) (.tup [.str (Str.ofString "scanned"), .str (Str.ofString "white")]) = some (decide (p = swP)) := by decide +kernel
theorem swP_in : swP ∈ cutP := by decide +kernel
theorem cgL_in {k : List Str → Bool} {p : Str × Str} (h : p ∈ cgL k) : p ∈ cutP := (List.mem_filter.mp h).1
theorem entOf_in (k : List Str → Bool) : entOf k ∈ cutP := by
  unfold entOf
  split
  · rename_i p q e
    have : p ∈ easyL k := by rw [e]; exact .head _
    exact cgL_in (List.mem_filter.mp this).1
  · cases e : cgL k with
    | nil => exact swP_in
    | cons p q =>
      have : p ∈ cgL k := by rw [e]; exact .head _
      exact cgL_in this
theorem e2_nil {l : List (Str × Str)} (h : ∀ p ∈ l, p ∈ cutP) : eqB (.lst (l.map encE2)) (.lst []) = some (decide (l = [])) := by
  have hs : ∀ p ∈ cutP, strB 16 p.1 = true ∧ strB 16 p.2 = true := by decide +kernel
  have : TmL (l.map encE2) 1 ((l.map encE2).length * (40 + 1)) := TmL.of fun t ht => by
    obtain ⟨p, hp, rfl⟩ := List.mem_map.mp ht
    obtain ⟨a, b⟩ := hs p (h p hp)
    exact (Tm.tup (.cons (v := 17) (Tm.str a) (.cons (v := 0) (Tm.str b) .nil) (Nat.le_refl _))).mono (Nat.le_refl _) (by decide)
  rw [eqL_nil this (by decide)]
  simp
section
variable {C : Nat → Cfg} (h : Gp C) {k : Nat} {sto : List Cell} {L : List (List Str)} {b : Bool}
def encC (p : Str × Str) : T := encGrp [mkC p]
@[simp high] theorem Ki2_C0 {p : Str × Str} {P : Rt → S → Prop} {s : S} : Ki2 (.v (encC p)) P (.v (.int 0)) s = P (.v (tupS (mkC p))) s := rfl
@[simp high] theorem Ki2_C1 {p : Str × Str} {P : Rt → S → Prop} {s : S} : Ki2 (.v (tupS (mkC p))) P (.v (.int 1)) s = P (.v (.str p.1)) s := rfl
@[simp high] theorem Ki2_C4 {p : Str × Str} {P : Rt → S → Prop} {s : S} : Ki2 (.v (tupS (mkC p))) P (.v (.int 4)) s = P (.v (.str p.2)) s := rfl
@[simp high] theorem res_e2 {p : Str × Str} {s : S} : Rt.res (.v (encE2 p)) s = some (encE2 p) := rfl
@[simp high] theorem t_e2 {p : Str × Str} : Rt.t (.v (encE2 p)) = some (encE2 p) := rfl
@[simp high] theorem Ki2_hd {a : T} {l : List T} {P : Rt → S → Prop} {s : S} : Ki2 (.v (.lst (a :: l))) P (.v (.int 0)) s = P (.v a) s := by
  have e : ixT (.lst (a :: l)) (.int 0) = some a := by
    show atI (a :: l) 0 = _
    unfold atI ixN
    simp
  simp [e]
include h in
theorem entry_call (hne : cgL (inL L) ≠ []) (s : S) : callR (C (k + 5)) "cut_entry" none [.v (.dt (knL L)), .v (Gap.enc .cg)] s = .ok (.v (encE2 (entOf (inL L)))) s := by
  refine call_eq (h.entry (k + 4)) rfl rfl rfl ?_
  refine OkC.eq (run_C (env := [.val (.dt (knL L)), .val (Gap.enc .cg), .none, .none, .none, .none]) rfl (by decide) rfl ?_)
  have cl : (cgL (inL L)).length ≤ 8 := List.length_filter_le _ _
  simp [Sh.d_cut_entry]
  rw [lcM encC (cgL (inL L)) encE2 (env := [.val (.dt (knL L)), .val (Gap.enc .cg), .none, .none, .none, .none]) (sto := s.sto) (by
    simp [open_call h]
    rw [opn_cg, List.map_map]
    rfl) rfl (fun p _ => by
      simp
      rfl) (by omega)]
  simp
  rw [lcF encE2 (cgL (inL L)) (fun p => !decide (p = swP)) (env := [.val (.dt (knL L)), .val (Gap.enc .cg), .val (.lst ((cgL (inL L)).map encE2)), .none, .none, .none]) (sto := s.sto) (by simp) (by simp) rfl (fun p hp => by
    simp [h.cst, e2_eq p (cgL_in hp)]) (by omega)]
  have hn : eqB (.lst ((easyL (inL L)).map encE2)) (.lst []) = some (decide (easyL (inL L) = [])) := e2_nil fun p hp => cgL_in (List.mem_filter.mp hp).1
  unfold easyL at hn
  simp [hn]
  obtain ⟨p0, l0, e0⟩ := List.exists_cons_of_ne_nil hne
  have ee : entOf (inL L) = match (cgL (inL L)).filter (fun p => !decide (p = swP)) with
    | p :: _ => p
    | [] => (cgL (inL L)).headD swP := rfl
  rw [ee]
  cases e : (cgL (inL L)).filter (fun p => !decide (p = swP)) with
  | nil =>
    rw [e0]
    simp
  | cons p l => simp
include h in
theorem steps_call (f : Gap → Bool) (w : Wo) {p : List Gap × Int} (hp : p ∈ ways b w) (hcg : .cg ∈ p.1 → cgL (inL L) ≠ []) (s : S) :
    callR (C (k + 6)) "steps_of_way" none [.v (.dt (knL L)), .v (encNeed p.1), .v (.int p.2)] s = .ok (.v (.int (p.2 + if .cg ∈ p.1 ∧ hard (inL L) = true then 1 else 0))) s := by
  refine call_eq (h.steps (k + 5)) rfl rfl rfl ?_
  refine OkC.eq (run_C (env := [.val (.dt (knL L)), .val (encNeed p.1), .val (.int p.2)]) rfl (by decide) rfl ?_)
  have key : ∀ b w, ∀ p ∈ ways b w, inB (Gap.enc .cg) (encNeed p.1) = some (decide (Gap.cg ∈ p.1)) := by
    intro b w
    cases b <;> cases w <;> decide +kernel
  simp [Sh.d_steps_of_way, h.cst, key b w p hp]
  by_cases hc : Gap.cg ∈ p.1
  · simp [hc, h.cst, entry_call h (hcg hc), e2_eq _ (entOf_in _), hard, fnT, intT]
  · simp [hc, fnT, intT]
/-- the way that is the shortest so far -/
def stepW (f : Gap → Bool) (hd : Bool) (q : Option (Int × List Gap)) (p : List Gap × Int) : Option (Int × List Gap) :=
  if p.1.all f then
    match q with
    | none => some (p.2 + (if .cg ∈ p.1 ∧ hd = true then 1 else 0), p.1)
    | some (m, l) => if p.2 + (if .cg ∈ p.1 ∧ hd = true then 1 else 0) < m then some (p.2 + (if .cg ∈ p.1 ∧ hd = true then 1 else 0), p.1) else some (m, l)
  else q
def best (f : Gap → Bool) (hd b : Bool) (w : Wo) : Option (Int × List Gap) := (ways b w).foldl (stepW f hd) none
def encF : Option (Int × List Gap) → T
  | none => .non
  | some (m, l) => .tup [.int m, encNeed l]
@[simp] theorem ixT_t20 (a b : T) : ixT (.tup [a, b]) (.int 0) = some a := rfl
@[simp] theorem ixT_t21 (a b : T) : ixT (.tup [a, b]) (.int 1) = some b := rfl
@[simp high] theorem t_encF {q : Option (Int × List Gap)} : Rt.t (.v (encF q)) = some (encF q) := by rcases q with _ | ⟨m, l⟩ <;> rfl
include h in
theorem short_call (hm : ∀ m ∈ L, isMk m = true) (hz : L.length ≤ 16777000) (w : Wo) (s : S) :
    callR (C (k + 7)) "shortest_way" none [.v (tblT L b), .v (Wo.enc w)] s = .ok (.v (encF (best (isOpen (inL L)) (hard (inL L)) b w))) s := by
  refine call_eq (h.short (k + 6)) rfl rfl rfl ?_
  refine OkC.eq (run_C (env := [.val (tblT L b), .val (Wo.enc w), .none, .none, .none, .none, .none, .none, .none]) rfl (by decide) rfl ?_)
  simp [Sh.d_shortest_way, gaps_call h hm hz, known_call h hm hz, h.waysC]
  refine Kfor_C encWay (ways b w) (fun j s' => ∃ v5 v6 v7 : Slot, s' = ⟨[.val (tblT L b), .val (Wo.enc w), .val (gapsT (isOpen (inL L))), .val (.dt (knL L)), .val (encF (((ways b w).take j).foldl (stepW (isOpen (inL L)) (hard (inL L))) none)), v5, v6, v7, .none], s.sto⟩) ⟨_, _, _, rfl⟩ (fun j p s' J hj ⟨v5, v6, v7, e⟩ hJ => ?_) fun s' ⟨v5, v6, v7, e⟩ => ?_
  · subst e
    have pm := List.mem_of_getElem? hj
    have pl := (ways_len b w).2 p pm
    obtain ⟨q, hq⟩ : ∃ q, q = ((ways b w).take j).foldl (stepW (isOpen (inL L)) (hard (inL L))) none := ⟨_, rfl⟩
    have tk : ((ways b w).take (j + 1)).foldl (stepW (isOpen (inL L)) (hard (inL L))) none = stepW (isOpen (inL L)) (hard (inL L)) q p := by
      rw [List.take_succ, hj, List.foldl_append, hq]; rfl
    rw [tk] at hJ
    rw [← hq]
    refine ⟨[.val (tblT L b), .val (Wo.enc w), .val (gapsT (isOpen (inL L))), .val (.dt (knL L)), .val (encF q), .val (encNeed p.1), .val (.int p.2), v7, .none], rfl, ?_⟩
    simp
    rw [lcM Gap.enc p.1 (fun g => .bl (isOpen (inL L) g)) (env := [.val (tblT L b), .val (Wo.enc w), .val (gapsT (isOpen (inL L))), .val (.dt (knL L)), .val (encF q), .val (encNeed p.1), .val (.int p.2), v7, .none]) (sto := s.sto) (by simp) rfl (fun g _ => by simp) (by omega)]
    simp
    clear hq tk
    cases ha : p.1.all (isOpen (inL L)) with
    | false =>
      simp
      exact hJ _ ⟨.val (encNeed p.1), .val (.int p.2), v7, by simp [stepW, ha]⟩
    | true =>
      have hcg : Gap.cg ∈ p.1 → cgL (inL L) ≠ [] := fun hc => by
        have := List.all_eq_true.mp ha _ hc
        have := of_decide_eq_true this
        rw [opn_cg] at this
        exact fun e => this (by rw [e]; rfl)
      obtain ⟨n, hn⟩ : ∃ n, n = p.2 + (if .cg ∈ p.1 ∧ hard (inL L) = true then 1 else 0) := ⟨_, rfl⟩
      simp only [stepW, ha, if_true, ← hn] at hJ
      simp [steps_call h (isOpen (inL L)) w pm hcg, ← hn]
      rcases q with _ | ⟨m, l⟩
      · simp [encF]
        exact hJ _ ⟨_, _, _, rfl⟩
      · simp [encF]
        by_cases lt : n < m
        · simp [lt]
          exact hJ _ ⟨_, _, _, by dsimp only; rw [if_pos lt]; rfl⟩
        · simp [lt]
          exact hJ _ ⟨_, _, _, by dsimp only; rw [if_neg lt]; rfl⟩
  · subst e
    rw [List.take_length]
    simp [best]
/-- what fewest_steps answers -/
def few (f : Gap → Bool) (hd b : Bool) (w : Wo) : Option Int := (best f hd b w).map (·.1)
def encFew : Option Int → T
  | none => .non
  | some m => .int m
include h in
theorem few_call (hm : ∀ m ∈ L, isMk m = true) (hz : L.length ≤ 16777000) (w : Wo) (s : S) :
    callR (C (k + 8)) "fewest_steps" none [.v (tblT L b), .v (Wo.enc w)] s = .ok (.v (encFew (few (isOpen (inL L)) (hard (inL L)) b w))) s := by
  refine call_eq (h.fewest (k + 7)) rfl rfl rfl ?_
  refine OkC.eq (run_C (env := [.val (tblT L b), .val (Wo.enc w), .none]) rfl (by decide) rfl ?_)
  simp [Sh.d_fewest_steps, h.checkC, short_call h hm hz, few]
  rcases best (isOpen (inL L)) (hard (inL L)) b w with _ | ⟨m, l⟩
  · simp [encF, encFew]
  · simp [encF, encFew]
end
end L2.TV

set_option maxHeartbeats 1000000
/-! Lists of marks: membership, sorting, any drawn table; the words. -/
namespace L2.TV
open PySem PySem.Spec PyProof.Rows
theorem pds_strs (l : List Str) : T.pds (l.map T.str) = some (l.map PyData.str) := by
  induction l with
  | nil => rfl
  | cons a l ih => simp only [List.map_cons, T.pds, T.pd, ih] <;> rfl
theorem pd_tupS (k : List Str) : (tupS k).pd = some (.tuple (k.map PyData.str)) := by simp only [tupS, T.pd, pds_strs, Option.map_some]
theorem pds_tupS (l : List (List Str)) : T.pds (l.map tupS) = some (l.map fun k => .tuple (k.map PyData.str)) := by
  induction l with
  | nil => rfl
  | cons a l ih => simp only [List.map_cons, T.pds, pd_tupS, ih]
theorem eqvs_strs : ∀ a b : List Str, PyData.eqvAll (a.map PyData.str) (b.map PyData.str) = decide (a = b)
  | [], [] => rfl
  | [], _ :: _ => rfl
  | _ :: _, [] => rfl
  | x :: a, y :: b => by
    simp only [List.map_cons, PyData.eqvAll, PyData.eqv, eqvs_strs a b]
    rw [Bool.eq_iff_iff]
    simp
theorem in_marks {m : List Str} (hm : m ∈ marks) {l : List (List Str)} (h : ∀ m ∈ l, m ∈ marks) (hl : l.length ≤ 8000) : inB (tupS m) (.lst (l.map tupS)) = some (decide (m ∈ l)) := by
  obtain ⟨D, e1, s1⟩ := (tupS_tm hm).shape (by decide)
  obtain ⟨E, e2, s2⟩ := (Tm.lst (marks_tm h)).shape (by decide)
  simp only [T.pd, pds_tupS, pd_tupS, Option.map_some, Option.some.injEq] at e1 e2
  subst e1 e2
  simp only [inB, pd_tupS, pds_tupS]
  rw [if_pos ⟨s1, s2⟩]
  congr 1
  rw [Bool.eq_iff_iff]
  simp [List.any_eq_true, PyData.eqv, eqvs_strs]
theorem in_marksT {m : List Str} (hm : m ∈ marks) {l : List (List Str)} (h : ∀ m ∈ l, m ∈ marks) (hl : l.length ≤ 8000) : inB (tupS m) (.tup (l.map tupS)) = some (decide (m ∈ l)) := in_marks hm h hl
theorem sort_marks {l : List (List Str)} (h : ∀ m ∈ l, m ∈ marks) (hl : l.length ≤ 16777216) : sortT (.lst (l.map tupS)) = some (.l ((sortK l).map tupS)) := by
  cases l with
  | nil => rfl
  | cons k l =>
    simp only [sortT, allI_tupS]
    have e1 : strsT ((k :: l).map tupS) = none := rfl
    rw [e1]
    simp only [sortTupT, allS_map]
    have hall : ((k :: l).all fun k => !k.isEmpty) = true := List.all_eq_true.mpr fun x hx => by
      have := (mark_ok (h x hx)).2.2
      simp [List.isEmpty_eq_false_iff, this]
    exact if_pos ⟨by rw [szLine]; exact hl, hall⟩
theorem marks_mk : (marks.all isMk) = true := by decide +kernel
theorem mark_mk {m : List Str} (h : m ∈ marks) : isMk m = true := List.all_eq_true.mp marks_mk m h
/-- the marks that matter -/
def crit : List (List Str) := gaps.flatMap fun g => (closers g).flatten
theorem crit_in {g : Gap} {l : List (List Str)} {m : List Str} (hl : l ∈ closers g) (hm : m ∈ l) : m ∈ crit := by
  refine List.mem_flatMap.mpr ⟨g, by cases g <;> decide, List.mem_flatten.mpr ⟨l, hl, hm⟩⟩
theorem opn_congr {k1 k2 : List Str → Bool} (h : ∀ m ∈ crit, k1 m = k2 m) (g : Gap) : opn k1 g = opn k2 g := by
  unfold opn
  refine List.filter_congr fun l hl => ?_
  have : l.any k1 = l.any k2 := by
    rw [Bool.eq_iff_iff, List.any_eq_true, List.any_eq_true]
    exact ⟨fun ⟨m, a, b⟩ => ⟨m, a, by rw [← h m (crit_in hl a)]; exact b⟩, fun ⟨m, a, b⟩ => ⟨m, a, by rw [h m (crit_in hl a)]; exact b⟩⟩
  rw [this]
theorem open_congr {k1 k2 : List Str → Bool} (h : ∀ m ∈ crit, k1 m = k2 m) : isOpen k1 = isOpen k2 := by
  funext g
  unfold isOpen
  rw [opn_congr h]
theorem hard_congr {k1 k2 : List Str → Bool} (h : ∀ m ∈ crit, k1 m = k2 m) : hard k1 = hard k2 := by
  have e : cgL k1 = cgL k2 := by
    unfold cgL
    refine List.filter_congr fun p hp => ?_
    have : mkC p ∈ crit := crit_in (g := .cg) (l := [mkC p]) (by
      show _ ∈ cutsOf "grey"
      rw [show cutsOf "grey" = cutP.map fun p => [mkC p] from rfl]
      exact List.mem_map_of_mem hp) (.head _)
    rw [h _ this]
  unfold hard entOf easyL
  rw [e]
/-! ### tables -/
namespace Sh
def d__law_any_table : FD := ⟨["_law_pot_here"], 4, [.par [1, 2] [.call "_law_take" [.var 0, .int 5], .call "_law_marks" []],
    .ite (.cmp .eq (.var 1) (.int 0)) [.ret (.tup [.fn .tuple [.var 2], .cmp .eq (.call "_law_take" [.var 0, .int 2]) (.int 0)])] [],
    .ite (.cmp .eq (.var 1) (.int 1)) [.ret (.tup [.tup [], .cmp .eq (.call "_law_take" [.var 0, .int 2]) (.int 0)])] [],
    .ite (.cmp .eq (.var 1) (.int 2)) [.ret (.tup [.fn .tuple [.lc (.var 3) (.name 3) (.e (.var 2)) (some (.cmp .eq (.call "_law_take" [.var 0, .int 2]) (.int 0))) [3]], .cmp .eq (.call "_law_take" [.var 0, .int 2]) (.int 0)])] [],
    .ret (.call "_law_table" [.var 0])]⟩
def d__law_words : FD := ⟨[], 0, [.ret (.lst [.str "clean", .str "covered", .str "direct", .str "safe", .str "strong", .str "weak"])]⟩
end Sh
theorem marks_Tbl : Tbl marks := ⟨fun m h => h, marks_nd⟩
section
variable {G G1 G2 G3 G4 G5 : Cfg} {dg : FD} {n k : Nat} {sto : List Cell}
/-- some of the items, drawn one by one -/
theorem draw_C {α : Type} (enc : α → T) (l : List α) {i : Nat} {env : List Slot} {P : Rt → S → Prop} {s : S} {src : Src} (HT : HasD G "_law_take" Sh.d__law_take G1) (h0 : env[0]? = some (.val (.ref n))) (hi0 : i ≠ 0) (hi : i < env.length)
    (hs : Ok1 (evSrc G src s) fun ts s' => ts = l.map enc ∧ s' = ⟨env, sto⟩) (hno : ((env.getD i .none).isOwn) = false) (hp : Pot n k sto) (hk : k < 2 ^ 40) (hz : l.length ≤ 1000000)
    (q : ∀ (sto' : List Cell) (l' : List α), (∀ x ∈ l', x ∈ l) → l'.Sublist l → Pot n (k + l.length) sto' → P (.l (l'.map enc)) ⟨env, sto'⟩) : Ok1 (ev G (.lc (.var i) (.name i) src (some (.cmp .eq (.call "_law_take" [.var 0, .int 2]) (.int 0))) [i]) s) P := by
  refine lcD enc enc l (fun j sto' acc => Pot n (k + j) sto' ∧ acc.Sublist (l.take j)) hs hno ⟨hp, by simp⟩ (fun j x sto' acc hx ⟨p1, a1⟩ => ?_) (by omega) fun sto' acc ⟨p1, a1⟩ _ => ?_
  · have jl := (List.getElem?_eq_some_iff.mp hx).1
    have e0 : (env.set i (.val (enc x)))[0]? = some (.val (.ref n)) := by rw [List.getElem?_set_ne hi0]; exact h0
    have tk : l.take (j + 1) = l.take j ++ [x] := by rw [List.take_succ, hx]; rfl
    simp [e0]
    refine take_call HT p1 (by omega) (by decide) (by decide) fun d sto2 d0 d1 p2 => ?_
    simp
    refine ⟨fun hd => ?_, fun hd => ⟨p2, ?_⟩⟩
    · simp [hi]
      refine ⟨x, rfl, p2, ?_⟩
      rw [tk]
      exact a1.append (List.Sublist.refl _)
    · rw [tk]
      exact a1.trans (List.sublist_append_left _ _)
  · rw [List.take_length] at a1
    exact q sto' acc (fun x hx => a1.subset hx) a1 p1
theorem any_C {P : T → List Cell → Prop} {dt : FD} (HA : HasD G "_law_table" dt G2) (hdt : dt.params.length = 1) (HT : HasD G "_law_take" Sh.d__law_take G1) (HM : HasD G "_law_marks" Sh.d__law_marks G5)
    (tbl : ∀ k sto (P : T → List Cell → Prop), Pot n k sto → k < 2 ^ 40 → (∀ ms b sto', Tbl ms → ms.length ≤ 36 → Pot n (k + 80) sto' → P (.tup [.tup (ms.map tupS), .bl b]) sto') → OkC (runF G2 dt [.ref n] sto) P)
    (hp : Pot n k sto) (hk : k < 2 ^ 39) (q : ∀ ms b sto', Tbl ms → ms.length ≤ 120 → Pot n (k + 200) sto' → P (tblT ms b) sto') : OkC (runF G Sh.d__law_any_table [.ref n] sto) P := by
  refine run_C (env := [.val (.ref n), .none, .none, .none]) rfl (by decide) rfl ?_
  simp [Sh.d__law_any_table]
  refine take_call HT hp (by omega) (by decide) (by decide) fun d sto1 d0 d1 p1 => ?_
  have hmk : ∀ s, callR G "_law_marks" none [] s = .ok (.v (.lst (marks.map tupS))) s := fun s => call_eq HM rfl rfl rfl (marks_run _ _)
  simp [hmk]
  by_cases c0 : d = 0
  · simp [c0]
    refine take_call HT p1 (by omega) (by decide) (by decide) fun e sto2 e0 e1 p2 => ?_
    simp
    exact q _ _ _ marks_Tbl (by rw [marks_len]; decide) (p2.mono (by omega))
  · simp [c0]
    by_cases c1 : d = 1
    · simp [c1]
      refine take_call HT p1 (by omega) (by decide) (by decide) fun e sto2 e0 e1 p2 => ?_
      simp
      exact q [] _ _ ⟨fun m h => (by cases h), List.Pairwise.nil⟩ (by decide) (p2.mono (by omega))
    · simp [c1]
      by_cases c2 : d = 2
      · simp [c2]
        refine draw_C tupS marks (sto := sto1) (env := [.val (.ref n), .val (.int 2), .val (.lst (marks.map tupS)), .none]) HT rfl (by decide) (by simp) (by simp) rfl p1 (by omega) (by rw [marks_len]; decide) fun sto2 l' hl hs p2 => ?_
        rw [marks_len] at p2
        simp
        refine take_call HT p2 (by omega) (by decide) (by decide) fun e sto3 e0 e1 p3 => ?_
        simp
        exact q l' _ _ ⟨hl, marks_nd.sublist hs⟩ (by have := hs.length_le; rw [marks_len] at this; exact this) (p3.mono (by omega))
      · simp [c2]
        refine call_C HA (ts := [.ref n]) rfl (by rw [hdt]; rfl) rfl ?_
        refine tbl _ _ _ p1 (by omega) fun ms b sto2 ht hl p2 => ?_
        simp
        exact q ms b _ ht (by omega) (p2.mono (by omega))
end
theorem add_lst {a b : List T} (h : a.length + b.length ≤ 16777216) : addT (.lst a) (.lst b) = some (.l (a ++ b)) := by
  simp [addT, h]
/-- on to what follows, with I -/
def NxI (I : S → Prop) : Fl → S → Prop := fun fl s => fl = .nx ∧ I s
@[simp] theorem NxI_n {I : S → Prop} {s : S} : NxI I .nx s = I s := by simp [NxI]
/-- a statement's end named ahead of what follows -/
theorem cut_x {G : Cfg} {a : IS} {r : List IS} {s : S} {Q : Fl → S → Prop} (I : S → Prop) (h1 : ∀ I' : S → Prop, (∀ s, I s → I' s) → Ok1 (ex G a s) (NxI I')) (h2 : ∀ s, I s → Ok1 (exs G r s) Q) : Ok1 (exs G (a :: r) s) Q := by
  rw [w_x1]
  refine (h1 I fun _ h => h).mono fun fl s q => ?_
  obtain ⟨rfl, q⟩ := q
  exact h2 s q
/-! ### what is told of a table -/
theorem step_bd {f : Gap → Bool} {hd : Bool} : ∀ (l : List (List Gap × Int)) (q : Option (Int × List Gap)), (∀ p ∈ l, 0 ≤ p.2 ∧ p.2 ≤ 5) → (∀ m n, q = some (m, n) → 0 ≤ m ∧ m ≤ 6) → ∀ m n, l.foldl (stepW f hd) q = some (m, n) → 0 ≤ m ∧ m ≤ 6
  | [], q, _, hq => hq
  | p :: l, q, hl, hq => by
    rw [List.foldl_cons]
    refine step_bd l _ (fun x hx => hl x (.tail _ hx)) fun m n e => ?_
    obtain ⟨b1, b2⟩ := hl p (.head _)
    unfold stepW at e
    obtain ⟨z, hz⟩ : ∃ z : Int, z = p.2 + (if .cg ∈ p.1 ∧ hd = true then 1 else 0) := ⟨_, rfl⟩
    have zb : 0 ≤ z ∧ z ≤ 6 := by rw [hz]; split <;> omega
    rw [← hz] at e
    clear hz
    split at e
    · rcases q with _ | ⟨m', n'⟩
      · simp only [Option.some.injEq, Prod.mk.injEq] at e
        obtain ⟨rfl, rfl⟩ := e
        exact zb
      · dsimp only at e
        split at e
        · simp only [Option.some.injEq, Prod.mk.injEq] at e
          obtain ⟨rfl, rfl⟩ := e
          exact zb
        · exact hq m n e
    · exact hq m n e
theorem ways_bd (b : Bool) (w : Wo) : ∀ p ∈ ways b w, 0 ≤ p.2 ∧ p.2 ≤ 5 := by cases b <;> cases w <;> decide
theorem few_bd {f : Gap → Bool} {hd b : Bool} {w : Wo} {m : Int} (h : few f hd b w = some m) : 0 ≤ m ∧ m ≤ 6 := by
  unfold few at h
  obtain ⟨⟨m', n⟩, e1, rfl⟩ := Option.map_eq_some_iff.mp h
  exact step_bd _ _ (ways_bd b w) (fun m n e => by cases e) _ _ e1
theorem few_tm (f : Gap → Bool) (hd b : Bool) (w : Wo) : Tm (encFew (few f hd b w)) 0 0 := by
  cases e : few f hd b w with
  | none => exact Tm.non
  | some m =>
    obtain ⟨h1, h2⟩ := few_bd e
    exact Tm.int (by omega) (by omega)
theorem wo_tm (w : Wo) : Tm (Wo.enc w) 0 9 := Tm.str (by cases w <;> decide +kernel)
theorem wos_tm (l : List Wo) : TmL (l.map Wo.enc) 0 (l.length * 10) := by
  have : TmL (l.map Wo.enc) 0 ((l.map Wo.enc).length * (9 + 1)) := TmL.of fun t ht => by
    obtain ⟨x, hx, rfl⟩ := List.mem_map.mp ht
    exact wo_tm x
  rwa [List.length_map] at this
theorem bls_tm (l : List Bool) : TmL (l.map T.bl) 0 (l.length * 1) := by
  have : TmL (l.map T.bl) 0 ((l.map T.bl).length * (0 + 1)) := TmL.of fun t ht => by
    obtain ⟨x, hx, rfl⟩ := List.mem_map.mp ht
    exact Tm.bl x
  rwa [List.length_map] at this
theorem wos_in (l : List Wo) (w : Wo) (hl : l.length ≤ 100) : inB (Wo.enc w) (.tup (l.map Wo.enc)) = some (decide (w ∈ l)) := by
  obtain ⟨D, e1, s1⟩ := (wo_tm w).shape (by decide)
  obtain ⟨E, e2, s2⟩ := (Tm.lst (wos_tm l)).shape (by decide)
  have ep : T.pds (l.map Wo.enc) = some (l.map fun w => .str w.s) := by
    have := pds_strs (l.map Wo.s)
    rw [List.map_map, List.map_map] at this
    exact this
  have e0 : (Wo.enc w).pd = some (.str w.s) := rfl
  simp only [T.pd, ep, e0, Option.map_some, Option.some.injEq] at e1 e2
  subst e1 e2
  simp only [inB, ep, e0]
  rw [if_pos ⟨s1, s2⟩]
  congr 1
  have inj : ∀ a b : Wo, a.s = b.s ↔ a = b := fun a b => ⟨fun e => by
    have : ∀ a b : Wo, decide (a.s = b.s) = decide (a = b) := by intro a b; cases a <;> cases b <;> decide +kernel
    have z := this a b
    rw [decide_eq_true e] at z
    exact of_decide_eq_true z.symm, fun e => by rw [e]⟩
  rw [Bool.eq_iff_iff]
  simp [List.any_eq_true, PyData.eqv, inj]
end L2.TV

set_option maxHeartbeats 1000000
/-! Tables near the edge. -/
namespace L2.TV
open PySem PySem.Spec PyProof.Rows
namespace Sh
def d__law_cuts : FD := ⟨["_law_pot_here", "_law_book"], 8, [.set 2 (.fn .list [.ix (.var 1) (.int 0)]),
    .for_ (.name 3) (.e (.tup [.str "grey", .str "white"])) [.for_ (.name 5) (.e (.tup [.str "scanned", .str "unscanned"])) [.for_ (.name 6) (.e (.tup [.str "black", .str "grey", .str "none", .str "white"])) [.mapp 2 (.tup [.str "store", .var 5, .var 3, .str "white", .var 6, .str "old"])]]],
    .par [5, 3] [.call "_law_of" [.var 0, .lst [.str "scanned", .str "unscanned"]], .call "_law_of" [.var 0, .lst [.str "grey", .str "white"]]],
    .setv 4 (.lst [.tup [.str "store", .str "scanned", .str "grey", .str "white", .str "white", .str "old"], .tup [.str "store", .var 5, .var 3, .str "white", .str "none", .str "old"]]),
    .setv 4 (.call "_law_of" [.var 0, .lst [.sl (.var 4) none (some (.int 1)), .sl (.var 4) (some (.int 1)) none, .var 4, .lst []]]),
    .ret (.tup [.fn .tuple [.lc (.var 7) (.name 7) (.e (.fn .sortset [.peek 2])) (some (.cmp .notin (.var 7) (.var 4))) [7]], .ix (.var 1) (.int 1)])]⟩
def d__law_opened : FD := ⟨["_law_pot_here", "_law_book"], 8, [.par [4, 5] [.call "_law_groups" [], .lst []],
    .setv 2 (.lst [.lst [.str "lgrey"], .lst [.str "lgrey", .str "lwhite"], .lst [.str "lgrey", .str "scannednone"], .lst [.str "scannedblack", .str "lwhite"], .lst []]),
    .for_ (.name 3) (.e (.call "_law_of" [.var 0, .var 2])) [.for_ (.name 6) (.e (.ix (.var 4) (.var 3))) [.mext 5 (.var 6)]],
    .ret (.tup [.fn .tuple [.lc (.var 7) (.name 7) (.e (.ix (.var 1) (.int 0))) (some (.cmp .notin (.var 7) (.peek 5))) [7]], .ix (.var 1) (.int 1)])]⟩
def d__law_edge : FD := ⟨["_law_pot_here"], 2, [.setv 1 (.call "_law_table" [.var 0]),
    .setv 1 (.call "_law_of" [.var 0, .lst [.var 1, .call "_law_cuts" [.var 0, .var 1]]]),
    .ret (.call "_law_of" [.var 0, .lst [.var 1, .call "_law_opened" [.var 0, .var 1], .call "_law_opened" [.var 0, .var 1]]])]⟩
def d__law_kinds : FD := ⟨[], 0, [.ret (.tup [.str "clean", .str "covered", .str "direct", .str "safe", .str "strong", .str "weak"])]⟩
end Sh
section
variable {G G1 G2 G3 G4 G5 : Cfg} {dg dt : FD} {n k : Nat} {sto : List Cell} {ms : List (List Str)} {b : Bool} {P : T → List Cell → Prop}
theorem cut3_in : ∀ c ∈ (["grey", "white"] : List String), ∀ t ∈ (["scanned", "unscanned"] : List String), ∀ n ∈ (["black", "grey", "none", "white"] : List String), stM t c "white" n "old" ∈ marks := by decide +kernel
def cutM : List (List Str) := (["grey", "white"] : List String).flatMap fun c => (["scanned", "unscanned"] : List String).flatMap fun t => (["black", "grey", "none", "white"] : List String).map fun n => stM t c "white" n "old"
theorem cutM_in : ∀ m ∈ cutM, m ∈ marks := by decide +kernel
theorem gone_in : ∀ t ∈ ([st "scanned", st "unscanned"] : List Str), ∀ c ∈ ([st "grey", st "white"] : List Str), ([st "store", t, c, st "white", st "none", st "old"] : List Str) ∈ marks := by decide +kernel
theorem gone0_in : stM "scanned" "grey" "white" "white" "old" ∈ marks := by decide +kernel
theorem dd_len2 (l : List (List Str)) : (dd l).length ≤ l.length := dd_len l
theorem cuts_C (HO : HasD G "_law_of" Sh.d__law_of G1) (HO1 : HasD G1 "_law_take" Sh.d__law_take G2) (hm : ∀ m ∈ ms, m ∈ marks) (hl : ms.length ≤ 36) (hp : Pot n k sto) (hk : k < 2 ^ 40)
    (q : ∀ ms' sto', (∀ m ∈ ms', m ∈ marks) → ms'.length ≤ 52 → Pot n (k + 3) sto' → P (tblT ms' b) sto') : OkC (runF G Sh.d__law_cuts [.ref n, tblT ms b] sto) P := by
  refine run_C (env := [.val (.ref n), .val (tblT ms b), .none, .none, .none, .none, .none, .none]) rfl (by decide) rfl ?_
  simp [Sh.d__law_cuts]
  refine Kfor_C (fun c : String => T.str (Str.ofString c)) ["grey", "white"] (fun j s => ∃ L v3 v5 v6, s = ⟨[.val (.ref n), .val (tblT ms b), .own (L.map tupS), v3, .none, v5, v6, .none], sto⟩ ∧ (∀ m ∈ L, m ∈ marks) ∧ L.length ≤ 36 + 8 * j) ⟨ms, _, _, _, rfl, hm, by omega⟩ (fun j c s J hj ⟨L, v3, v5, v6, e, l1, l2⟩ hJ => ?_) fun s ⟨L, v3, v5, v6, e, l1, l2⟩ => ?_
  · subst e
    have cm := List.mem_of_getElem? hj
    have jl : j < 2 := (List.getElem?_eq_some_iff.mp hj).1
    refine ⟨[.val (.ref n), .val (tblT ms b), .own (L.map tupS), .val (.str (Str.ofString c)), .none, v5, v6, .none], rfl, ?_⟩
    simp
    refine Kfor_C (fun c : String => T.str (Str.ofString c)) ["scanned", "unscanned"] (fun i s => ∃ M v5 v6, s = ⟨[.val (.ref n), .val (tblT ms b), .own (M.map tupS), .val (.str (Str.ofString c)), .none, v5, v6, .none], sto⟩ ∧ (∀ m ∈ M, m ∈ marks) ∧ M.length ≤ 36 + 8 * j + 4 * i) ⟨L, _, _, rfl, l1, by omega⟩ (fun i t s J2 hi ⟨M, v5, v6, e, m1, m2⟩ hJ2 => ?_) fun s ⟨M, v5, v6, e, m1, m2⟩ => ?_
    · subst e
      have tm := List.mem_of_getElem? hi
      have il : i < 2 := (List.getElem?_eq_some_iff.mp hi).1
      refine ⟨[.val (.ref n), .val (tblT ms b), .own (M.map tupS), .val (.str (Str.ofString c)), .none, .val (.str (Str.ofString t)), v6, .none], rfl, ?_⟩
      simp
      refine Kfor_C (fun c : String => T.str (Str.ofString c)) ["black", "grey", "none", "white"] (fun h s => ∃ N v6, s = ⟨[.val (.ref n), .val (tblT ms b), .own (N.map tupS), .val (.str (Str.ofString c)), .none, .val (.str (Str.ofString t)), v6, .none], sto⟩ ∧ (∀ m ∈ N, m ∈ marks) ∧ N.length ≤ 36 + 8 * j + 4 * i + h) ⟨M, _, rfl, m1, by omega⟩ (fun h w s J3 hh ⟨N, v6, e, n1, n2⟩ hJ3 => ?_) fun s ⟨N, v6, e, n1, n2⟩ => ?_
      · subst e
        have wm := List.mem_of_getElem? hh
        have hl4 : h < 4 := (List.getElem?_eq_some_iff.mp hh).1
        refine ⟨[.val (.ref n), .val (tblT ms b), .own (N.map tupS), .val (.str (Str.ofString c)), .none, .val (.str (Str.ofString t)), .val (.str (Str.ofString w)), .none], rfl, ?_⟩
        have z : N.length < 16777216 := by omega
        simp [z]
        refine hJ3 _ ⟨N ++ [stM t c "white" w "old"], _, by rw [List.map_append]; rfl, fun m h => ?_, by rw [List.length_append]; show N.length + 1 ≤ _; omega⟩
        rcases List.mem_append.mp h with h | h
        · exact n1 m h
        · rw [List.mem_singleton.mp h]
          exact cut3_in c cm t tm w wm
      · subst e
        simp
        exact hJ2 _ ⟨N, _, _, rfl, n1, by have : ([("black" : String), "grey", "none", "white"]).length = 4 := rfl; omega⟩
    · subst e
      simp
      exact hJ _ ⟨M, _, _, _, rfl, m1, by have : ([("scanned" : String), "unscanned"]).length = 2 := rfl; omega⟩
  · subst e
    have L52 : L.length ≤ 52 := l2
    simp
    refine of_call (n := n) (k := k) (l := [.str (Str.ofString "scanned"), .str (Str.ofString "unscanned")]) HO HO1 hp (by omega) rfl (.inl rfl) (by simp) (by decide) (fun h => by cases h) fun y sto1 hy p1 => ?_
    obtain ⟨t, ht, rfl⟩ : ∃ t : Str, t ∈ ([st "scanned", st "unscanned"] : List Str) ∧ y = .str t := by
      simp only [List.mem_cons, List.not_mem_nil, or_false] at hy
      rcases hy with rfl | rfl
      · exact ⟨_, .head _, rfl⟩
      · exact ⟨_, .tail _ (.head _), rfl⟩
    simp
    refine of_call (n := n) (k := k + 1) (l := [.str (Str.ofString "grey"), .str (Str.ofString "white")]) HO HO1 p1 (by omega) rfl (.inl rfl) (by simp) (by decide) (fun h => by cases h) fun y sto2 hy p2 => ?_
    obtain ⟨c, hc, rfl⟩ : ∃ t : Str, t ∈ ([st "grey", st "white"] : List Str) ∧ y = .str t := by
      simp only [List.mem_cons, List.not_mem_nil, or_false] at hy
      rcases hy with rfl | rfl
      · exact ⟨_, .head _, rfl⟩
      · exact ⟨_, .tail _ (.head _), rfl⟩
    have s1 : ∀ a b : T, slT (.lst [a, b]) none (some 1) = some (.l [a]) := fun _ _ => rfl
    have s2 : ∀ a b : T, slT (.lst [a, b]) (some 1) none = some (.l [b]) := fun _ _ => rfl
    simp [s1, s2]
    obtain ⟨A, hA⟩ : ∃ A, A = stM "scanned" "grey" "white" "white" "old" := ⟨_, rfl⟩
    obtain ⟨B, hB⟩ : ∃ B, B = ([st "store", t, c, st "white", st "none", st "old"] : List Str) := ⟨_, rfl⟩
    have Am : A ∈ marks := by rw [hA]; exact gone0_in
    have Bm : B ∈ marks := by rw [hB]; exact gone_in t ht c hc
    have eA : T.tup [T.str (Str.ofString "store"), T.str (Str.ofString "scanned"), T.str (Str.ofString "grey"), T.str (Str.ofString "white"), T.str (Str.ofString "white"), T.str (Str.ofString "old")] = tupS A := by rw [hA]; rfl
    have eB : T.tup [T.str (Str.ofString "store"), T.str t, T.str c, T.str (Str.ofString "white"), T.str (Str.ofString "none"), T.str (Str.ofString "old")] = tupS B := by rw [hB]; rfl
    rw [eA, eB]
    refine of_call (n := n) (k := k + 2) (l := [.lst [tupS A], .lst [tupS B], .lst [tupS A, tupS B], .lst []]) HO HO1 p2 (by omega) rfl (.inl rfl) (by simp) (by simp) (fun h => by cases h) fun y sto3 hy p3 => ?_
    obtain ⟨g, gm, gl, rfl⟩ : ∃ g : List (List Str), (∀ m ∈ g, m ∈ marks) ∧ g.length ≤ 2 ∧ y = .lst (g.map tupS) := by
      simp only [List.mem_cons, List.not_mem_nil, or_false] at hy
      rcases hy with rfl | rfl | rfl | rfl
      · exact ⟨[A], by simpa using Am, by simp, rfl⟩
      · exact ⟨[B], by simpa using Bm, by simp, rfl⟩
      · exact ⟨[A, B], by simpa using ⟨Am, Bm⟩, by simp, rfl⟩
      · exact ⟨[], by simp, by simp, rfl⟩
    have dl := dd_len L
    have sm : ∀ m ∈ sortK (dd L), m ∈ marks := fun m h => l1 m (mem_dd.mp ((sortK_perm _).mem_iff.mp h))
    have sl : (sortK (dd L)).length ≤ 52 := by rw [(sortK_perm _).length_eq]; omega
    simp
    rw [lcF tupS (sortK (dd L)) (fun m => !decide (m ∈ g)) (env := [.val (.ref n), .val (tblT ms b), .own (L.map tupS), .val (.str c), .val (.lst (g.map tupS)), .val (.str t), v6, .none]) (sto := sto3) (by simp [sortset_marks l1 (by omega)]) (by simp) rfl (fun m h => by
      simp [in_marks (sm m h) gm (by omega)]) (by omega)]
    simp
    exact q _ _ (fun m h => sm m (List.mem_filter.mp h).1) (Nat.le_trans (List.length_filter_le _ _) sl) p3
theorem grp_small : (gnames.all fun x => Nat.ble (grpOf x).length 8) = true := by decide +kernel
theorem grp_one {x : Str} (h : x ∈ gnames) : (grpOf x).length ≤ 8 ∧ ∀ l ∈ grpOf x, l.length ≤ 2 ∧ ∀ m ∈ l, m ∈ marks := by
  refine ⟨Nat.le_of_ble_eq_true (List.all_eq_true.mp grp_small x h), fun l hl => ?_⟩
  have := List.all_eq_true.mp (List.all_eq_true.mp grp_marks x h) l hl
  simp only [Bool.and_eq_true, List.all_eq_true, decide_eq_true_eq] at this
  exact ⟨Nat.le_of_ble_eq_true this.1.2, this.2⟩
theorem opened_C (HG : HasD G "_law_groups" dg G3) (hgp : dg.params = []) (hgr : ∀ sto, runF G3 dg [] sto = .ok (.dk groupsT) sto) (HO : HasD G "_law_of" Sh.d__law_of G1) (HO1 : HasD G1 "_law_take" Sh.d__law_take G2) (hm : ∀ m ∈ ms, m ∈ marks) (hl : ms.length ≤ 200) (hp : Pot n k sto) (hk : k < 2 ^ 40)
    (q : ∀ ms' sto', (∀ m ∈ ms', m ∈ ms) → ms'.length ≤ ms.length → Pot n (k + 1) sto' → P (tblT ms' b) sto') : OkC (runF G Sh.d__law_opened [.ref n, tblT ms b] sto) P := by
  refine run_C (env := [.val (.ref n), .val (tblT ms b), .none, .none, .none, .none, .none, .none]) rfl (by decide) rfl ?_
  have hg : ∀ s, callR G "_law_groups" none [] s = .ok (.v (.dk groupsT)) s := fun s => call_eq HG rfl (by rw [hgp]; rfl) rfl (hgr _)
  simp [Sh.d__law_opened, hg]
  obtain ⟨V2, hV⟩ : ∃ V2 : Slot, V2 = Slot.val (T.lst [T.lst [T.str (Str.ofString "lgrey")], T.lst [T.str (Str.ofString "lgrey"), T.str (Str.ofString "lwhite")], T.lst [T.str (Str.ofString "lgrey"), T.str (Str.ofString "scannednone")], T.lst [T.str (Str.ofString "scannedblack"), T.str (Str.ofString "lwhite")], T.lst []]) := ⟨_, rfl⟩
  rw [← hV]
  refine of_call (n := n) (k := k) (l := [T.lst [T.str (Str.ofString "lgrey")], T.lst [T.str (Str.ofString "lgrey"), T.str (Str.ofString "lwhite")], T.lst [T.str (Str.ofString "lgrey"), T.str (Str.ofString "scannednone")], T.lst [T.str (Str.ofString "scannedblack"), T.str (Str.ofString "lwhite")], T.lst []]) HO HO1 hp (by omega) rfl (.inl rfl) (by simp) (by simp) (fun h => by cases h) fun y sto1 hy p1 => ?_
  obtain ⟨xs, xm, xl, rfl⟩ : ∃ xs : List Str, (∀ x ∈ xs, x ∈ gnames) ∧ xs.length ≤ 2 ∧ y = .lst (xs.map .str) := by
    simp only [List.mem_cons, List.not_mem_nil, or_false] at hy
    rcases hy with rfl | rfl | rfl | rfl | rfl
    · exact ⟨[st "lgrey"], by decide +kernel, by simp, rfl⟩
    · exact ⟨[st "lgrey", st "lwhite"], by decide +kernel, by simp, rfl⟩
    · exact ⟨[st "lgrey", st "scannednone"], by decide +kernel, by simp, rfl⟩
    · exact ⟨[st "scannedblack", st "lwhite"], by decide +kernel, by simp, rfl⟩
    · exact ⟨[], by simp, by simp, rfl⟩
  clear hy
  simp
  refine Kfor_C T.str xs (fun j s => ∃ g v3 v6, s = ⟨[.val (.ref n), .val (tblT ms b), V2, v3, .val (.dk groupsT), .own (g.map tupS), v6, .none], sto1⟩ ∧ (∀ m ∈ g, m ∈ marks) ∧ g.length ≤ 16 * j) ⟨[], _, _, rfl, (fun m h => by cases h), Nat.zero_le _⟩ (fun j x s J hj ⟨g, v3, v6, e, g1, g2⟩ hJ => ?_) fun s ⟨g, v3, v6, e, g1, g2⟩ => ?_
  · subst e
    have hx := xm x (List.mem_of_getElem? hj)
    have jl := (List.getElem?_eq_some_iff.mp hj).1
    obtain ⟨gm1, gm2⟩ := grp_one hx
    refine ⟨[.val (.ref n), .val (tblT ms b), V2, .val (.str x), .val (.dk groupsT), .own (g.map tupS), v6, .none], rfl, ?_⟩
    have le : listOf (encG (grpOf x)) = some ((grpOf x).map fun l => .lst (l.map tupS)) := rfl
    have te : Rt.t (.v (encG (grpOf x))) = some (encG (grpOf x)) := rfl
    simp [groups_at hx, le, te]
    refine Kfor_C (fun l : List (List Str) => T.lst (l.map tupS)) (grpOf x) (fun i s => ∃ h v6, s = ⟨[.val (.ref n), .val (tblT ms b), V2, .val (.str x), .val (.dk groupsT), .own (h.map tupS), v6, .none], sto1⟩ ∧ (∀ m ∈ h, m ∈ marks) ∧ h.length ≤ 16 * j + 2 * i) ⟨g, _, rfl, g1, g2⟩ (fun i l s J2 hi ⟨h, v6, e, h1, h2⟩ hJ2 => ?_) fun s ⟨h, v6, e, h1, h2⟩ => ?_
    · subst e
      have il := (List.getElem?_eq_some_iff.mp hi).1
      obtain ⟨l1, l2⟩ := gm2 l (List.mem_of_getElem? hi)
      refine ⟨[.val (.ref n), .val (tblT ms b), V2, .val (.str x), .val (.dk groupsT), .own (h.map tupS), .val (.lst (l.map tupS)), .none], rfl, ?_⟩
      have z : h.length + l.length ≤ 16777216 := by omega
      simp [z]
      refine hJ2 _ ⟨h ++ l, _, by rw [List.map_append], fun m hm => (List.mem_append.mp hm).elim (h1 m) (l2 m), by rw [List.length_append]; omega⟩
    · subst e
      simp
      exact hJ _ ⟨h, _, _, rfl, h1, by omega⟩
  · subst e
    simp
    rw [lcF tupS ms (fun m => !decide (m ∈ g)) (env := [.val (.ref n), .val (tblT ms b), V2, v3, .val (.dk groupsT), .own (g.map tupS), v6, .none]) (sto := sto1) (by simp) (by simp) rfl (fun m h => by
      simp [in_marks (hm m h) g1 (by omega)]) (by omega)]
    simp
    exact q _ _ (fun m h => (List.mem_filter.mp h).1) (List.length_filter_le _ _) p1
end
structure Ep (C : Nat → Cfg) : Prop where
  take : ∀ k, HasD (C (k + 1)) "_law_take" Sh.d__law_take (C k)
  of_ : ∀ k, HasD (C (k + 1)) "_law_of" Sh.d__law_of (C k)
  marks : ∀ k, HasD (C (k + 1)) "_law_marks" Sh.d__law_marks (C k)
  table : ∀ k, HasD (C (k + 1)) "_law_table" Sh.d__law_table (C k)
  cuts : ∀ k, HasD (C (k + 1)) "_law_cuts" Sh.d__law_cuts (C k)
  opened : ∀ k, HasD (C (k + 1)) "_law_opened" Sh.d__law_opened (C k)
  edge : ∀ k, HasD (C (k + 1)) "_law_edge" Sh.d__law_edge (C k)
  groups : ∀ k, ∃ dg, HasD (C (k + 1)) "_law_groups" dg (C k) ∧ dg.params = [] ∧ ∀ sto, runF (C k) dg [] sto = .ok (.dk groupsT) sto
section
variable {C : Nat → Cfg} (h : Ep C) {n j k : Nat} {s : S} {P : Rt → S → Prop}
include h in
theorem table_call (hp : Pot n j s.sto) (hj : j < 2 ^ 40) (q : ∀ ms b sto', Tbl ms → ms.length ≤ 36 → Pot n (j + 80) sto' → P (.v (tblT ms b)) ⟨s.env, sto'⟩) : Ok1 (callR (C (k + 3)) "_law_table" none [.v (.ref n)] s) P := by
  obtain ⟨dg, g1, g2, g3⟩ := h.groups (k + 1)
  refine call_C (h.table (k + 2)) (ts := [.ref n]) rfl rfl rfl ?_
  exact table_G g1 g2 g3 (h.of_ (k + 1)) (h.take k) (h.take (k + 1)) (h.marks (k + 1)) hp hj fun ms b sto' h1 h2 h3 => q ms b sto' h1 h2 h3
include h in
theorem edge_call (hp : Pot n j s.sto) (hj : j < 2 ^ 39) (q : ∀ ms b sto', (∀ m ∈ ms, m ∈ TV.marks) → ms.length ≤ 52 → Pot n (j + 100) sto' → P (.v (tblT ms b)) ⟨s.env, sto'⟩) : Ok1 (callR (C (k + 4)) "_law_edge" none [.v (.ref n)] s) P := by
  refine call_C (h.edge (k + 3)) (ts := [.ref n]) rfl rfl rfl ?_
  refine run_C (env := [.val (.ref n), .none]) rfl (by decide) rfl ?_
  simp [Sh.d__law_edge]
  refine table_call h (k := k) hp (by omega) fun ms b sto1 t1 t2 p1 => ?_
  simp
  refine call_C (h.cuts (k + 2)) (ts := [.ref n, tblT ms b]) rfl rfl rfl ?_
  refine cuts_C (h.of_ (k + 1)) (h.take k) t1.1 t2 p1 (by omega) fun ms1 sto2 m1 m2 p2 => ?_
  simp
  refine of_call (n := n) (k := j + 83) (l := [tblT ms b, tblT ms1 b]) (h.of_ (k + 2)) (h.take (k + 1)) p2 (by omega) rfl (.inl rfl) (by simp) (by simp) (fun h => by cases h) fun y sto3 hy p3 => ?_
  obtain ⟨ms2, n1, n2, rfl⟩ : ∃ ms2, (∀ m ∈ ms2, m ∈ TV.marks) ∧ ms2.length ≤ 52 ∧ y = tblT ms2 b := by
    simp only [List.mem_cons, List.not_mem_nil, or_false] at hy
    rcases hy with rfl | rfl
    · exact ⟨ms, t1.1, by omega, rfl⟩
    · exact ⟨ms1, m1, m2, rfl⟩
  clear hy
  simp
  obtain ⟨dg, g1, g2, g3⟩ := h.groups (k + 1)
  refine call_C (h.opened (k + 2)) (ts := [.ref n, tblT ms2 b]) rfl rfl rfl ?_
  refine opened_C g1 g2 g3 (h.of_ (k + 1)) (h.take k) n1 (by omega) p3 (by omega) fun ms3 sto4 o1 o2 p4 => ?_
  simp
  refine call_C (h.opened (k + 2)) (ts := [.ref n, tblT ms2 b]) rfl rfl rfl ?_
  refine opened_C g1 g2 g3 (h.of_ (k + 1)) (h.take k) n1 (by omega) p4 (by omega) fun ms4 sto5 u1 u2 p5 => ?_
  simp
  refine of_call (n := n) (k := j + 83 + 1 + 1 + 1) (l := [tblT ms2 b, tblT ms3 b, tblT ms4 b]) (h.of_ (k + 2)) (h.take (k + 1)) p5 (by omega) rfl (.inl rfl) (by simp) (by simp) (fun h => by cases h) fun y sto6 hy p6 => ?_
  simp only [List.mem_cons, List.not_mem_nil, or_false] at hy
  rcases hy with rfl | rfl | rfl
  · simp
    exact q ms2 b _ n1 n2 (p6.mono (by omega))
  · simp
    exact q ms3 b _ (fun m hm => n1 m (o1 m hm)) (by omega) (p6.mono (by omega))
  · simp
    exact q ms4 b _ (fun m hm => n1 m (u1 m hm)) (by omega) (p6.mono (by omega))
end
namespace Sh
def d_lawA (m : Int) : FD := ⟨["_law_script"], 2, [.ret (.fn .all [.lc (.call "_law_right" [.call "_law_pot" [.var 0, .var 1]]) (.name 1) (.range1 (.fn .max2 [.int 1, .fn .min2 [.int m, .fn .len [.var 0]]])) none [1]])]⟩
end Sh
theorem lawA_C {G G1 G2 : Cfg} {dr : FD} {m : Int} {ns : List Int} (hm : 1 ≤ m) (hm2 : m ≤ 60) (HR : HasD G "_law_right" dr G1) (HP : HasD G "_law_pot" Sh.d__law_pot G2) (hr : dr.params.length = 1) (hns : ns.length ≤ 63)
    (right : ∀ n sto, Pot n 0 sto → OkC (runF G1 dr [.ref n] sto) fun t sto' => t = .bl true ∧ sto'.all Cell.flat = true) : OkC (runF G (Sh.d_lawA m) [.scr ns] []) fun t _ => t = .bl true := by
  refine run_C (env := [.val (.scr ns), .none]) rfl (by show 1 ≤ 2; decide) rfl ?_
  obtain ⟨c, hc⟩ : ∃ c : Nat, (c : Int) = max 1 (min m ns.length) := ⟨(max 1 (min m ns.length)).toNat, by omega⟩
  have cb : c ≤ 60 := by omega
  have hmm : min2T (.int m) (.int ns.length) = some (.v (.int (min m ns.length))) := by
    simp only [min2T, Option.some.injEq, Rt.v.injEq, T.int.injEq]; omega
  have hmx : max2T (.int 1) (.int (min m ns.length)) = some (.v (.int c)) := by
    simp only [max2T, Option.some.injEq, Rt.v.injEq, T.int.injEq]; omega
  simp [Sh.d_lawA]
  refine lcD (env := [.val (.scr ns), .none]) (sto := []) encN T.bl (List.range c) (fun j sto acc => sto.all Cell.flat = true ∧ ∀ x ∈ acc, x = true) (by
    simp [lenT, hmm, hmx]
    exact Krg_C (n := c) rfl (by omega) ⟨rfl, rfl⟩) rfl ⟨rfl, fun x h => by cases h⟩ (fun j x sto' acc hx ⟨i1, i2⟩ => ?_) (by rw [List.length_range]; omega) fun sto' acc ⟨i1, i2⟩ _ => ?_
  · have jl := (List.getElem?_eq_some_iff.mp hx).1
    rw [List.length_range] at jl
    have xe : x = j := by
      rw [List.getElem?_range jl] at hx
      exact (Option.some.inj hx).symm
    subst xe
    simp
    refine call_ok HP (ts := [.scr ns, encN x]) rfl rfl (pot_C (by omega) i1 fun sto1 p => ⟨fun z => (by cases z), ?_⟩)
    simp
    refine call_ok HR (ts := [.ref sto'.length]) rfl (by rw [hr]; rfl) ((right _ _ p).mono fun t sto2 h2 => ⟨fun z => ?_, ?_⟩)
    · cases z
    · obtain ⟨rfl, h3⟩ := h2
      exact ⟨rfl, rfl, by simpa using h3, fun hf => by have := i2 _ hf; cases this⟩
  · have ea : acc.all id = true := List.all_eq_true.mpr i2
    have := all_maps id acc
    simp only [id] at this
    simp [this]
    simpa using i2
end L2.TV

set_option maxHeartbeats 0
namespace K80
open PySem L2 L2.TV
def d_check_word : FD := ⟨["word"], 1, [.ite (.or (.not (.isi (.var 0) [.str])) (.cmp .notin (.var 0) (.cst "PROPERTIES"))) [.dead] []]⟩
def n_check_word : List Str := ["word"]
def d_ways_to_break : FD := ⟨["rescans", "word"], 2, [.ret (.ife (.cmp .eq (.var 1) (.cst "SAFE_judging")) (.tix "SAFE_WAYS" (.var 0)) (.tix "WAYS" (.var 1)))]⟩
def n_ways_to_break : List Str := ["rescans", "word"]
def d_marks_into_black : FD := ⟨["state", "old"], 3, [.ret (.fn .tuple [.lc (.tup [.str "store", .var 0, .cst "BLACK", .var 1, .cst "WHITE", .var 2]) (.name 2) (.e (.tup [.str "new", .str "holder"])) none [2]])]⟩
def n_marks_into_black : List Str := ["state", "old", "who"]
def d_cuts : FD := ⟨["holder"], 3, [.ret (.fn .tuple [.lc2 (.tup [.str "store", .var 1, .var 0, .cst "WHITE", .var 2, .str "old"]) (.name 1) (.e (.cst "STATES")) none (.name 2) (.e (.cst "NEW_VALUES")) none [1, 2] [2]])]⟩
def n_cuts : List Str := ["holder", "state", "new"]
def d_marks_that_close : FD := ⟨["gap"], 4, [.ite (.cmp .eq (.var 0) (.cst "NEW_WHITE")) [.ret (.tup [.tup [.tup [.str "new", .cst "SCANNED"]]])] [],
    .ite (.cmp .isin (.var 0) (.tup [.cst "LOAD_GREY", .cst "LOAD_WHITE", .cst "LOAD_BLACK"])) [.ret (.tup [.tup [.tup [.str "load", .cst "SCANNED", .sl (.var 0) (some (.fn .len [.str "load_"])) none]]])] [],
    .ite (.cmp .eq (.var 0) (.cst "OVER_WHITE")) [.ret (.tup [.call "marks_into_black" [.cst "UNSCANNED", .cst "WHITE"]])] [],
    .ite (.tin false "HOLDER_OF_CUT" (.var 0)) [.ret (.fn .tuple [.lc (.tup [.var 3]) (.name 3) (.e (.call "cuts" [.tix "HOLDER_OF_CUT" (.var 0)])) none [3]])] [],
    .setv 1 (.ife (.cmp .eq (.var 0) (.cst "BY_SCANNED")) (.cst "SCANNED") (.cst "UNSCANNED")),
    .ret (.fn .tuple [.lc (.call "marks_into_black" [.var 1, .var 2]) (.name 2) (.e (.cst "OLD_VALUES")) none [2]])]⟩
def n_marks_that_close : List Str := ["gap", "state", "old", "mark"]
def d_known_marks : FD := ⟨["table"], 2, [.ret (.dcT (.var 1) (.bl true) (.name 1) (.e (.ix (.var 0) (.int 0))) none [1])]⟩
def n_known_marks : List Str := ["table", "mark"]
def d_open_marks : FD := ⟨["known", "gap"], 4, [.ret (.lc (.var 2) (.name 2) (.e (.call "marks_that_close" [.var 1])) (some (.not (.fn .any [.lc (.cmp .isin (.var 3) (.var 0)) (.name 3) (.e (.var 2)) none [3]]))) [2])]⟩
def n_open_marks : List Str := ["known", "gap", "some", "mark"]
def d_gaps_of : FD := ⟨["table"], 3, [.setv 1 (.call "known_marks" [.var 0]),
    .ret (.dcK (.var 2) (.cmp .ne (.call "open_marks" [.var 1, .var 2]) (.lst [])) (.name 2) (.e (.cst "GAPS")) none [2])]⟩
def n_gaps_of : List Str := ["table", "known", "gap"]
def d_breaks : FD := ⟨["gaps", "rescans", "word"], 6, [.ret (.fn .any [.lc (.fn .all [.lc (.ix (.var 0) (.var 5)) (.name 5) (.e (.var 3)) none [5]]) (.tup [.name 3, .name 4]) (.e (.call "ways_to_break" [.var 1, .var 2])) none [3, 4]])]⟩
def n_breaks : List Str := ["gaps", "rescans", "word", "needed", "count", "gap"]
def d_holds : FD := ⟨["table", "word"], 2, [.expr (.call "check_word" [.var 1]),
    .ret (.not (.call "breaks" [.call "gaps_of" [.var 0], .ix (.var 0) (.int 1), .var 1]))]⟩
def n_holds : List Str := ["table", "word"]
def d_properties_of : FD := ⟨["table"], 2, [.ret (.fn .tuple [.lc (.var 1) (.name 1) (.e (.cst "PROPERTIES")) (some (.call "holds" [.var 0, .var 1])) [1]])]⟩
def n_properties_of : List Str := ["table", "word"]
def d_cut_entry : FD := ⟨["known", "gap"], 6, [.setv 2 (.lc (.tup [.ix (.ix (.var 4) (.int 0)) (.int 1), .ix (.ix (.var 4) (.int 0)) (.int 4)]) (.name 4) (.e (.call "open_marks" [.var 0, .var 1])) none [4]),
    .setv 3 (.lc (.var 5) (.name 5) (.e (.var 2)) (some (.cmp .ne (.var 5) (.tup [.cst "SCANNED", .cst "WHITE"]))) [5]),
    .ret (.ife (.cmp .ne (.var 3) (.lst [])) (.ix (.var 3) (.int 0)) (.ix (.var 2) (.int 0)))]⟩
def n_cut_entry : List Str := ["known", "gap", "some", "easy", "marks", "entry"]
def d_steps_of_way : FD := ⟨["known", "needed", "count"], 3, [.ret (.bin .add (.var 2) (.fn .int [.and (.cmp .isin (.cst "CUT_GREY") (.var 1)) (.cmp .eq (.call "cut_entry" [.var 0, .cst "CUT_GREY"]) (.tup [.cst "SCANNED", .cst "WHITE"]))]))]⟩
def n_steps_of_way : List Str := ["known", "needed", "count"]
def d_shortest_way : FD := ⟨["table", "word"], 9, [.par [2, 3, 4] [.call "gaps_of" [.var 0], .call "known_marks" [.var 0], .non],
    .for_ (.tup [.name 5, .name 6]) (.e (.call "ways_to_break" [.ix (.var 0) (.int 1), .var 1])) [.ite (.fn .all [.lc (.ix (.var 2) (.var 8)) (.name 8) (.e (.var 5)) none [8]]) [.setv 7 (.call "steps_of_way" [.var 3, .var 5, .var 6]),
    .ite (.or (.cmp .is (.var 4) .non) (.cmp .lt (.var 7) (.ix (.var 4) (.int 0)))) [.setv 4 (.tup [.var 7, .var 5])] []] []],
    .ret (.var 4)]⟩
def n_shortest_way : List Str := ["table", "word", "gaps", "known", "found", "needed", "count", "many", "gap"]
def d_fewest_steps : FD := ⟨["table", "word"], 3, [.expr (.call "check_word" [.var 1]),
    .setv 2 (.call "shortest_way" [.var 0, .var 1]),
    .ret (.ife (.cmp .is (.var 2) .non) .non (.ix (.var 2) (.int 0)))]⟩
def n_fewest_steps : List Str := ["table", "word", "found"]
def d__law_pot : FD := ⟨["_law_script", "_law_k"], 4, [.setv 2 (.ife (.cmp .lt (.var 1) (.fn .len [.var 0])) (.ix (.var 0) (.var 1)) (.bin .add (.bin .mul (.int 17) (.var 1)) (.int 5))),
    .setv 3 (.bin .mul (.bin .mod (.fn .abs [.var 2]) (.bin .pow (.bin .pow (.int 10) (.int 60)) (.int 5))) (.fn .int [.cmp .ge (.fn .abs [.var 2]) (.bin .pow (.int 10) (.int 18))])),
    .ret (.cel [.var 3, .bin .mod (.bin .add (.bin .add (.bin .mul (.bin .mod (.var 2) (.int 2305843009213693951)) (.int 48271)) (.bin .mul (.bin .mul (.int 6907) (.var 1)) (.var 1))) (.int 23)) (.int 2305843009213693907), .int 0])]⟩
def n__law_pot : List Str := ["_law_script", "_law_k", "_law_cell", "_law_own"]
def d__law_take : FD := ⟨["_law_pot_here", "_law_many"], 5, [.ite (.cmp .gt (.ix (.var 0) (.int 0)) (.int 0)) [.setv 4 (.bin .mod (.ix (.var 0) (.int 0)) (.var 1)),
    .six (.var 0) (.int 0) (.bin .fdiv (.ix (.var 0) (.int 0)) (.var 1)),
    .ret (.var 4)] [],
    .six (.var 0) (.int 2) (.bin .add (.ix (.var 0) (.int 2)) (.int 1)),
    .setv 2 (.ix (.lst [.int 2147483647, .int 2147483629, .int 2147483587, .int 2147483579, .int 2147483563]) (.bin .mod (.ix (.var 0) (.int 2)) (.int 5))),
    .setv 3 (.bin .mod (.bin .pow (.bin .add (.bin .add (.ix (.var 0) (.int 1)) (.bin .mul (.bin .mul (.int 65537) (.ix (.var 0) (.int 2))) (.ix (.var 0) (.int 2)))) (.int 41)) (.int 3)) (.var 2)),
    .ret (.bin .mod (.bin .fdiv (.bin .mod (.bin .mul (.var 3) (.bin .add (.bin .mod (.var 3) (.int 10007)) (.bin .mul (.int 89) (.ix (.var 0) (.int 2))))) (.int 2305843009213693921)) (.int 101)) (.var 1))]⟩
def n__law_take : List Str := ["_law_pot_here", "_law_many", "_law_prime", "_law_mixed", "_law_digit"]
def d__law_of : FD := ⟨["_law_pot_here", "_law_some"], 2, [.ret (.ix (.var 1) (.call "_law_take" [.var 0, .fn .len [.var 1]]))]⟩
def n__law_of : List Str := ["_law_pot_here", "_law_some"]
def d__law_marks : FD := ⟨[], 8, [.set 0 (.lst []),
    .for_ (.name 1) (.e (.tup [.str "scanned", .str "unscanned"])) [.mapp 0 (.tup [.str "new", .var 1]),
    .mext 0 (.lc (.tup [.str "load", .var 1, .var 5]) (.name 5) (.e (.tup [.str "black", .str "grey", .str "white"])) none [5]),
    .for_ (.name 2) (.e (.tup [.str "black", .str "grey", .str "white"])) [.for_ (.name 3) (.e (.tup [.str "black", .str "grey", .str "none", .str "white"])) [.for_ (.name 4) (.e (.tup [.str "black", .str "grey", .str "none", .str "white"])) [.setv 6 (.bin .add (.bin .mul (.lst [.str "holder"]) (.fn .int [.cmp .ne (.var 2) (.str "grey")])) (.bin .mul (.lst [.str "new"]) (.fn .int [.cmp .eq (.var 4) (.str "white")]))),
    .setv 6 (.bin .add (.var 6) (.bin .mul (.lst [.str "old"]) (.fn .int [.cmp .eq (.var 3) (.str "white")]))),
    .mext 0 (.lc (.tup [.str "store", .var 1, .var 2, .var 3, .var 4, .var 7]) (.name 7) (.e (.var 6)) none [7])]]]],
    .ret (.fn .sorted [.peek 0])]⟩
def n__law_marks : List Str := ["_law_found", "_law_thread", "_law_box", "_law_was", "_law_now", "_law_colour", "_law_some", "_law_who"]
def d__law_groups : FD := ⟨[], 8, [.set 0 (.dispK [.lst [.lst [.tup [.str "new", .str "scanned"]]]] [.s "n"]),
    .for_ (.name 1) (.e (.tup [.str "black", .str "grey", .str "white"])) [.six (.peek 0) (.bin .add (.str "l") (.var 1)) (.lst [.lst [.tup [.str "load", .str "scanned", .var 1]]])],
    .for_ (.name 2) (.e (.tup [.str "scanned", .str "unscanned"])) [.for_ (.name 4) (.e (.tup [.str "black", .str "grey", .str "none", .str "white"])) [.six (.peek 0) (.bin .add (.var 2) (.var 4)) (.lst [.lc (.tup [.str "store", .var 2, .str "black", .var 4, .str "white", .var 7]) (.name 7) (.e (.tup [.str "holder", .str "new"])) none [7]])]],
    .for_ (.name 3) (.e (.tup [.str "grey", .str "white"])) [.set 5 (.lst []),
    .for_ (.name 2) (.e (.tup [.str "scanned", .str "unscanned"])) [.for_ (.name 6) (.e (.tup [.str "black", .str "grey", .str "none", .str "white"])) [.mapp 5 (.lst [.tup [.str "store", .var 2, .var 3, .str "white", .var 6, .str "old"]])]],
    .six (.peek 0) (.bin .add (.str "c") (.var 3)) (.var 5)],
    .ret (.var 0)]⟩
def n__law_groups : List Str := ["_law_found", "_law_colour", "_law_thread", "_law_box", "_law_was", "_law_some", "_law_now", "_law_who"]
def d__law_table : FD := ⟨["_law_pot_here"], 8, [.par [5, 6] [.call "_law_groups" [], .lst []],
    .setv 1 (.call "_law_of" [.var 0, .lst [.int 1, .int 2, .int 4]]),
    .for_ (.name 2) (.e (.fn .sorted [.var 5])) [.for_ (.name 7) (.e (.ix (.var 5) (.var 2))) [.ite (.or (.cmp .gt (.call "_law_take" [.var 0, .ife (.cmp .eq (.fn .len [.ix (.var 5) (.var 2)]) (.int 1)) (.int 4) (.int 24)]) (.int 0)) (.cmp .eq (.var 1) (.int 1))) [.mapp 6 (.call "_law_of" [.var 0, .var 7])] []]],
    .setv 3 (.call "_law_marks" []),
    .for_ (.name 4) (.range1 (.call "_law_take" [.var 0, .int 9])) [.mapp 6 (.call "_law_of" [.var 0, .var 3])],
    .for_ (.name 4) (.range1 (.bin .sub (.var 1) (.int 1))) [.ite (.cmp .ne (.peek 6) (.lst [])) [.mrem 6 (.call "_law_of" [.var 0, .peek 6])] []],
    .ret (.tup [.fn .tuple [.fn .sortset [.peek 6]], .cmp .eq (.call "_law_take" [.var 0, .int 2]) (.int 0)])]⟩
def n__law_table : List Str := ["_law_pot_here", "_law_rough", "_law_name", "_law_every", "_law_turn", "_law_groups_here", "_law_marks_here", "_law_some"]
def d__law_kinds : FD := ⟨[], 0, [.ret (.tup [.str "clean", .str "covered", .str "direct", .str "safe", .str "strong", .str "weak"])]⟩
def n__law_kinds : List Str := []
def d__law_cuts : FD := ⟨["_law_pot_here", "_law_book"], 8, [.set 2 (.fn .list [.ix (.var 1) (.int 0)]),
    .for_ (.name 3) (.e (.tup [.str "grey", .str "white"])) [.for_ (.name 5) (.e (.tup [.str "scanned", .str "unscanned"])) [.for_ (.name 6) (.e (.tup [.str "black", .str "grey", .str "none", .str "white"])) [.mapp 2 (.tup [.str "store", .var 5, .var 3, .str "white", .var 6, .str "old"])]]],
    .par [5, 3] [.call "_law_of" [.var 0, .lst [.str "scanned", .str "unscanned"]], .call "_law_of" [.var 0, .lst [.str "grey", .str "white"]]],
    .setv 4 (.lst [.tup [.str "store", .str "scanned", .str "grey", .str "white", .str "white", .str "old"], .tup [.str "store", .var 5, .var 3, .str "white", .str "none", .str "old"]]),
    .setv 4 (.call "_law_of" [.var 0, .lst [.sl (.var 4) none (some (.int 1)), .sl (.var 4) (some (.int 1)) none, .var 4, .lst []]]),
    .ret (.tup [.fn .tuple [.lc (.var 7) (.name 7) (.e (.fn .sortset [.peek 2])) (some (.cmp .notin (.var 7) (.var 4))) [7]], .ix (.var 1) (.int 1)])]⟩
def n__law_cuts : List Str := ["_law_pot_here", "_law_book", "_law_marks_here", "_law_colour", "_law_gone", "_law_thread", "_law_new", "_law_mark"]
def d__law_opened : FD := ⟨["_law_pot_here", "_law_book"], 8, [.par [4, 5] [.call "_law_groups" [], .lst []],
    .setv 2 (.lst [.lst [.str "lgrey"], .lst [.str "lgrey", .str "lwhite"], .lst [.str "lgrey", .str "scannednone"], .lst [.str "scannedblack", .str "lwhite"], .lst []]),
    .for_ (.name 3) (.e (.call "_law_of" [.var 0, .var 2])) [.for_ (.name 6) (.e (.ix (.var 4) (.var 3))) [.mext 5 (.var 6)]],
    .ret (.tup [.fn .tuple [.lc (.var 7) (.name 7) (.e (.ix (.var 1) (.int 0))) (some (.cmp .notin (.var 7) (.peek 5))) [7]], .ix (.var 1) (.int 1)])]⟩
def n__law_opened : List Str := ["_law_pot_here", "_law_book", "_law_some", "_law_name", "_law_groups_here", "_law_gone", "_law_marks_here", "_law_mark"]
def d__law_edge : FD := ⟨["_law_pot_here"], 2, [.setv 1 (.call "_law_table" [.var 0]),
    .setv 1 (.call "_law_of" [.var 0, .lst [.var 1, .call "_law_cuts" [.var 0, .var 1]]]),
    .ret (.call "_law_of" [.var 0, .lst [.var 1, .call "_law_opened" [.var 0, .var 1], .call "_law_opened" [.var 0, .var 1]]])]⟩
def n__law_edge : List Str := ["_law_pot_here", "_law_book"]
def d__law_steps : FD := ⟨["_law_book"], 2, [.ret (.fn .dictK [.lc (.tup [.var 1, .ife (.call "holds" [.var 0, .var 1]) (.int 9) (.call "fewest_steps" [.var 0, .var 1])]) (.name 1) (.e (.call "_law_kinds" [])) none [1]])]⟩
def n__law_steps : List Str := ["_law_book", "_law_kind"]
def d__law_book_right : FD := ⟨["_law_book"], 7, [.par [1, 2] [.call "properties_of" [.var 0], .call "_law_steps" [.var 0]],
    .for_ (.tup [.name 3, .name 4]) (.e (.tup [.tup [.str "strong", .str "weak"], .tup [.str "clean", .str "direct"], .tup [.str "direct", .str "covered"]])) [.ite (.or (.and (.cmp .isin (.var 3) (.var 1)) (.cmp .notin (.var 4) (.var 1))) (.cmp .gt (.ix (.var 2) (.var 3)) (.ix (.var 2) (.var 4)))) [.ret (.bl false)] []],
    .ite (.not (.fn .all [.lcI (.or (.cmp .eq (.var 6) (.int 9)) (.chn .le .le (.int 1) (.var 6) (.int 5))) (.name 6) true (.var 2) none [6]])) [.ret (.bl false)] [],
    .ite (.cmp .ne (.lc (.var 5) (.name 5) (.e (.call "_law_kinds" [])) (some (.cmp .eq (.ix (.var 2) (.var 5)) (.int 9))) [5]) (.fn .list [.var 1])) [.ret (.bl false)] [],
    .ite (.ix (.var 0) (.int 1)) [.ret (.cmp .eq (.ix (.var 2) (.str "safe")) (.fn .min2 [.int 9, .bin .add (.ix (.var 2) (.str "weak")) (.int 1)]))] [],
    .ite (.cmp .ne (.cmp .isin (.str "safe") (.var 1)) (.and (.cmp .isin (.str "weak") (.var 1)) (.cmp .isin (.str "covered") (.var 1)))) [.ret (.bl false)] [],
    .ret (.and (.cmp .le (.ix (.var 2) (.str "safe")) (.fn .min2 [.int 9, .bin .add (.ix (.var 2) (.str "weak")) (.int 1)])) (.cmp .le (.ix (.var 2) (.str "safe")) (.ix (.var 2) (.str "covered"))))]⟩
def n__law_book_right : List Str := ["_law_book", "_law_kept", "_law_many", "_law_first", "_law_second", "_law_kind", "_law_one"]
def d__law_right : FD := ⟨["_law_pot_here"], 3, [.for_ (.name 1) (.range1 (.int 10)) [.setv 2 (.call "_law_edge" [.var 0]),
    .ite (.or (.not (.call "_law_book_right" [.var 2])) (.not (.call "_law_book_right" [.tup [.ix (.var 2) (.int 0), .not (.ix (.var 2) (.int 1))]]))) [.ret (.bl false)] []],
    .ret (.bl true)]⟩
def n__law_right : List Str := ["_law_pot_here", "_law_turn", "_law_book"]
def d_law : FD := ⟨["_law_script"], 2, [.ret (.fn .all [.lc (.call "_law_right" [.call "_law_pot" [.var 0, .var 1]]) (.name 1) (.range1 (.fn .max2 [.int 1, .fn .min2 [.int 3, .fn .len [.var 0]]])) none [1]])]⟩
def n_law : List Str := ["_law_script", "_law_k"]
def top (i : Nat) : Stmt := PySem.Challenge.pw_shadebarriers_k80_whole_how_properties_b.main.body.getD i (.Pass ⟨0, 0, 0, 0⟩)
def rows : List Row := [⟨"check_word", top 11, n_check_word, d_check_word⟩, ⟨"ways_to_break", top 36, n_ways_to_break, d_ways_to_break⟩, ⟨"marks_into_black", top 37, n_marks_into_black, d_marks_into_black⟩, ⟨"cuts", top 38, n_cuts, d_cuts⟩, ⟨"marks_that_close", top 39, n_marks_that_close, d_marks_that_close⟩, ⟨"known_marks", top 40, n_known_marks, d_known_marks⟩, ⟨"open_marks", top 41, n_open_marks, d_open_marks⟩, ⟨"gaps_of", top 42, n_gaps_of, d_gaps_of⟩, ⟨"breaks", top 43, n_breaks, d_breaks⟩, ⟨"holds", top 44, n_holds, d_holds⟩, ⟨"properties_of", top 45, n_properties_of, d_properties_of⟩, ⟨"cut_entry", top 46, n_cut_entry, d_cut_entry⟩, ⟨"steps_of_way", top 47, n_steps_of_way, d_steps_of_way⟩, ⟨"shortest_way", top 48, n_shortest_way, d_shortest_way⟩, ⟨"fewest_steps", top 49, n_fewest_steps, d_fewest_steps⟩, ⟨"_law_pot", top 51, n__law_pot, d__law_pot⟩, ⟨"_law_take", top 52, n__law_take, d__law_take⟩, ⟨"_law_of", top 53, n__law_of, d__law_of⟩, ⟨"_law_marks", top 54, n__law_marks, d__law_marks⟩, ⟨"_law_groups", top 55, n__law_groups, d__law_groups⟩, ⟨"_law_table", top 56, n__law_table, d__law_table⟩, ⟨"_law_kinds", top 57, n__law_kinds, d__law_kinds⟩, ⟨"_law_cuts", top 58, n__law_cuts, d__law_cuts⟩, ⟨"_law_opened", top 59, n__law_opened, d__law_opened⟩, ⟨"_law_edge", top 60, n__law_edge, d__law_edge⟩, ⟨"_law_steps", top 61, n__law_steps, d__law_steps⟩, ⟨"_law_book_right", top 62, n__law_book_right, d__law_book_right⟩, ⟨"_law_right", top 63, n__law_right, d__law_right⟩, ⟨"law", top 64, n_law, d_law⟩]
end K80

namespace K80
open PySem PySem.Spec PyProof.Rows L2 L2.TV
def cs : List (String × T) := [("CLEAN", .str (Str.ofString "clean")), ("COVERED", .str (Str.ofString "covered")), ("DIRECT", .str (Str.ofString "direct")), ("SAFE_properties", .str (Str.ofString "safe")), ("STRONG", .str (Str.ofString "strong")), ("WEAK", .str (Str.ofString "weak")), ("PROPERTIES", .tup [.str (Str.ofString "clean"), .str (Str.ofString "covered"), .str (Str.ofString "direct"), .str (Str.ofString "safe"), .str (Str.ofString "strong"), .str (Str.ofString "weak")]), ("SAFE_judging", .str (Str.ofString "safe")), ("SCANNED", .str (Str.ofString "scanned")), ("UNSCANNED", .str (Str.ofString "unscanned")), ("STATES", .tup [.str (Str.ofString "scanned"), .str (Str.ofString "unscanned")]), ("BLACK", .str (Str.ofString "black")), ("GREY", .str (Str.ofString "grey")), ("WHITE", .str (Str.ofString "white")), ("NONE", .str (Str.ofString "none")), ("OLD_VALUES", .tup [.str (Str.ofString "none"), .str (Str.ofString "grey"), .str (Str.ofString "black")]), ("NEW_VALUES", .tup [.str (Str.ofString "none"), .str (Str.ofString "grey"), .str (Str.ofString "black"), .str (Str.ofString "white")]), ("NEW_WHITE", .str (Str.ofString "new_white")), ("LOAD_GREY", .str (Str.ofString "load_grey")), ("LOAD_WHITE", .str (Str.ofString "load_white")), ("LOAD_BLACK", .str (Str.ofString "load_black")), ("BY_UNSCANNED", .str (Str.ofString "by_unscanned")), ("OVER_WHITE", .str (Str.ofString "by_unscanned_over_white")), ("BY_SCANNED", .str (Str.ofString "by_scanned")), ("CUT_GREY", .str (Str.ofString "cut_grey")), ("CUT_WHITE", .str (Str.ofString "cut_white")), ("GAPS", .tup [.str (Str.ofString "new_white"), .str (Str.ofString "load_grey"), .str (Str.ofString "load_white"), .str (Str.ofString "load_black"), .str (Str.ofString "by_unscanned"), .str (Str.ofString "by_unscanned_over_white"), .str (Str.ofString "by_scanned"), .str (Str.ofString "cut_grey"), .str (Str.ofString "cut_white")])]
def ts : List (String × Tab) := [("WAYS", .s [((Str.ofString "clean"), .tup [.tup [.tup [.str (Str.ofString "new_white")], .int 1], .tup [.tup [.str (Str.ofString "load_grey")], .int 1], .tup [.tup [.str (Str.ofString "by_unscanned"), .str (Str.ofString "load_black")], .int 2]]), ((Str.ofString "covered"), .tup [.tup [.tup [.str (Str.ofString "new_white")], .int 1], .tup [.tup [.str (Str.ofString "load_grey"), .str (Str.ofString "cut_grey")], .int 2], .tup [.tup [.str (Str.ofString "by_unscanned"), .str (Str.ofString "load_black")], .int 2], .tup [.tup [.str (Str.ofString "load_grey"), .str (Str.ofString "load_white"), .str (Str.ofString "cut_white")], .int 3], .tup [.tup [.str (Str.ofString "load_grey"), .str (Str.ofString "by_scanned"), .str (Str.ofString "by_unscanned_over_white"), .str (Str.ofString "load_black")], .int 4]]), ((Str.ofString "direct"), .tup [.tup [.tup [.str (Str.ofString "new_white")], .int 1], .tup [.tup [.str (Str.ofString "load_grey"), .str (Str.ofString "cut_grey")], .int 2], .tup [.tup [.str (Str.ofString "load_grey"), .str (Str.ofString "load_white")], .int 2], .tup [.tup [.str (Str.ofString "by_unscanned"), .str (Str.ofString "load_black")], .int 2], .tup [.tup [.str (Str.ofString "load_grey"), .str (Str.ofString "by_scanned"), .str (Str.ofString "by_unscanned_over_white"), .str (Str.ofString "load_black")], .int 4]]), ((Str.ofString "strong"), .tup [.tup [.tup [.str (Str.ofString "by_unscanned")], .int 1], .tup [.tup [.str (Str.ofString "new_white"), .str (Str.ofString "by_scanned")], .int 2], .tup [.tup [.str (Str.ofString "load_grey"), .str (Str.ofString "by_scanned")], .int 2]]), ((Str.ofString "weak"), .tup [.tup [.tup [.str (Str.ofString "by_unscanned")], .int 1], .tup [.tup [.str (Str.ofString "new_white"), .str (Str.ofString "by_scanned")], .int 2], .tup [.tup [.str (Str.ofString "load_grey"), .str (Str.ofString "by_scanned"), .str (Str.ofString "cut_grey")], .int 3], .tup [.tup [.str (Str.ofString "load_grey"), .str (Str.ofString "by_scanned"), .str (Str.ofString "by_unscanned_over_white")], .int 3], .tup [.tup [.str (Str.ofString "load_grey"), .str (Str.ofString "load_white"), .str (Str.ofString "by_scanned"), .str (Str.ofString "cut_white")], .int 4]])]), ("SAFE_WAYS", .b [(false, .tup [.tup [.tup [.str (Str.ofString "new_white")], .int 1], .tup [.tup [.str (Str.ofString "by_unscanned")], .int 2], .tup [.tup [.str (Str.ofString "load_grey"), .str (Str.ofString "cut_grey")], .int 2], .tup [.tup [.str (Str.ofString "load_grey"), .str (Str.ofString "load_white"), .str (Str.ofString "cut_white")], .int 3], .tup [.tup [.str (Str.ofString "load_grey"), .str (Str.ofString "by_scanned"), .str (Str.ofString "by_unscanned_over_white")], .int 4]]), (true, .tup [.tup [.tup [.str (Str.ofString "by_unscanned")], .int 2], .tup [.tup [.str (Str.ofString "new_white"), .str (Str.ofString "by_scanned")], .int 3], .tup [.tup [.str (Str.ofString "load_grey"), .str (Str.ofString "by_scanned"), .str (Str.ofString "cut_grey")], .int 4], .tup [.tup [.str (Str.ofString "load_grey"), .str (Str.ofString "by_scanned"), .str (Str.ofString "by_unscanned_over_white")], .int 4], .tup [.tup [.str (Str.ofString "load_grey"), .str (Str.ofString "load_white"), .str (Str.ofString "by_scanned"), .str (Str.ofString "cut_white")], .int 5]])]), ("HOLDER_OF_CUT", .s [((Str.ofString "cut_grey"), .str (Str.ofString "grey")), ((Str.ofString "cut_white"), .str (Str.ofString "white"))])]
theorem rows_ok : rows.all (Row.okB (pmOf (progOf rows))) = true := by decide +kernel
abbrev R : PySem.W.OpenRow := PySem.W.OpenLaw.row PySem.Challenge.rw_shadebarriers_k80_whole_how_properties_b
def names : List PySem.Str := (["ShadeError", "BadProperty", "CLEAN", "COVERED", "DIRECT", "SAFE_properties", "STRONG", "WEAK", "PROPERTIES", "check_word", "SAFE_judging", "SCANNED", "UNSCANNED", "STATES", "BLACK", "GREY", "WHITE", "NONE", "OLD_VALUES", "NEW_VALUES", "NEW_WHITE", "LOAD_GREY", "LOAD_WHITE", "LOAD_BLACK", "BY_UNSCANNED", "OVER_WHITE", "BY_SCANNED", "CUT_GREY", "CUT_WHITE", "GAPS"] : List PySem.Str) ++ (["WAYS", "SAFE_WAYS", "HOLDER_OF_CUT", "ways_to_break", "marks_into_black", "cuts", "marks_that_close", "known_marks", "open_marks", "gaps_of", "breaks", "holds", "properties_of", "cut_entry", "steps_of_way", "shortest_way", "fewest_steps", "_law_pot", "_law_take", "_law_of", "_law_marks", "_law_groups", "_law_table", "_law_kinds", "_law_cuts", "_law_opened", "_law_edge", "_law_steps", "_law_book_right", "_law_right"] : List PySem.Str)
abbrev hk : PySem.W.Hook := hookM 4 (factsOf rows) (rows.map Row.dd) (fun K => csB cs K && tabsB ts K) ts
def ob (s : PySem.W.SharedT) : AlM := obsM 4 (factsOf rows) (rows.map Row.dd) (fun K => csB cs K && tabsB ts K) ts (HandSHeadRun.getT s)
theorem ob_eq (s : PySem.W.SharedT) : ob s = hk.obs s.abs := obsM_eq (HandSHeadRun.getT_eq s)
theorem run (w : World) : HandSHeadRun.RunEq R (PySem.W.view R.prog [64]) hk ob 3000 names w := run_ft (fun w => by intro os; kernel_rfl) (fun w => by intro os; kernel_rfl) w
def depth : Nat := 14
def fuel : Nat := 1000
abbrev CF (k : Nat) : Cfg := cfgN (progOf rows) (fun y => cs.lookup y) (fun y => ts.lookup y) fuel k
theorem has {f : String} {d : FD} (k : Nat) (h : (progOf rows).lookup f = some d) : HasD (CF (k + 1)) f d (CF k) := hasN h
@[simp] theorem c_CLEAN (k : Nat) : (CF k).cst "CLEAN" = some (.str (Str.ofString "clean")) := rfl
@[simp] theorem c_COVERED (k : Nat) : (CF k).cst "COVERED" = some (.str (Str.ofString "covered")) := rfl
@[simp] theorem c_DIRECT (k : Nat) : (CF k).cst "DIRECT" = some (.str (Str.ofString "direct")) := rfl
@[simp] theorem c_SAFE_properties (k : Nat) : (CF k).cst "SAFE_properties" = some (.str (Str.ofString "safe")) := rfl
@[simp] theorem c_STRONG (k : Nat) : (CF k).cst "STRONG" = some (.str (Str.ofString "strong")) := rfl
@[simp] theorem c_WEAK (k : Nat) : (CF k).cst "WEAK" = some (.str (Str.ofString "weak")) := rfl
@[simp] theorem c_PROPERTIES (k : Nat) : (CF k).cst "PROPERTIES" = some (.tup [.str (Str.ofString "clean"), .str (Str.ofString "covered"), .str (Str.ofString "direct"), .str (Str.ofString "safe"), .str (Str.ofString "strong"), .str (Str.ofString "weak")]) := rfl
@[simp] theorem c_SAFE_judging (k : Nat) : (CF k).cst "SAFE_judging" = some (.str (Str.ofString "safe")) := rfl
@[simp] theorem c_SCANNED (k : Nat) : (CF k).cst "SCANNED" = some (.str (Str.ofString "scanned")) := rfl
@[simp] theorem c_UNSCANNED (k : Nat) : (CF k).cst "UNSCANNED" = some (.str (Str.ofString "unscanned")) := rfl
@[simp] theorem c_STATES (k : Nat) : (CF k).cst "STATES" = some (.tup [.str (Str.ofString "scanned"), .str (Str.ofString "unscanned")]) := rfl
@[simp] theorem c_BLACK (k : Nat) : (CF k).cst "BLACK" = some (.str (Str.ofString "black")) := rfl
@[simp] theorem c_GREY (k : Nat) : (CF k).cst "GREY" = some (.str (Str.ofString "grey")) := rfl
@[simp] theorem c_WHITE (k : Nat) : (CF k).cst "WHITE" = some (.str (Str.ofString "white")) := rfl
@[simp] theorem c_NONE (k : Nat) : (CF k).cst "NONE" = some (.str (Str.ofString "none")) := rfl
@[simp] theorem c_OLD_VALUES (k : Nat) : (CF k).cst "OLD_VALUES" = some (.tup [.str (Str.ofString "none"), .str (Str.ofString "grey"), .str (Str.ofString "black")]) := rfl
@[simp] theorem c_NEW_VALUES (k : Nat) : (CF k).cst "NEW_VALUES" = some (.tup [.str (Str.ofString "none"), .str (Str.ofString "grey"), .str (Str.ofString "black"), .str (Str.ofString "white")]) := rfl
@[simp] theorem c_NEW_WHITE (k : Nat) : (CF k).cst "NEW_WHITE" = some (.str (Str.ofString "new_white")) := rfl
@[simp] theorem c_LOAD_GREY (k : Nat) : (CF k).cst "LOAD_GREY" = some (.str (Str.ofString "load_grey")) := rfl
@[simp] theorem c_LOAD_WHITE (k : Nat) : (CF k).cst "LOAD_WHITE" = some (.str (Str.ofString "load_white")) := rfl
@[simp] theorem c_LOAD_BLACK (k : Nat) : (CF k).cst "LOAD_BLACK" = some (.str (Str.ofString "load_black")) := rfl
@[simp] theorem c_BY_UNSCANNED (k : Nat) : (CF k).cst "BY_UNSCANNED" = some (.str (Str.ofString "by_unscanned")) := rfl
@[simp] theorem c_OVER_WHITE (k : Nat) : (CF k).cst "OVER_WHITE" = some (.str (Str.ofString "by_unscanned_over_white")) := rfl
@[simp] theorem c_BY_SCANNED (k : Nat) : (CF k).cst "BY_SCANNED" = some (.str (Str.ofString "by_scanned")) := rfl
@[simp] theorem c_CUT_GREY (k : Nat) : (CF k).cst "CUT_GREY" = some (.str (Str.ofString "cut_grey")) := rfl
@[simp] theorem c_CUT_WHITE (k : Nat) : (CF k).cst "CUT_WHITE" = some (.str (Str.ofString "cut_white")) := rfl
@[simp] theorem c_GAPS (k : Nat) : (CF k).cst "GAPS" = some (.tup [.str (Str.ofString "new_white"), .str (Str.ofString "load_grey"), .str (Str.ofString "load_white"), .str (Str.ofString "load_black"), .str (Str.ofString "by_unscanned"), .str (Str.ofString "by_unscanned_over_white"), .str (Str.ofString "by_scanned"), .str (Str.ofString "cut_grey"), .str (Str.ofString "cut_white")]) := rfl
@[simp] theorem t_WAYS (k : Nat) : (CF k).tab "WAYS" = some (.s [((Str.ofString "clean"), .tup [.tup [.tup [.str (Str.ofString "new_white")], .int 1], .tup [.tup [.str (Str.ofString "load_grey")], .int 1], .tup [.tup [.str (Str.ofString "by_unscanned"), .str (Str.ofString "load_black")], .int 2]]), ((Str.ofString "covered"), .tup [.tup [.tup [.str (Str.ofString "new_white")], .int 1], .tup [.tup [.str (Str.ofString "load_grey"), .str (Str.ofString "cut_grey")], .int 2], .tup [.tup [.str (Str.ofString "by_unscanned"), .str (Str.ofString "load_black")], .int 2], .tup [.tup [.str (Str.ofString "load_grey"), .str (Str.ofString "load_white"), .str (Str.ofString "cut_white")], .int 3], .tup [.tup [.str (Str.ofString "load_grey"), .str (Str.ofString "by_scanned"), .str (Str.ofString "by_unscanned_over_white"), .str (Str.ofString "load_black")], .int 4]]), ((Str.ofString "direct"), .tup [.tup [.tup [.str (Str.ofString "new_white")], .int 1], .tup [.tup [.str (Str.ofString "load_grey"), .str (Str.ofString "cut_grey")], .int 2], .tup [.tup [.str (Str.ofString "load_grey"), .str (Str.ofString "load_white")], .int 2], .tup [.tup [.str (Str.ofString "by_unscanned"), .str (Str.ofString "load_black")], .int 2], .tup [.tup [.str (Str.ofString "load_grey"), .str (Str.ofString "by_scanned"), .str (Str.ofString "by_unscanned_over_white"), .str (Str.ofString "load_black")], .int 4]]), ((Str.ofString "strong"), .tup [.tup [.tup [.str (Str.ofString "by_unscanned")], .int 1], .tup [.tup [.str (Str.ofString "new_white"), .str (Str.ofString "by_scanned")], .int 2], .tup [.tup [.str (Str.ofString "load_grey"), .str (Str.ofString "by_scanned")], .int 2]]), ((Str.ofString "weak"), .tup [.tup [.tup [.str (Str.ofString "by_unscanned")], .int 1], .tup [.tup [.str (Str.ofString "new_white"), .str (Str.ofString "by_scanned")], .int 2], .tup [.tup [.str (Str.ofString "load_grey"), .str (Str.ofString "by_scanned"), .str (Str.ofString "cut_grey")], .int 3], .tup [.tup [.str (Str.ofString "load_grey"), .str (Str.ofString "by_scanned"), .str (Str.ofString "by_unscanned_over_white")], .int 3], .tup [.tup [.str (Str.ofString "load_grey"), .str (Str.ofString "load_white"), .str (Str.ofString "by_scanned"), .str (Str.ofString "cut_white")], .int 4]])]) := rfl
@[simp] theorem t_SAFE_WAYS (k : Nat) : (CF k).tab "SAFE_WAYS" = some (.b [(false, .tup [.tup [.tup [.str (Str.ofString "new_white")], .int 1], .tup [.tup [.str (Str.ofString "by_unscanned")], .int 2], .tup [.tup [.str (Str.ofString "load_grey"), .str (Str.ofString "cut_grey")], .int 2], .tup [.tup [.str (Str.ofString "load_grey"), .str (Str.ofString "load_white"), .str (Str.ofString "cut_white")], .int 3], .tup [.tup [.str (Str.ofString "load_grey"), .str (Str.ofString "by_scanned"), .str (Str.ofString "by_unscanned_over_white")], .int 4]]), (true, .tup [.tup [.tup [.str (Str.ofString "by_unscanned")], .int 2], .tup [.tup [.str (Str.ofString "new_white"), .str (Str.ofString "by_scanned")], .int 3], .tup [.tup [.str (Str.ofString "load_grey"), .str (Str.ofString "by_scanned"), .str (Str.ofString "cut_grey")], .int 4], .tup [.tup [.str (Str.ofString "load_grey"), .str (Str.ofString "by_scanned"), .str (Str.ofString "by_unscanned_over_white")], .int 4], .tup [.tup [.str (Str.ofString "load_grey"), .str (Str.ofString "load_white"), .str (Str.ofString "by_scanned"), .str (Str.ofString "cut_white")], .int 5]])]) := rfl
@[simp] theorem t_HOLDER_OF_CUT (k : Nat) : (CF k).tab "HOLDER_OF_CUT" = some (.s [((Str.ofString "cut_grey"), .str (Str.ofString "grey")), ((Str.ofString "cut_white"), .str (Str.ofString "white"))]) := rfl
end K80

set_option maxHeartbeats 1000000
namespace K80
open PySem PySem.Spec PyProof.Rows L2 L2.TV
theorem gp : Gp CF where
  known k := has k rfl
  openm k := has k rfl
  gapsOf k := has k rfl
  breaks k := has k rfl
  holds k := has k rfl
  props k := has k rfl
  entry k := has k rfl
  steps k := has k rfl
  short k := has k rfl
  fewest k := has k rfl
  closeC k g s := call_eq (has (k + 2) (d := d_marks_that_close) rfl) rfl rfl rfl (by cases g <;> (rw [runPN]; kernel_rfl))
  waysC k b w s := call_eq (has k (d := d_ways_to_break) rfl) rfl rfl rfl (by cases b <;> cases w <;> (rw [runPN]; kernel_rfl))
  checkC k w s := call_eq (has k (d := d_check_word) rfl) rfl rfl rfl (by cases w <;> (rw [runPN]; kernel_rfl))
  cst k := ⟨rfl, rfl, rfl, rfl, rfl⟩
theorem groups_run' (k : Nat) (sto : List Cell) : runF (CF k) d__law_groups [] sto = .ok (.dk groupsT) sto := by rw [runPN]; kernel_rfl
theorem ep : Ep CF where
  take k := has k rfl
  of_ k := has k rfl
  marks k := has k rfl
  table k := has k rfl
  cuts k := has k rfl
  opened k := has k rfl
  edge k := has k rfl
  groups k := ⟨d__law_groups, has k rfl, rfl, groups_run' k⟩
theorem kinds_call (k : Nat) (s : S) : callR (CF (k + 1)) "_law_kinds" none [] s = .ok (.v (.tup (wds.map Wo.enc))) s := call_eq (has k (d := d__law_kinds) rfl) rfl rfl rfl (by rw [runPN]; kernel_rfl)
/-! ### the finite part -/
def many (f : Gap → Bool) (hd b : Bool) (w : Wo) : Int := if brk f b w then (few f hd b w).getD 0 else 9
def chkB (f : Gap → Bool) (hd b : Bool) : Bool :=
  let kept := fun w => !brk f b w
  ([(Wo.so, Wo.we), (.cl, .di), (.di, .co)].all fun p => !(kept p.1 && !kept p.2) && decide (many f hd b p.1 ≤ many f hd b p.2)) &&
  (wds.all fun w => decide (many f hd b w = 9) || (decide (1 ≤ many f hd b w) && decide (many f hd b w ≤ 5))) &&
  (wds.all fun w => decide (decide (many f hd b w = 9) = kept w)) &&
  (wds.all fun w => decide ((few f hd b w).isSome = brk f b w)) &&
  (if b then decide (many f hd b .sa = min 9 (many f hd b .we + 1)) else
    decide (kept .sa = (kept .we && kept .co)) && decide (many f hd b .sa ≤ min 9 (many f hd b .we + 1)) && decide (many f hd b .sa ≤ many f hd b .co))
def mkf (a1 a2 a3 a4 a5 a6 a7 a8 a9 : Bool) : Gap → Bool
  | .nw => a1 | .lg => a2 | .lw => a3 | .lb => a4 | .bu => a5 | .ou => a6 | .bs => a7 | .cg => a8 | .cw => a9
theorem chk_all : ∀ a1 a2 a3 a4 a5 a6 a7 a8 a9 hd b : Bool, chkB (mkf a1 a2 a3 a4 a5 a6 a7 a8 a9) hd b = true := by decide +kernel
theorem chk (f : Gap → Bool) (hd b : Bool) : chkB f hd b = true := by
  have e : f = mkf (f .nw) (f .lg) (f .lw) (f .lb) (f .bu) (f .ou) (f .bs) (f .cg) (f .cw) := by funext g; cases g <;> rfl
  rw [e]
  exact chk_all ..
/-! ### the walk -/
def stpT (m : Wo → Int) : T := .dk (wds.map fun w => (.inr w.s, .int (m w)))
@[simp high] theorem Ki2_st {m : Wo → Int} {w : Wo} {P : Rt → S → Prop} {s : S} : Ki2 (.v (stpT m)) P (.v (Wo.enc w)) s = P (.v (.int (m w))) s := by cases w <;> rfl
theorem steps_dict (m : Wo → Int) : dictT (.lst (wds.map fun w => .tup [Wo.enc w, .int (m w)])) = some (.k (wds.map fun w => (.inr w.s, .int (m w)))) := by kernel_rfl
theorem steps_call {k : Nat} {L : List (List Str)} {b : Bool} (hm : ∀ m ∈ L, isMk m = true) (hz : L.length ≤ 16777000) (s : S) : callR (CF (k + 9)) "_law_steps" none [.v (tblT L b)] s = .ok (.v (stpT (many (isOpen (inL L)) (hard (inL L)) b))) s := by
  refine call_eq (has (k + 8) (d := d__law_steps) rfl) rfl rfl rfl ?_
  refine OkC.eq (run_C (env := [.val (tblT L b), .none]) rfl (by decide) rfl ?_)
  have ck := chk (isOpen (inL L)) (hard (inL L)) b
  simp only [chkB, Bool.and_eq_true, List.all_eq_true] at ck
  obtain ⟨⟨⟨⟨_, _⟩, _⟩, cf⟩, _⟩ := ck
  simp [d__law_steps]
  rw [lcM Wo.enc wds (fun w => .tup [Wo.enc w, .int (many (isOpen (inL L)) (hard (inL L)) b w)]) (env := [.val (tblT L b), .none]) (sto := s.sto) (by simp [kinds_call]) rfl (fun w hw => by
    have c1 := of_decide_eq_true (cf w hw)
    have t1 : Rt.t (.v (Wo.enc w)) = some (Wo.enc w) := rfl
    simp [holds_call gp hm hz, t1]
    cases e : brk (isOpen (inL L)) b w with
    | false => simp [many, e]
    | true =>
      rw [e, Option.isSome_iff_exists] at c1
      obtain ⟨m, hm'⟩ := c1
      simp [few_call gp hm hz, many, e, hm', encFew]) (by decide)]
  simp [fnT, steps_dict]
  rfl
@[simp high] theorem Ki2_sa {m : Wo → Int} {P : Rt → S → Prop} {s : S} : Ki2 (.v (stpT m)) P (.v (.str (Str.ofString "safe"))) s = P (.v (.int (m .sa))) s := Ki2_st (w := .sa)
@[simp high] theorem Ki2_we {m : Wo → Int} {P : Rt → S → Prop} {s : S} : Ki2 (.v (stpT m)) P (.v (.str (Str.ofString "weak"))) s = P (.v (.int (m .we))) s := Ki2_st (w := .we)
@[simp high] theorem Ki2_co {m : Wo → Int} {P : Rt → S → Prop} {s : S} : Ki2 (.v (stpT m)) P (.v (.str (Str.ofString "covered"))) s = P (.v (.int (m .co))) s := Ki2_st (w := .co)
@[simp high] theorem t_st {m : Wo → Int} : Rt.t (.v (stpT m)) = some (stpT m) := rfl
@[simp high] theorem t_wo {w : Wo} : Rt.t (.v (Wo.enc w)) = some (Wo.enc w) := rfl
@[simp high] theorem res_wo {w : Wo} {s : S} : Rt.res (.v (Wo.enc w)) s = some (Wo.enc w) := rfl
def encP2 (p : Wo × Wo) : T := .tup [p.1.enc, p.2.enc]
theorem book_call {k : Nat} {L : List (List Str)} {b : Bool} (hm : ∀ m ∈ L, isMk m = true) (hz : L.length ≤ 16777000) (s : S) : callR (CF (k + 10)) "_law_book_right" none [.v (tblT L b)] s = .ok (.v (.bl true)) s := by
  refine call_eq (has (k + 9) (d := d__law_book_right) rfl) rfl rfl rfl ?_
  refine OkC.eq (run_C (env := [.val (tblT L b), .none, .none, .none, .none, .none, .none]) rfl (by decide) rfl ?_)
  have ck := chk (isOpen (inL L)) (hard (inL L)) b
  simp [d__law_book_right, props_call gp hm hz, steps_call hm hz]
  obtain ⟨m, em⟩ : ∃ m, m = many (isOpen (inL L)) (hard (inL L)) b := ⟨_, rfl⟩
  obtain ⟨kp, ek⟩ : ∃ kp : Wo → Bool, kp = fun w => !brk (isOpen (inL L)) b w := ⟨_, rfl⟩
  have ck1 : ([(Wo.so, Wo.we), (.cl, .di), (.di, .co)].all fun p => !(kp p.1 && !kp p.2) && decide (m p.1 ≤ m p.2)) = true ∧ (wds.all fun w => decide (m w = 9) || (decide (1 ≤ m w) && decide (m w ≤ 5))) = true ∧ (wds.all fun w => decide (decide (m w = 9) = kp w)) = true ∧
      (if b then decide (m .sa = min 9 (m .we + 1)) else decide (kp .sa = (kp .we && kp .co)) && decide (m .sa ≤ min 9 (m .we + 1)) && decide (m .sa ≤ m .co)) = true := by
    rw [em, ek]
    unfold chkB at ck
    simp only [Bool.and_eq_true] at ck
    exact ⟨ck.1.1.1.1, ck.1.1.1.2, ck.1.1.2, ck.2⟩
  obtain ⟨c1, c2, c3, c4⟩ := ck1
  rw [← em, ← ek]
  have inK : ∀ w : Wo, inB (Wo.enc w) (.tup ((wds.filter kp).map Wo.enc)) = some (kp w) := fun w => by
    rw [wos_in (wds.filter kp) w (Nat.le_trans (List.length_filter_le _ _) (by decide))]
    have : w ∈ wds := by cases w <;> decide
    congr 1
    rw [Bool.eq_iff_iff]
    simp [List.mem_filter, this]
  refine Kfor_C encP2 [(.so, .we), (.cl, .di), (.di, .co)] (fun j s' => ∃ v3 v4, s' = ⟨[.val (tblT L b), .val (.tup ((wds.filter kp).map Wo.enc)), .val (stpT m), v3, v4, .none, .none], s.sto⟩) ⟨_, _, rfl⟩ (fun j p s' J hj ⟨v3, v4, e⟩ hJ => ?_) fun s' ⟨v3, v4, e⟩ => ?_
  · subst e
    have pm := List.all_eq_true.mp c1 p (List.mem_of_getElem? hj)
    simp only [Bool.and_eq_true, decide_eq_true_eq] at pm
    obtain ⟨p1, p2⟩ := pm
    refine ⟨[.val (tblT L b), .val (.tup ((wds.filter kp).map Wo.enc)), .val (stpT m), .val p.1.enc, .val p.2.enc, .none, .none], rfl, ?_⟩
    have np : ¬ m p.2 < m p.1 := by omega
    simp [inK]
    cases e1 : kp p.1 with
    | false =>
      simp [np]
      exact hJ _ ⟨_, _, rfl⟩
    | true =>
      rw [e1] at p1
      cases e2 : kp p.2 with
      | false => rw [e2] at p1; cases p1
      | true =>
        simp [inK, e2, np]
        exact hJ _ ⟨_, _, rfl⟩
  · subst e
    simp
    rw [lcIW (fun w => .int (m w)) wds (fun _ => true) (fun w => .bl true) (fun w => [.val (tblT L b), .val (.tup ((wds.filter kp).map Wo.enc)), .val (stpT m), v3, v4, .none, .val (.int (m w))]) (d := wds.map fun w => (.inr w.s, .int (m w))) (env := [.val (tblT L b), .val (.tup ((wds.filter kp).map Wo.enc)), .val (stpT m), v3, v4, .none, .none]) (sto := s.sto) (by simp [stpT]) (by simp [itemsL]) rfl (fun w _ => rfl) (fun w _ => rfl) (fun w _ => by simp) (fun w hw _ => by
      have := List.all_eq_true.mp c2 w hw
      simp only [Bool.or_eq_true, Bool.and_eq_true, decide_eq_true_eq] at this
      by_cases e9 : m w = 9
      · simp [e9]
      · have h12 := this.resolve_left e9
        simp [e9, h12.1, h12.2]) (by decide)]
    rw [List.filter_eq_self.mpr (fun _ _ => rfl)]
    simp [show (wds.all fun _ : Wo => true) = true from rfl]
    have fe : (wds.filter fun w => decide (m w = 9)) = wds.filter kp := List.filter_congr fun w hw => of_decide_eq_true (List.all_eq_true.mp c3 w hw)
    rw [lcF Wo.enc wds (fun w => decide (m w = 9)) (env := [.val (tblT L b), .val (.tup ((wds.filter kp).map Wo.enc)), .val (stpT m), v3, v4, .none, .none]) (sto := s.sto) (by simp [kinds_call]) (by simp) rfl (fun w hw => by simp) (by decide)]
    rw [fe]
    have ee : eqB (.lst ((wds.filter kp).map Wo.enc)) (.lst ((wds.filter kp).map Wo.enc)) = some true := (Tm.lst (wos_tm _)).eqs (by decide)
    simp [fnT, lstT, ee]
    have i1 : inB (.str (Str.ofString "safe")) (.tup ((wds.filter kp).map Wo.enc)) = some (kp .sa) := inK .sa
    have i2 : inB (.str (Str.ofString "weak")) (.tup ((wds.filter kp).map Wo.enc)) = some (kp .we) := inK .we
    have i3 : inB (.str (Str.ofString "covered")) (.tup ((wds.filter kp).map Wo.enc)) = some (kp .co) := inK .co
    have mn : ∀ i j : Int, (if j < i then j else i) = min i j := fun i j => by omega
    cases b with
    | true =>
      rw [if_pos rfl] at c4
      have c4' := of_decide_eq_true c4
      simp [fnT, min2T, mn, c4']
    | false =>
      simp only [Bool.false_eq_true, if_false, Bool.and_eq_true, decide_eq_true_eq] at c4
      obtain ⟨⟨d1, d2⟩, d3⟩ := c4
      simp [i1, i2, i3]
      have d2' : m .sa ≤ 9 ∧ m .sa ≤ m .we + 1 := by omega
      cases ew : kp .we with
      | false =>
        rw [ew, Bool.false_and] at d1
        simp [d1, fnT, min2T, mn]
        rw [decide_eq_true d2]
        simp [d3]
      | true =>
        rw [ew, Bool.true_and] at d1
        simp [i3, d1, fnT, min2T, mn]
        rw [decide_eq_true d2]
        simp [d3]
theorem right_C {a : Nat} {sto : List Cell} (hp : Pot a 0 sto) : OkC (runF (CF 13) d__law_right [.ref a] sto) fun t sto' => t = .bl true ∧ sto'.all Cell.flat = true := by
  refine run_C (env := [.val (.ref a), .none, .none]) rfl (by decide) rfl ?_
  simp [d__law_right]
  refine Krg_C (n := 10) rfl (by decide) ?_
  refine Kfor_C encN (List.range 10) (fun j s => ∃ v1 v2 sto, s = ⟨[.val (.ref a), v1, v2], sto⟩ ∧ Pot a (100 * j) sto) ⟨_, _, _, rfl, hp⟩ (fun j t s J hj ⟨v1, v2, sto, e, p1⟩ hJ => ?_) fun s ⟨v1, v2, sto, e, p1⟩ => ?_
  · subst e
    have jl := (List.getElem?_eq_some_iff.mp hj).1
    rw [List.length_range] at jl
    refine ⟨[.val (.ref a), .val (encN t), v2], rfl, ?_⟩
    simp
    refine edge_call ep (k := 9) p1 (by omega) fun ms b sto2 m1 m2 p2 => ?_
    have mk : ∀ m ∈ ms, isMk m = true := fun m h => mark_mk (m1 m h)
    have bc : ∀ s, callR (CF 13) "_law_book_right" none [.v (.tup [.tup (ms.map tupS), .bl (!b)])] s = .ok (.v (.bl true)) s := fun s => book_call (k := 3) (b := !b) mk (by omega) s
    simp [book_call (k := 3) mk (show ms.length ≤ 16777000 by omega), bc]
    exact hJ _ ⟨_, _, _, rfl, p2.mono (by omega)⟩
  · subst e
    simpa using p1.1
theorem main (ns : List Int) (h : ns.length ≤ 63) : ∃ sto, callN (progOf rows) (fun y => cs.lookup y) (fun y => ts.lookup y) fuel (depth + 1) "law" [.scr ns] [] = .ok (.bl true) sto := by
  exact law_main (d := Sh.d_lawA 3) rfl (lawA_C (by decide) (by decide) (has 13 (d := d__law_right) rfl) (has 13 (d := Sh.d__law_pot) rfl) rfl h fun n sto hp => right_C hp)
end K80

set_option maxHeartbeats 0
open PySem PySem.W PySem.Calls PyProof.Rows
theorem PySem.Challenge.cw_shadebarriers_k80_whole_how_properties_b_holds : PySem.Challenge.rw_shadebarriers_k80_whole_how_properties_b.Holds := by
  w_on; o_law
  refine HandSHeadRun.head_any (r := OpenLaw.row PySem.Challenge.rw_shadebarriers_k80_whole_how_properties_b) (q := view (OpenLaw.row PySem.Challenge.rw_shadebarriers_k80_whole_how_properties_b).prog [64]) (H := K80.hk) (ob := K80.ob) (M := 3000) (loose := K80.names) (d := HandSHeadRun.topDef (OpenLaw.row PySem.Challenge.rw_shadebarriers_k80_whole_how_properties_b).prog 64) (kwd := []) K80.ob_eq
    (by kernel_rfl) (fun s => by kernel_rfl) K80.run (by kernel_rfl) (by kernel_rfl) (by kernel_rfl) (by rfl) (by first | assumption | decide +kernel) (by decide +kernel) ⟨rfl, rfl, rfl, rfl, rfl, by decide +kernel⟩ ?hw ?hc
  case hw => w_witness2
  case hc =>
    exact L2.TV.law_walk (l := PySem.Challenge.rw_shadebarriers_k80_whole_how_properties_b) (n := 63) (k := K80.depth) (fuel := K80.fuel) (x := "_law_script") rfl (by decide) (by kernel_rfl) ⟨rfl, by decide, by decide⟩ (by decide +kernel) (by kernel_rfl) K80.rows_ok rfl rfl K80.main
